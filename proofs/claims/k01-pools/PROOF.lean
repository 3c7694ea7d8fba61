import PyProof.Rows.All
import Wide.All
import OpenK.AllK
import Wide.FinOn
import HandS.ForMost
import HandS.Exc
import HandS.ExcOwn
import HandS.WordsExc
import HandS.CallSlots
import HandS.Defaults
import HandS.MakeKw
import HandS.MakeKwOnly
import HandS.Wide
import HandS.Flow
import HandS.NoneIn
import HandS.TryOnly
import HandS.Style
import HandS.TupAny
import HandS.IsInst
import HandS.HeadHook2
import HandS.HeadEnd
import HandS.Head2
import KE.KExcInit
import HandS.ExcInit
import HandS.ExcIs
import HandS.SortRule
import HandS.Zip
import HandS.SetFor
import HandS.Strs
import HandS.SortInts
import HandS.OwnEq
import HandS.Codes
import HandS.FStr
import HandS.RaiseMore
import KE.KCallOwn
import KE.GoesZip
import KE.GoesMore
import KE.GoesEnumKw
import HandS.TupMul
import PyProof.StrOps2
import HandS.Conv
import HandS.Dict
import PyProof.ListRange
import KE.KRevSl
import HandS.Text
import HandS.Deep
import PySem.Challenge.RW_leasepair_k01_pools_made
set_option Elab.async false
set_option linter.all false
set_option maxRecDepth 100000
set_option maxHeartbeats 4000000
/-! mirrors: data, abstract heaps, how they lie in the concrete heap -/
namespace MP
open PySem PySem.Spec L2
open PyProof.Rows hiding St

inductive D where
  | non | bl (b : Bool) | int (i : Int) | str (x : Str) | tup (xs : List D) | lst (xs : List D) | fz (xs : List D) | ref (n : Nat) | cst (i : Nat) | obj (c : Nat) (ks : List Str) (xs : List D)
inductive AO where
  | lst (xs : List D)
  | dct (kvs : List (Key × D))
  | ins (c : Nat) (fs : List (Str × D))
mutual
def D.eqb : D → D → Bool
  | .non, .non => true
  | .bl a, .bl b => a == b
  | .int a, .int b => a == b
  | .str a, .str b => decide (a = b)
  | .tup a, .tup b => D.eqbL a b
  | .lst a, .lst b => D.eqbL a b
  | .fz a, .fz b => D.eqbL a b
  | .ref a, .ref b => a == b
  | .cst a, .cst b => a == b
  | .obj a ks xs, .obj b js ys => (a == b && decide (ks = js)) && D.eqbL xs ys
  | _, _ => false
def D.eqbL : List D → List D → Bool
  | [], [] => true
  | a :: as, b :: bs => D.eqb a b && D.eqbL as bs
  | _, _ => false
end
mutual
theorem D.eqb_eq : ∀ {a b : D}, D.eqb a b = true → a = b
  | .non, b, h => by cases b <;> simp [D.eqb] at h ⊢
  | .bl a, b, h => by cases b <;> simp [D.eqb] at h ⊢ <;> exact h
  | .int a, b, h => by cases b <;> simp [D.eqb] at h ⊢ <;> exact h
  | .str a, b, h => by cases b <;> simp [D.eqb] at h ⊢ <;> exact h
  | .tup a, b, h => by cases b <;> simp [D.eqb] at h ⊢ <;> exact D.eqbL_eq h
  | .lst a, b, h => by cases b <;> simp [D.eqb] at h ⊢ <;> exact D.eqbL_eq h
  | .fz a, b, h => by cases b <;> simp [D.eqb] at h ⊢ <;> exact D.eqbL_eq h
  | .ref a, b, h => by cases b <;> simp [D.eqb] at h ⊢ <;> exact h
  | .cst a, b, h => by cases b <;> simp [D.eqb] at h ⊢ <;> exact h
  | .obj a ks xs, b, h => by cases b <;> simp [D.eqb] at h ⊢ <;> exact ⟨h.1.1, h.1.2, D.eqbL_eq h.2⟩
theorem D.eqbL_eq : ∀ {a b : List D}, D.eqbL a b = true → a = b
  | [], b, h => by cases b <;> simp [D.eqbL] at h ⊢
  | a :: as, b, h => by
    cases b with
    | nil => simp [D.eqbL] at h
    | cons b bs =>
      simp only [D.eqbL, Bool.and_eq_true] at h
      rw [D.eqb_eq h.1, D.eqbL_eq h.2]
end
mutual
theorem D.eqb_refl : ∀ a : D, D.eqb a a = true
  | .non => rfl
  | .bl a => by simp [D.eqb]
  | .int a => by simp [D.eqb]
  | .str a => by simp [D.eqb]
  | .tup a => by simp only [D.eqb]; exact D.eqbL_refl a
  | .lst a => by simp only [D.eqb]; exact D.eqbL_refl a
  | .fz a => by simp only [D.eqb]; exact D.eqbL_refl a
  | .ref a => by simp [D.eqb]
  | .cst a => by simp [D.eqb]
  | .obj a ks xs => by simp only [D.eqb, beq_self_eq_true, decide_true, Bool.true_and]; exact D.eqbL_refl xs
theorem D.eqbL_refl : ∀ a : List D, D.eqbL a a = true
  | [] => rfl
  | a :: as => by simp only [D.eqbL, D.eqb_refl a, D.eqbL_refl as, Bool.and_self]
end
structure AH where
  l : List AO
def AH.n (h : AH) : Nat := h.l.length
def AH.g (h : AH) (k : Nat) : Option AO := h.l[k]?
def AH.put (h : AH) (i : Nat) (o : AO) : AH := ⟨h.l.set i o⟩
def AH.new (h : AH) (o : AO) : AH := ⟨h.l ++ [o]⟩
/-- the first m objects alone -/
def AH.cut (h : AH) (m : Nat) : AH := ⟨h.l.take m⟩
theorem AH.put_n (h : AH) (i : Nat) (o : AO) : (h.put i o).n = h.n := by simp [AH.n, AH.put]
theorem AH.new_n (h : AH) (o : AO) : (h.new o).n = h.n + 1 := by simp [AH.n, AH.new]
theorem AH.g_lt {h : AH} {k : Nat} {o : AO} (e : h.g k = some o) : k < h.n := (List.getElem?_eq_some_iff.mp e).1
theorem AH.g_none {h : AH} {k : Nat} (e : h.n ≤ k) : h.g k = none := List.getElem?_eq_none e
theorem AH.g_some {h : AH} {k : Nat} (e : k < h.n) : ∃ o, h.g k = some o := ⟨_, List.getElem?_eq_getElem e⟩
theorem AH.put_g (h : AH) (i : Nat) (o : AO) (k : Nat) : (h.put i o).g k = if k = i then (h.g k).map fun _ => o else h.g k := by
  unfold AH.g AH.put
  rw [List.getElem?_set]
  by_cases e : i = k
  · subst e
    by_cases hl : i < h.l.length
    · simp [hl]
    · simp [hl]
  · rw [if_neg e, if_neg fun z => e z.symm]
theorem AH.new_g (h : AH) (o : AO) (k : Nat) : (h.new o).g k = if k = h.n then some o else h.g k := by
  unfold AH.g AH.new AH.n
  rw [List.getElem?_append]
  by_cases e : k < h.l.length
  · rw [if_pos e, if_neg (by omega)]
  · rw [if_neg e]
    by_cases z : k = h.l.length
    · subst z; simp
    · rw [if_neg z, List.getElem?_eq_none (by simp only [List.length_singleton]; omega), List.getElem?_eq_none (by omega)]
theorem AH.cut_g (h : AH) (m k : Nat) : (h.cut m).g k = if k < m then h.g k else none := by
  unfold AH.g AH.cut
  rw [List.getElem?_take]
theorem AH.cut_n (h : AH) (m : Nat) (hm : m ≤ h.n) : (h.cut m).n = m := by
  simp only [AH.n, AH.cut, List.length_take]
  exact Nat.min_eq_left hm
theorem AH.ext {h h' : AH} (e : ∀ k, h.g k = h'.g k) : h = h' := by
  cases h; cases h'
  congr 1
  exact List.ext_getElem? e
theorem AH.cut_all (h : AH) : h.cut h.n = h := by cases h; simp [AH.cut, AH.n]
theorem AH.put_if {h : AH} {k : Nat} {o o' : AO} (e : h.g k = some o) (j : Nat) : (h.put k o').g j = if j = k then some o' else h.g j := by
  rw [AH.put_g]
  by_cases z : j = k
  · subst z; rw [if_pos rfl, if_pos rfl, e]; rfl
  · rw [if_neg z, if_neg z]
structure Ex where
  c : Nat
  fs : List (Str × D)
inductive Res (α : Type) where
  | ok (a : α) (h : AH)
  | ex (e : Ex) (h : AH)
  | st
/-- the world of a proof: the written part, the classes' addresses -/
structure Wd where
  K : PySem.W.Frag
  T : Nat → Addr
/-- how an abstract heap lies: so many ids, their addresses, the part of the heap that is spoken of -/
structure Cf where
  n : Nat
  ρ : Nat → Addr
  G : Hp
def Cf.noid (c : Cf) (a : Addr) : Prop := ∀ k, k < c.n → c.ρ k ≠ a

/-- a list that nobody writes -/
def LstR (w : Wd) (c : Cf) (a : Addr) (vs : List V) : Prop := c.G a = some (.lst vs) ∧ c.noid a
/-- a list that is locked or of the top's -/
def FzR (w : Wd) (c : Cf) (a : Addr) (vs : List V) : Prop := (Rd c.G a (.lst vs) ∧ c.noid a) ∨ SqL w.K (fun _ => none) a vs
def TupR (w : Wd) (c : Cf) (a : Addr) (vs : List V) : Prop := (Rd c.G a (.tup vs) ∧ c.noid a) ∨ SqT w.K (fun _ => none) a vs
mutual
def Rep (w : Wd) (c : Cf) : D → V → Prop
  | .non, v => v = .non
  | .bl b, v => v = .bl b
  | .int i, v => v = .int i
  | .str x, v => v = .str x
  | .tup ds, v => ∃ a vs, v = .ref a ∧ TupR w c a vs ∧ RepL w c ds vs
  | .lst ds, v => ∃ a vs, v = .ref a ∧ LstR w c a vs ∧ RepL w c ds vs
  | .fz ds, v => ∃ a vs, v = .ref a ∧ FzR w c a vs ∧ RepL w c ds vs
  | .ref k, v => v = .ref (c.ρ k) ∧ k < c.n
  | .cst i, v => v = .ref (w.T i)
  | .obj k ks ds, v => ∃ a dx vs, v = .ref a ∧ c.G a = some (.ins (w.T k) dx (ks.zip vs)) ∧ c.noid a ∧ w.T k ≠ 0 ∧ ks.length = ds.length ∧ RepL w c ds vs
def RepL (w : Wd) (c : Cf) : List D → List V → Prop
  | [], vs => vs = []
  | d :: ds, vs => ∃ x xs, vs = x :: xs ∧ Rep w c d x ∧ RepL w c ds xs
end
def RepKV (w : Wd) (c : Cf) {κ : Type} : List (κ × D) → List (κ × V) → Prop
  | [], vs => vs = []
  | d :: ds, vs => ∃ x xs, vs = (d.1, x) :: xs ∧ Rep w c d.2 x ∧ RepKV w c ds xs
def RepO (w : Wd) (c : Cf) : AO → HO → Prop
  | .lst ds, o => ∃ vs, o = .lst vs ∧ RepL w c ds vs
  | .dct kvs, o => ∃ vs, o = .dK vs ∧ RepKV w c kvs vs
  | .ins k fs, o => ∃ dx vs, o = .ins (w.T k) dx vs ∧ RepKV w c fs vs ∧ w.T k ≠ 0
structure Rel (w : Wd) (c : Cf) (h : AH) (H : Hp) : Prop where
  n : c.n = h.n
  wf : ∀ k, h.n ≤ k → h.g k = none
  all : ∀ k, k < h.n → ∃ o, h.g k = some o
  inj : ∀ j k, j < c.n → k < c.n → c.ρ j = c.ρ k → j = k
  at_ : ∀ k o, h.g k = some o → ∃ u, c.G (c.ρ k) = some u ∧ RepO w c o u
  sub : ∀ a u, c.G a = some u → H a = some u
structure Ext (c : Cf) (H : Hp) (c' : Cf) (H' : Hp) : Prop where
  n : c.n ≤ c'.n
  ρ : ∀ k, k < c.n → c'.ρ k = c.ρ k
  keep : ∀ a u, H a = some u → c.noid a → H' a = some u
  keepG : ∀ a u, c.G a = some u → c.noid a → c'.G a = some u
  there : ∀ a, H a ≠ none → H' a ≠ none
  newρ : ∀ k, c.n ≤ k → k < c'.n → H (c'.ρ k) = none
  newG : ∀ a, c'.G a ≠ none → c.G a = none → H a = none
  sub : ∀ a u, c.G a = some u → H a = some u
def RelS (w : Wd) (c : Cf) : List (Option D) → St → Prop
  | [], σ => σ = []
  | none :: s, σ => ∃ x xs, σ = x :: xs ∧ RelS w c s xs
  | some d :: s, σ => ∃ v xs, σ = some v :: xs ∧ Rep w c d v ∧ RelS w c s xs

variable {w : Wd} {c c' c1 c2 : Cf} {H H' H1 H2 : Hp} {h : AH}

theorem Ext.refl (R : ∀ a u, c.G a = some u → H a = some u) : Ext c H c H :=
  ⟨Nat.le_refl _, fun _ _ => rfl, fun _ _ e _ => e, fun _ _ e _ => e, fun _ e => e, fun k a b => absurd b (Nat.not_lt.mpr a), fun _ a b => absurd b a, R⟩
theorem noneEq {α : Type} {o : Option α} (h : ¬ o ≠ none) : o = none := Classical.not_not.mp h
theorem Ext.noid1 (e : Ext c H c1 H1) {a : Addr} (ha : H a ≠ none) (n : c.noid a) : c1.noid a := fun k hk z => by
  by_cases q : k < c.n
  · rw [e.ρ k q] at z
    exact n k q z
  · have := e.newρ k (Nat.not_lt.mp q) hk
    rw [z] at this
    exact ha this
theorem Ext.trans (e1 : Ext c H c1 H1) (e2 : Ext c1 H1 c2 H2) : Ext c H c2 H2 where
  n := Nat.le_trans e1.n e2.n
  ρ k hk := by rw [e2.ρ k (Nat.lt_of_lt_of_le hk e1.n), e1.ρ k hk]
  keep a u ha n := e2.keep a u (e1.keep a u ha n) (e1.noid1 (by rw [ha]; exact nofun) n)
  keepG a u ha n := e2.keepG a u (e1.keepG a u ha n) (e1.noid1 (by rw [e1.sub a u ha]; exact nofun) n)
  there a ha := e2.there a (e1.there a ha)
  newρ k h1 h2 := by
    by_cases q : k < c1.n
    · rw [e2.ρ k q]
      exact e1.newρ k h1 q
    · have := e2.newρ k (Nat.not_lt.mp q) h2
      exact noneEq fun z => e1.there _ z this
  newG a h1 h2 := by
    by_cases q : c1.G a = none
    · have := e2.newG a h1 q
      exact noneEq fun z => e1.there _ z this
    · exact e1.newG a q h2
  sub := e1.sub
/-- all that is told stays told -/
structure Mo (c c1 : Cf) : Prop where
  n : c.n ≤ c1.n
  ρ : ∀ k, k < c.n → c1.ρ k = c.ρ k
  keepG : ∀ a u, c.G a = some u → c.noid a → c1.G a = some u
  noid : ∀ a, c.G a ≠ none → c.noid a → c1.noid a
theorem Ext.mo (e : Ext c H c1 H1) : Mo c c1 := ⟨e.n, e.ρ, e.keepG, fun a ha n => e.noid1 (by
  cases q : c.G a with
  | none => exact absurd q ha
  | some u => rw [e.sub a u q]; exact nofun) n⟩
theorem LstR.mo (e : Mo c c1) {a : Addr} {vs : List V} (r : LstR w c a vs) : LstR w c1 a vs :=
  ⟨e.keepG _ _ r.1 r.2, e.noid _ (by rw [r.1]; exact nofun) r.2⟩
theorem FzR.mo (e : Mo c c1) {a : Addr} {vs : List V} (r : FzR w c a vs) : FzR w c1 a vs := by
  rcases r with ⟨r, n⟩ | r
  · refine Or.inl ⟨?_, e.noid _ ?_ n⟩
    · rcases r with r | ⟨o, r⟩
      · exact .inl (e.keepG _ _ r n)
      · exact .inr ⟨o, e.keepG _ _ r n⟩
    · rcases r with r | ⟨o, r⟩ <;> (rw [r]; exact nofun)
  · exact Or.inr r
theorem TupR.mo (e : Mo c c1) {a : Addr} {vs : List V} (r : TupR w c a vs) : TupR w c1 a vs := by
  rcases r with ⟨r, n⟩ | r
  · refine Or.inl ⟨?_, e.noid _ ?_ n⟩
    · rcases r with r | ⟨o, r⟩
      · exact .inl (e.keepG _ _ r n)
      · exact .inr ⟨o, e.keepG _ _ r n⟩
    · rcases r with r | ⟨o, r⟩ <;> (rw [r]; exact nofun)
  · exact Or.inr r
mutual
theorem Rep.mo (e : Mo c c1) : ∀ {d : D} {v : V}, Rep w c d v → Rep w c1 d v
  | .non, _, r => by simpa [Rep] using r
  | .bl _, _, r => by simpa [Rep] using r
  | .int _, _, r => by simpa [Rep] using r
  | .str _, _, r => by simpa [Rep] using r
  | .tup ds, _, r => by
    simp only [Rep] at r ⊢
    obtain ⟨a, vs, rfl, t, q⟩ := r
    exact ⟨a, vs, rfl, t.mo e, RepL.mo e q⟩
  | .lst ds, _, r => by
    simp only [Rep] at r ⊢
    obtain ⟨a, vs, rfl, t, q⟩ := r
    exact ⟨a, vs, rfl, t.mo e, RepL.mo e q⟩
  | .fz ds, _, r => by
    simp only [Rep] at r ⊢
    obtain ⟨a, vs, rfl, t, q⟩ := r
    exact ⟨a, vs, rfl, t.mo e, RepL.mo e q⟩
  | .ref k, _, r => by
    simp only [Rep] at r ⊢
    obtain ⟨rfl, hk⟩ := r
    exact ⟨by rw [e.ρ k hk], Nat.lt_of_lt_of_le hk e.n⟩
  | .cst _, _, r => by simpa [Rep] using r
  | .obj k ks ds, _, r => by
    simp only [Rep] at r ⊢
    obtain ⟨a, dx, vs, rfl, g, n, tn, hl, q⟩ := r
    exact ⟨a, dx, vs, rfl, e.keepG _ _ g n, e.noid _ (by rw [g]; exact nofun) n, tn, hl, RepL.mo e q⟩
theorem RepL.mo (e : Mo c c1) : ∀ {ds : List D} {vs : List V}, RepL w c ds vs → RepL w c1 ds vs
  | [], _, r => by simpa [RepL] using r
  | d :: ds, _, r => by
    simp only [RepL] at r ⊢
    obtain ⟨x, xs, rfl, r1, r2⟩ := r
    exact ⟨x, xs, rfl, Rep.mo e r1, RepL.mo e r2⟩
end
theorem RepKV.mo {κ : Type} (e : Mo c c1) : ∀ {ds : List (κ × D)} {vs : List (κ × V)}, RepKV w c ds vs → RepKV w c1 ds vs
  | [], _, r => r
  | d :: ds, _, r => by
    obtain ⟨x, xs, rfl, r1, r2⟩ := r
    exact ⟨x, xs, rfl, r1.mo e, RepKV.mo e r2⟩
theorem RepO.mo (e : Mo c c1) : ∀ {o : AO} {u : HO}, RepO w c o u → RepO w c1 o u
  | .lst _, _, ⟨vs, q, r⟩ => ⟨vs, q, r.mo e⟩
  | .dct _, _, ⟨vs, q, r⟩ => ⟨vs, q, r.mo e⟩
  | .ins _ _, _, ⟨dx, vs, q, r, tn⟩ => ⟨dx, vs, q, r.mo e, tn⟩
theorem RelS.mo (e : Mo c c1) : ∀ {s : List (Option D)} {σ : L2.St}, RelS w c s σ → RelS w c1 s σ
  | [], _, r => r
  | none :: s, _, ⟨x, xs, q, r⟩ => ⟨x, xs, q, RelS.mo e r⟩
  | some d :: s, _, ⟨x, xs, q, r1, r⟩ => ⟨x, xs, q, r1.mo e, RelS.mo e r⟩
theorem Rep.ext (e : Ext c H c1 H1) {d : D} {v : V} (r : Rep w c d v) : Rep w c1 d v := r.mo e.mo
theorem RepL.ext (e : Ext c H c1 H1) {d : List D} {v : List V} (r : RepL w c d v) : RepL w c1 d v := r.mo e.mo
theorem RepKV.ext {κ : Type} (e : Ext c H c1 H1) {d : List (κ × D)} {v : List (κ × V)} (r : RepKV w c d v) : RepKV w c1 d v := r.mo e.mo
theorem RepO.ext (e : Ext c H c1 H1) {o : AO} {u : HO} (r : RepO w c o u) : RepO w c1 o u := r.mo e.mo
theorem RelS.ext (e : Ext c H c1 H1) {s : List (Option D)} {σ : L2.St} (r : RelS w c s σ) : RelS w c1 s σ := r.mo e.mo
theorem RelS.get : ∀ {s : List (Option D)} {σ : St} {i : Nat} {d : D}, RelS w c s σ → s[i]? = some (some d) → ∃ v, σ[i]? = some (some v) ∧ Rep w c d v
  | [], _, _, _, _, q => by simp at q
  | none :: s, _, 0, d, ⟨x, xs, e, r⟩, q => by simp at q
  | none :: s, _, i + 1, d, ⟨x, xs, e, r⟩, q => by
    subst e
    simpa using RelS.get r (i := i) (by simpa using q)
  | some d' :: s, _, 0, d, ⟨x, xs, e, r1, r⟩, q => by
    subst e
    simp at q
    subst q
    exact ⟨x, by simp, r1⟩
  | some d' :: s, _, i + 1, d, ⟨x, xs, e, r1, r⟩, q => by
    subst e
    simpa using RelS.get r (i := i) (by simpa using q)
theorem RelS.set {d : D} {v : V} (rv : Rep w c d v) : ∀ {s : List (Option D)} {σ : St} {i : Nat}, RelS w c s σ → RelS w c (s.set i (some d)) (σ.set i (some v))
  | [], _, _, q => by obtain rfl : _ = [] := q; exact rfl
  | none :: s, _, 0, ⟨x, xs, e, r⟩ => by subst e; exact ⟨v, xs, rfl, rv, r⟩
  | none :: s, _, i + 1, ⟨x, xs, e, r⟩ => by subst e; exact ⟨x, xs.set i (some v), rfl, RelS.set rv r⟩
  | some d' :: s, _, 0, ⟨x, xs, e, r1, r⟩ => by subst e; exact ⟨v, xs, rfl, rv, r⟩
  | some d' :: s, _, i + 1, ⟨x, xs, e, r1, r⟩ => by subst e; exact ⟨x, xs.set i (some v), rfl, r1, RelS.set rv r⟩
theorem RelS.wipe1 : ∀ {s : List (Option D)} {σ : St} {i : Nat} {o : Option V}, RelS w c s σ → RelS w c (s.set i none) (σ.set i o)
  | [], _, _, _, q => by obtain rfl : _ = [] := q; exact rfl
  | none :: s, _, 0, o, ⟨x, xs, e, r⟩ => by subst e; exact ⟨o, xs, rfl, r⟩
  | none :: s, _, i + 1, o, ⟨x, xs, e, r⟩ => by subst e; exact ⟨x, xs.set i o, rfl, RelS.wipe1 r⟩
  | some d' :: s, _, 0, o, ⟨x, xs, e, r1, r⟩ => by subst e; exact ⟨o, xs, rfl, r⟩
  | some d' :: s, _, i + 1, o, ⟨x, xs, e, r1, r⟩ => by subst e; exact ⟨x, xs.set i o, rfl, r1, RelS.wipe1 r⟩
/-- an id's object is written -/
theorem Rel.put {k : Nat} {o o' : AO} {u u' : HO} (R : Rel w c h H) (hk : h.g k = some o) (hu : c.G (c.ρ k) = some u)
    (r : RepO w c o' u') : Rel w ⟨c.n, c.ρ, upd c.G (c.ρ k) u'⟩ (h.put k o') (upd H (c.ρ k) u') ∧ Ext c H ⟨c.n, c.ρ, upd c.G (c.ρ k) u'⟩ (upd H (c.ρ k) u') := by
  have kn : k < c.n := by
    rw [R.n]
    refine Nat.lt_of_not_le fun z => ?_
    rw [R.wf k z] at hk
    cases hk
  have E : Ext c H ⟨c.n, c.ρ, upd c.G (c.ρ k) u'⟩ (upd H (c.ρ k) u') := by
    refine ⟨Nat.le_refl _, fun _ _ => rfl, fun a u e n => ?_, fun a u e n => ?_, fun a e => ?_, fun k a b => absurd b (Nat.not_lt.mpr a), fun a e1 e2 => ?_, R.sub⟩
    · rw [upd_ne fun z => n k kn z.symm]
      exact e
    · show upd c.G (c.ρ k) u' a = _
      rw [upd_ne fun z => n k kn z.symm]
      exact e
    · by_cases z : a = c.ρ k
      · subst z
        rw [upd_same]
        exact nofun
      · rw [upd_ne z]
        exact e
    · exfalso
      have z : a ≠ c.ρ k := fun z => by rw [z, hu] at e2; cases e2
      exact e1 (by show upd c.G (c.ρ k) u' a = _; rw [upd_ne z]; exact e2)
  refine ⟨⟨R.n.trans (AH.put_n ..).symm, fun j hj => ?_, fun j hj => ?_, R.inj, fun j o2 hj => ?_, fun a u e => ?_⟩, E⟩
  · exact AH.g_none hj
  · rw [AH.put_if hk]
    rw [AH.put_n] at hj
    by_cases z : j = k
    · exact ⟨o', by rw [if_pos z]⟩
    · rw [if_neg z]
      exact R.all j hj
  · rw [AH.put_if hk] at hj
    by_cases z : j = k
    · rw [if_pos z] at hj
      cases hj
      subst z
      exact ⟨u', upd_same, r.ext E⟩
    · rw [if_neg z] at hj
      obtain ⟨u2, e2, r2⟩ := R.at_ j o2 hj
      have jn : j < c.n := by
        rw [R.n]
        refine Nat.lt_of_not_le fun z => ?_
        rw [R.wf j z] at hj
        cases hj
      exact ⟨u2, by show upd c.G (c.ρ k) u' (c.ρ j) = _; rw [upd_ne fun q => z (R.inj _ _ jn kn q)]; exact e2, r2.ext E⟩
  · by_cases z : a = c.ρ k
    · subst z
      have e : upd c.G (c.ρ k) u' (c.ρ k) = some u := e
      rw [upd_same] at e
      rw [upd_same]
      exact e
    · have e : upd c.G (c.ρ k) u' a = some u := e
      rw [upd_ne z] at e
      rw [upd_ne z]
      exact R.sub a u e
/-- a new object that is an id -/
def Cf.add (c : Cf) (p : Addr) (u : HO) : Cf := ⟨c.n + 1, fun k => if k = c.n then p else c.ρ k, upd c.G p u⟩
/-- a new object that nobody writes -/
def Cf.lay (c : Cf) (p : Addr) (u : HO) : Cf := ⟨c.n, c.ρ, upd c.G p u⟩
theorem Rel.gfree (R : Rel w c h H) {p : Addr} (hp : H p = none) : c.G p = none := by
  cases q : c.G p with
  | none => rfl
  | some u => rw [R.sub p u q] at hp; cases hp
theorem Rel.idThere (R : Rel w c h H) {k : Nat} (hk : k < c.n) : ∃ u, H (c.ρ k) = some u := by
  obtain ⟨o, e⟩ := R.all k (by rw [← R.n]; exact hk)
  obtain ⟨u, e2, _⟩ := R.at_ k o e
  exact ⟨u, R.sub _ _ e2⟩
theorem Rel.noidNew (R : Rel w c h H) {p : Addr} (hp : H p = none) : c.noid p := fun k hk z => by
  obtain ⟨u, e⟩ := R.idThere hk
  rw [z, hp] at e
  cases e
/-- the heap grows elsewhere (H' keeps all of H): then p of H' joins -/
theorem Rel.ext0 (R : Rel w c h H) (k : ∀ a u, H a = some u → H' a = some u) : Rel w c h H' ∧ Ext c H c H' :=
  ⟨⟨R.n, R.wf, R.all, R.inj, R.at_, fun a u e => k a u (R.sub a u e)⟩,
    ⟨Nat.le_refl _, fun _ _ => rfl, fun a u e _ => k a u e, fun _ _ e _ => e, fun a e => by
      cases q : H a with
      | none => exact absurd q e
      | some u => rw [k a u q]; exact nofun, fun k a b => absurd b (Nat.not_lt.mpr a), fun _ a b => absurd b a, R.sub⟩⟩
theorem Rel.lay {p : Addr} {u : HO} (R : Rel w c h H) (hp : H p = none) (k : ∀ a v, H a = some v → H' a = some v) (hu : H' p = some u) : Rel w (c.lay p u) h H' ∧ Ext c H (c.lay p u) H' := by
  have gp := R.gfree hp
  have E : Ext c H (c.lay p u) H' := by
    refine ⟨Nat.le_refl _, fun _ _ => rfl, fun a v e _ => k a v e, fun a v e _ => ?_, fun a e => ?_, fun k a b => absurd b (Nat.not_lt.mpr a), fun a e1 e2 => ?_, R.sub⟩
    · show upd c.G p u a = some v
      rw [upd_ne (ne_of_none e gp)]
      exact e
    · cases q : H a with
      | none => exact absurd q e
      | some v => rw [k a v q]; exact nofun
    · by_cases z : a = p
      · rw [z]; exact hp
      · exact absurd (show upd c.G p u a = none by rw [upd_ne z]; exact e2) e1
  refine ⟨⟨R.n, R.wf, R.all, R.inj, fun j o hj => ?_, fun a v e => ?_⟩, E⟩
  · obtain ⟨v, e, r⟩ := R.at_ j o hj
    exact ⟨v, by show upd c.G p u (c.ρ j) = _; rw [upd_ne (ne_of_none e gp)]; exact e, r.ext E⟩
  · have e : upd c.G p u a = some v := e
    by_cases z : a = p
    · subst z
      rw [upd_same] at e
      rw [hu]
      exact e
    · rw [upd_ne z] at e
      exact k a v (R.sub a v e)
theorem Rel.add {p : Addr} {u : HO} {o : AO} (R : Rel w c h H) (hp : H p = none) (k : ∀ a v, H a = some v → H' a = some v) (hu : H' p = some u) (r : RepO w c o u) :
    Rel w (c.add p u) (h.new o) H' ∧ Ext c H (c.add p u) H' := by
  have gp := R.gfree hp
  have E : Ext c H (c.add p u) H' := by
    refine ⟨Nat.le_succ _, fun j hj => ?_, fun a v e _ => k a v e, fun a v e _ => ?_, fun a e => ?_, fun j a b => ?_, fun a e1 e2 => ?_, R.sub⟩
    · show (if j = c.n then p else c.ρ j) = _
      rw [if_neg (Nat.ne_of_lt hj)]
    · show upd c.G p u a = some v
      rw [upd_ne (ne_of_none e gp)]
      exact e
    · cases q : H a with
      | none => exact absurd q e
      | some v => rw [k a v q]; exact nofun
    · have b : j < c.n + 1 := b
      obtain rfl : j = c.n := by omega
      show H (if c.n = c.n then p else _) = none
      rw [if_pos rfl]
      exact hp
    · by_cases z : a = p
      · rw [z]; exact hp
      · exact absurd (show upd c.G p u a = none by rw [upd_ne z]; exact e2) e1
  refine ⟨⟨by rw [AH.new_n]; show c.n + 1 = h.n + 1; rw [R.n], fun j hj => ?_, fun j hj => ?_, fun j i hj hi e => ?_, fun j o2 hj => ?_, fun a v e => ?_⟩, E⟩
  · exact AH.g_none hj
  · rw [AH.new_n] at hj
    rw [AH.new_g]
    by_cases z : j = h.n
    · exact ⟨o, by rw [if_pos z]⟩
    · rw [if_neg z]
      exact R.all j (by omega)
  · have hj : j < c.n + 1 := hj
    have hi : i < c.n + 1 := hi
    have e : (if j = c.n then p else c.ρ j) = (if i = c.n then p else c.ρ i) := e
    have no := R.noidNew hp
    by_cases zj : j = c.n
    · by_cases zi : i = c.n
      · rw [zj, zi]
      · rw [if_pos zj, if_neg zi] at e
        exact absurd e.symm (no i (by omega))
    · by_cases zi : i = c.n
      · rw [if_neg zj, if_pos zi] at e
        exact absurd e (no j (by omega))
      · rw [if_neg zj, if_neg zi] at e
        exact R.inj _ _ (by omega) (by omega) e
  · rw [AH.new_g] at hj
    show ∃ v, upd c.G p u (if j = c.n then p else c.ρ j) = some v ∧ RepO w (c.add p u) o2 v
    by_cases z : j = h.n
    · rw [if_pos z] at hj
      cases hj
      rw [if_pos (by rw [R.n]; exact z), upd_same]
      exact ⟨u, rfl, r.ext E⟩
    · rw [if_neg z] at hj
      rw [if_neg (by rw [R.n]; exact z)]
      obtain ⟨v, e, r⟩ := R.at_ j o2 hj
      exact ⟨v, by rw [upd_ne (ne_of_none e gp)]; exact e, r.ext E⟩
  · have e : upd c.G p u a = some v := e
    by_cases z : a = p
    · subst z
      rw [upd_same] at e
      rw [hu]
      exact e
    · rw [upd_ne z] at e
      exact k a v (R.sub a v e)
/-! ### a new object that is still being made: it lies, but is not told of -/
theorem Rel.noidG (R : Rel w c h H) {a : Addr} (ha : c.G a = none) : c.noid a := fun k hk z => by
  obtain ⟨o, e⟩ := R.all k (by rw [← R.n]; exact hk)
  obtain ⟨u, e2, _⟩ := R.at_ k o e
  rw [z, ha] at e2
  cases e2
theorem Rel.priv {p : Addr} {o : HO} (R : Rel w c h H) (gp : c.G p = none) : Rel w c h (upd H p o) :=
  ⟨R.n, R.wf, R.all, R.inj, R.at_, fun a u e => by rw [upd_ne (ne_of_none e gp)]; exact R.sub a u e⟩
theorem Ext.priv {p : Addr} {o : HO} (E : Ext c H c1 H1) (hp : H p = none) : Ext c H c1 (upd H1 p o) :=
  ⟨E.n, E.ρ, fun a u e n => by rw [upd_ne (ne_of_none e hp)]; exact E.keep a u e n, E.keepG, fun a e => by
    by_cases z : a = p
    · subst z; rw [upd_same]; exact nofun
    · rw [upd_ne z]; exact E.there a e, E.newρ, E.newG, E.sub⟩
theorem Ext.gnone (E : Ext c H c1 H1) {p : Addr} (g : c.G p = none) (hp : H p ≠ none) : c1.G p = none := noneEq fun z => hp (E.newG p z g)
/-- it is told of from now on -/
theorem Rel.join {p : Addr} {u : HO} (R : Rel w c h H) (gp : c.G p = none) (hp : H p = some u) : Rel w (c.lay p u) h H ∧ Mo c (c.lay p u) := by
  have M : Mo c (c.lay p u) := ⟨Nat.le_refl _, fun _ _ => rfl, fun a v e _ => by show upd c.G p u a = some v; rw [upd_ne (ne_of_none e gp)]; exact e, fun a _ n => n⟩
  refine ⟨⟨R.n, R.wf, R.all, R.inj, fun j o hj => ?_, fun a v e => ?_⟩, M⟩
  · obtain ⟨v, e, r⟩ := R.at_ j o hj
    exact ⟨v, by show upd c.G p u (c.ρ j) = _; rw [upd_ne (ne_of_none e gp)]; exact e, r.mo M⟩
  · have e : upd c.G p u a = some v := e
    by_cases z : a = p
    · subst z
      rw [upd_same] at e
      rw [hp]
      exact e
    · rw [upd_ne z] at e
      exact R.sub a v e
theorem Ext.join {p : Addr} {u : HO} (E : Ext c H c1 H1) (hp : H p = none) : Ext c H (c1.lay p u) H1 :=
  ⟨E.n, E.ρ, E.keep, fun a v e n => by
    show upd c1.G p u a = some v
    rw [upd_ne (ne_of_none (E.sub a v e) hp)]
    exact E.keepG a v e n, E.there, E.newρ, fun a e1 e2 => by
    by_cases z : a = p
    · rw [z]; exact hp
    · exact E.newG a (fun q => e1 (by show upd c1.G p u a = none; rw [upd_ne z]; exact q)) e2, E.sub⟩
/-- .. as an id -/
theorem Rel.joinId {p : Addr} {u : HO} {o : AO} (R : Rel w c h H) (gp : c.G p = none) (hp : H p = some u) (r : RepO w c o u) : Rel w (c.add p u) (h.new o) H ∧ Mo c (c.add p u) := by
  have no := R.noidG gp
  have M : Mo c (c.add p u) := by
    refine ⟨Nat.le_succ _, fun j hj => ?_, fun a v e _ => by show upd c.G p u a = some v; rw [upd_ne (ne_of_none e gp)]; exact e, fun a ha n k hk z => ?_⟩
    · show (if j = c.n then p else c.ρ j) = _
      rw [if_neg (Nat.ne_of_lt hj)]
    · have hk : k < c.n + 1 := hk
      have z : (if k = c.n then p else c.ρ k) = a := z
      by_cases q : k = c.n
      · rw [if_pos q] at z
        rw [← z] at ha
        exact ha gp
      · rw [if_neg q] at z
        exact n k (by omega) z
  refine ⟨⟨by rw [AH.new_n]; show c.n + 1 = h.n + 1; rw [R.n], fun j hj => ?_, fun j hj => ?_, fun j i hj hi e => ?_, fun j o2 hj => ?_, fun a v e => ?_⟩, M⟩
  · exact AH.g_none hj
  · rw [AH.new_n] at hj
    rw [AH.new_g]
    by_cases z : j = h.n
    · exact ⟨o, by rw [if_pos z]⟩
    · rw [if_neg z]
      exact R.all j (by omega)
  · have hj : j < c.n + 1 := hj
    have hi : i < c.n + 1 := hi
    have e : (if j = c.n then p else c.ρ j) = (if i = c.n then p else c.ρ i) := e
    by_cases zj : j = c.n
    · by_cases zi : i = c.n
      · rw [zj, zi]
      · rw [if_pos zj, if_neg zi] at e
        exact absurd e.symm (no i (by omega))
    · by_cases zi : i = c.n
      · rw [if_neg zj, if_pos zi] at e
        exact absurd e (no j (by omega))
      · rw [if_neg zj, if_neg zi] at e
        exact R.inj _ _ (by omega) (by omega) e
  · rw [AH.new_g] at hj
    show ∃ v, upd c.G p u (if j = c.n then p else c.ρ j) = some v ∧ RepO w (c.add p u) o2 v
    by_cases z : j = h.n
    · rw [if_pos z] at hj
      cases hj
      rw [if_pos (by rw [R.n]; exact z), upd_same]
      exact ⟨u, rfl, r.mo M⟩
    · rw [if_neg z] at hj
      rw [if_neg (by rw [R.n]; exact z)]
      obtain ⟨v, e, r⟩ := R.at_ j o2 hj
      exact ⟨v, by rw [upd_ne (ne_of_none e gp)]; exact e, r.mo M⟩
  · have e : upd c.G p u a = some v := e
    by_cases z : a = p
    · subst z
      rw [upd_same] at e
      rw [hp]
      exact e
    · rw [upd_ne z] at e
      exact R.sub a v e
theorem Ext.joinId {p : Addr} {u : HO} (E : Ext c H c1 H1) (hp : H p = none) : Ext c H (c1.add p u) H1 :=
  ⟨Nat.le_trans E.n (Nat.le_succ _), fun k hk => by
    show (if k = c1.n then p else c1.ρ k) = _
    rw [if_neg (Nat.ne_of_lt (Nat.lt_of_lt_of_le hk E.n))]
    exact E.ρ k hk, E.keep, fun a v e n => by
    show upd c1.G p u a = some v
    rw [upd_ne (ne_of_none (E.sub a v e) hp)]
    exact E.keepG a v e n, E.there, fun k h1 h2 => by
    have h2 : k < c1.n + 1 := h2
    show H (if k = c1.n then p else c1.ρ k) = none
    by_cases z : k = c1.n
    · rw [if_pos z]; exact hp
    · rw [if_neg z]; exact E.newρ k h1 (by omega), fun a e1 e2 => by
    by_cases z : a = p
    · rw [z]; exact hp
    · exact E.newG a (fun q => e1 (by show upd c1.G p u a = none; rw [upd_ne z]; exact q)) e2, E.sub⟩
end MP
set_option Elab.async false
set_option linter.all false
set_option maxRecDepth 100000
set_option maxHeartbeats 4000000
/-! mirrors: expressions, tests, statements as functions of slots and abstract heap; how readings follow from them -/
namespace MP
open PySem PySem.Spec L2
open PyProof.Rows hiding St

def Res.bind {α β : Type} (r : Res α) (f : α → AH → Res β) : Res β :=
  match r with
  | .ok a h => f a h
  | .ex e h => .ex e h
  | .st => .st
abbrev Sl := List (Option D)
abbrev ME := Sl → AH → Res D
abbrev MT := Sl → AH → Res Bool
abbrev MA := Sl → AH → Res (List D)
inductive RS where
  | nx (s : Sl) (h : AH)
  | rt (d : D) (h : AH)
  | bk (s : Sl) (h : AH)
  | ct (s : Sl) (h : AH)
  | ex (e : Ex) (s : Sl) (h : AH)
  | st
abbrev MS := Sl → AH → RS
abbrev MF := List D → AH → Res D

/-- an exception as it lies -/
def RepX (w : Wd) (c : Cf) (e : Ex) (cls : Value) (dd : Option Addr) : Prop :=
  (cls = .ref (w.T e.c) ∧ w.T e.c ≠ 0 ∧ e.c < 18) ∧ (e.fs = [] ∨ ∃ d vs, dd = some d ∧ c.G d = some (.xd vs) ∧ c.noid d ∧ RepKV w c e.fs vs)
theorem RepX.ext {w : Wd} {c c1 : Cf} {H H1 : Hp} (x : Ext c H c1 H1) {e : Ex} {cls : Value} {dd : Option Addr} (r : RepX w c e cls dd) : RepX w c1 e cls dd := by
  obtain ⟨h1, h2⟩ := r
  refine ⟨h1, ?_⟩
  rcases h2 with h2 | ⟨d, vs, a, b, n, r⟩
  · exact .inl h2
  · exact .inr ⟨d, vs, a, x.keepG _ _ b n, x.noid1 (by rw [x.sub _ _ b]; exact nofun) n, r.ext x⟩

/-- what is to hold of an outcome -/
def Out (w : Wd) (c : Cf) (H : Hp) (E : XK) {α β : Type} (A : Cf → α → β → Prop) (Q : β → Hp → Prop) : Res α → Prop
  | .ok a h' => ∀ c' b H', Rel w c' h' H' → Ext c H c' H' → A c' a b → Q b H'
  | .ex e h' => ∀ c' cls dd H', Rel w c' h' H' → Ext c H c' H' → RepX w c' e cls dd → E cls dd H'
  | .st => False
def OutS (w : Wd) (c : Cf) (H : Hp) (W : WX) (D : Ends) : RS → Prop
  | .nx s' h' => ∀ c' σ' H', Rel w c' h' H' → Ext c H c' H' → RelS w c' s' σ' → D.nx σ' H'
  | .rt d h' => ∀ c' v H', Rel w c' h' H' → Ext c H c' H' → Rep w c' d v → D.rt v H'
  | .bk s' h' => ∀ c' σ' H', Rel w c' h' H' → Ext c H c' H' → RelS w c' s' σ' → D.bk σ' H'
  | .ct s' h' => ∀ c' σ' H', Rel w c' h' H' → Ext c H c' H' → RelS w c' s' σ' → D.ct σ' H'
  | .ex e s' h' => ∀ c' cls dd σ' H', Rel w c' h' H' → Ext c H c' H' → RelS w c' s' σ' → RepX w c' e cls dd → W cls dd σ' H'
  | .st => False
def tM (w : Wd) (W : WX) (m : ME) : TE := fun σ H Q => ∃ c s h, Rel w c h H ∧ RelS w c s σ ∧ Out w c H (fun cls dd H' => W cls dd σ H') (Rep w) Q (m s h)
def tT (w : Wd) (W : WX) (m : MT) : TT := fun σ H Q => ∃ c s h, Rel w c h H ∧ RelS w c s σ ∧ Out w c H (fun cls dd H' => W cls dd σ H') (fun _ a b => a = b) Q (m s h)
def tA (w : Wd) (W : WX) (m : MA) : TA := fun σ H Q => ∃ c s h, Rel w c h H ∧ RelS w c s σ ∧ Out w c H (fun cls dd H' => W cls dd σ H') (RepL w) Q (m s h)
def tS (w : Wd) (W : WX) (m : MS) : TS := fun D σ H => ∃ c s h, Rel w c h H ∧ RelS w c s σ ∧ OutS w c H W D (m s h)

section
variable {w : Wd} {c c1 : Cf} {H H1 : Hp} {E : XK} {α β γ δ : Type} {A : Cf → α → β → Prop} {B : Cf → γ → δ → Prop}
theorem Out.shift (x : Ext c H c1 H1) {Q : β → Hp → Prop} : ∀ {r : Res α}, Out w c H E A Q r → Out w c1 H1 E A Q r
  | .ok _ _, o => fun c' b H' R e a => o c' b H' R (x.trans e) a
  | .ex _ _, o => fun c' cls dd H' R e a => o c' cls dd H' R (x.trans e) a
  | .st, o => o
theorem OutS.shift {W : WX} {D : Ends} (x : Ext c H c1 H1) : ∀ {r : RS}, OutS w c H W D r → OutS w c1 H1 W D r
  | .nx _ _, o => fun c' b H' R e a => o c' b H' R (x.trans e) a
  | .rt _ _, o => fun c' b H' R e a => o c' b H' R (x.trans e) a
  | .bk _ _, o => fun c' b H' R e a => o c' b H' R (x.trans e) a
  | .ct _ _, o => fun c' b H' R e a => o c' b H' R (x.trans e) a
  | .ex _ _ _, o => fun c' cls dd σ' H' R e a r => o c' cls dd σ' H' R (x.trans e) a r
  | .st, o => o
theorem Out.mono {Q Q' : β → Hp → Prop} (q : ∀ b H', Q b H' → Q' b H') : ∀ {r : Res α}, Out w c H E A Q r → Out w c H E A Q' r
  | .ok _ _, o => fun c' b H' R e a => q _ _ (o c' b H' R e a)
  | .ex _ _, o => o
  | .st, o => o
/-- the first part of a bind -/
theorem Out.bind {Q : δ → Hp → Prop} {f : α → AH → Res γ} : ∀ {r : Res α}, Out w c H E B Q (r.bind f) →
    Out w c H E A (fun b H1 => ∃ c1 h1 a, Rel w c1 h1 H1 ∧ Ext c H c1 H1 ∧ A c1 a b ∧ Out w c1 H1 E B Q (f a h1)) r
  | .ok a h', o => fun c' b H' R e q => ⟨c', h', a, R, e, q, Out.shift e o⟩
  | .ex _ _, o => o
  | .st, o => o
end

section
variable {X : Cx}
theorem PEi {e : Expr} {t t' : TE} (h : PE X e t) (q : ∀ σ H Q, t' σ H Q → t σ H Q) : PE X e t' := ⟨fun pins s σ H Q I z => h.run pins s σ H Q I (q σ H Q z)⟩
theorem PTi {e : Expr} {t t' : TT} (h : PT X e t) (q : ∀ σ H Q, t' σ H Q → t σ H Q) : PT X e t' := ⟨fun pins s σ H Q I z => h.run pins s σ H Q I (q σ H Q z)⟩
theorem PWi {e : Expr} {t t' : TT} (h : PW X e t) (q : ∀ σ H Q, t' σ H Q → t σ H Q) : PW X e t' := ⟨fun wh pins s σ H Q I z => h.run wh pins s σ H Q I (q σ H Q z)⟩
theorem PAi {e : List Expr} {t t' : TA} (h : PA X e t) (q : ∀ σ H Q, t' σ H Q → t σ H Q) : PA X e t' := ⟨fun p pins s σ H Q I z => h.run p pins s σ H Q I (q σ H Q z)⟩
theorem PKi {e : List Keyword} {t t' : TA} (h : PK X e t) (q : ∀ σ H Q, t' σ H Q → t σ H Q) : PK X e t' := ⟨fun p pins s σ H Q I z => h.run p pins s σ H Q I (q σ H Q z)⟩
theorem PSi {e : Stmt} {t t' : TS} (h : PS X e t) (q : ∀ D σ H, t' D σ H → t D σ H) : PS X e t' := ⟨fun pins s σ H Q I z => h.run pins s σ H Q I (q Q σ H z)⟩
theorem PSsi {e : List Stmt} {t t' : TS} (h : PSs X e t) (q : ∀ D σ H, t' D σ H → t D σ H) : PSs X e t' := ⟨fun pins s σ H Q I z => h.run pins s σ H Q I (q Q σ H z)⟩
end

/-! ### what is told of no more is let go: ids made within a call -/
mutual
def D.und (n : Nat) : D → Bool
  | .tup xs => D.undL n xs
  | .lst xs => D.undL n xs
  | .fz xs => D.undL n xs
  | .obj _ _ xs => D.undL n xs
  | .ref k => decide (k < n)
  | _ => true
def D.undL (n : Nat) : List D → Bool
  | [] => true
  | d :: ds => D.und n d && D.undL n ds
end
def undF (n : Nat) {κ : Type} : List (κ × D) → Bool
  | [] => true
  | p :: r => D.und n p.2 && undF n r
def AO.und (n : Nat) : AO → Bool
  | .lst xs => D.undL n xs
  | .dct kvs => undF n kvs
  | .ins _ fs => undF n fs
section
variable {w : Wd} {c c1 : Cf}
/-- the first m ids alone -/
def Cf.cut (c : Cf) (m : Nat) : Cf := ⟨m, c.ρ, c.G⟩
theorem Cf.cut_noid {m : Nat} (hm : m ≤ c.n) {a : Addr} (h : c.noid a) : (c.cut m).noid a := fun k hk => h k (Nat.lt_of_lt_of_le hk hm)
mutual
theorem Rep.cut {m : Nat} (hm : m ≤ c.n) : ∀ {d : D} {v : V}, d.und m = true → Rep w c d v → Rep w (c.cut m) d v
  | .non, _, _, r => by simpa [Rep] using r
  | .bl _, _, _, r => by simpa [Rep] using r
  | .int _, _, _, r => by simpa [Rep] using r
  | .str _, _, _, r => by simpa [Rep] using r
  | .tup ds, _, b, r => by
    simp only [Rep] at r ⊢
    obtain ⟨a, vs, rfl, t, q⟩ := r
    exact ⟨a, vs, rfl, t.imp (fun t => ⟨t.1, Cf.cut_noid hm t.2⟩) id, RepL.cut hm (by simpa only [D.und] using b) q⟩
  | .lst ds, _, b, r => by
    simp only [Rep] at r ⊢
    obtain ⟨a, vs, rfl, t, q⟩ := r
    exact ⟨a, vs, rfl, ⟨t.1, Cf.cut_noid hm t.2⟩, RepL.cut hm (by simpa only [D.und] using b) q⟩
  | .fz ds, _, b, r => by
    simp only [Rep] at r ⊢
    obtain ⟨a, vs, rfl, t, q⟩ := r
    exact ⟨a, vs, rfl, t.imp (fun t => ⟨t.1, Cf.cut_noid hm t.2⟩) id, RepL.cut hm (by simpa only [D.und] using b) q⟩
  | .obj k ks ds, _, b, r => by
    simp only [Rep] at r ⊢
    obtain ⟨a, dx, vs, rfl, g, n, tn, hl, q⟩ := r
    exact ⟨a, dx, vs, rfl, g, Cf.cut_noid hm n, tn, hl, RepL.cut hm (by simpa only [D.und] using b) q⟩
  | .ref k, _, b, r => by
    simp only [Rep] at r ⊢
    exact ⟨r.1, show k < m by simpa only [D.und, decide_eq_true_eq] using b⟩
  | .cst _, _, _, r => by simpa [Rep] using r
theorem RepL.cut {m : Nat} (hm : m ≤ c.n) : ∀ {ds : List D} {vs : List V}, D.undL m ds = true → RepL w c ds vs → RepL w (c.cut m) ds vs
  | [], _, _, r => by simpa [RepL] using r
  | d :: ds, _, b, r => by
    simp only [RepL] at r ⊢
    obtain ⟨x, xs, rfl, r1, r2⟩ := r
    simp only [D.undL, Bool.and_eq_true] at b
    exact ⟨x, xs, rfl, Rep.cut hm b.1 r1, RepL.cut hm b.2 r2⟩
end
theorem RepKV.cut {m : Nat} (hm : m ≤ c.n) {κ : Type} : ∀ {ds : List (κ × D)} {vs : List (κ × V)}, undF m ds = true → RepKV w c ds vs → RepKV w (c.cut m) ds vs
  | [], _, _, r => r
  | d :: ds, _, b, r => by
    obtain ⟨x, xs, rfl, r1, r2⟩ := r
    simp only [undF, Bool.and_eq_true] at b
    exact ⟨x, xs, rfl, Rep.cut hm b.1 r1, RepKV.cut hm b.2 r2⟩
theorem RepO.cut {m : Nat} (hm : m ≤ c.n) : ∀ {o : AO} {u : HO}, o.und m = true → RepO w c o u → RepO w (c.cut m) o u
  | .lst _, _, b, ⟨vs, q, r⟩ => ⟨vs, q, r.cut hm b⟩
  | .dct _, _, b, ⟨vs, q, r⟩ => ⟨vs, q, r.cut hm b⟩
  | .ins _ _, _, b, ⟨dx, vs, q, r, tn⟩ => ⟨dx, vs, q, r.cut hm b, tn⟩
mutual
theorem Rep.und : ∀ {d : D} {v : V}, Rep w c d v → d.und c.n = true
  | .non, _, _ => rfl
  | .bl _, _, _ => rfl
  | .int _, _, _ => rfl
  | .str _, _, _ => rfl
  | .tup ds, _, r => by
    simp only [Rep] at r
    obtain ⟨a, vs, rfl, t, q⟩ := r
    exact RepL.und q
  | .lst ds, _, r => by
    simp only [Rep] at r
    obtain ⟨a, vs, rfl, t, q⟩ := r
    exact RepL.und q
  | .fz ds, _, r => by
    simp only [Rep] at r
    obtain ⟨a, vs, rfl, t, q⟩ := r
    exact RepL.und q
  | .obj k ks ds, _, r => by
    simp only [Rep] at r
    obtain ⟨a, dx, vs, rfl, g, n, tn, hl, q⟩ := r
    exact RepL.und q
  | .ref k, _, r => by
    simp only [Rep] at r
    simpa only [D.und, decide_eq_true_eq] using r.2
  | .cst _, _, _ => rfl
theorem RepL.und : ∀ {ds : List D} {vs : List V}, RepL w c ds vs → D.undL c.n ds = true
  | [], _, _ => rfl
  | d :: ds, _, r => by
    simp only [RepL] at r
    obtain ⟨x, xs, rfl, r1, r2⟩ := r
    simp only [D.undL, Rep.und r1, RepL.und r2, Bool.and_self]
end
theorem RepKV.und {κ : Type} : ∀ {ds : List (κ × D)} {vs : List (κ × V)}, RepKV w c ds vs → undF c.n ds = true
  | [], _, _ => rfl
  | d :: ds, _, r => by
    obtain ⟨x, xs, rfl, r1, r2⟩ := r
    simp only [undF, r1.und, RepKV.und r2, Bool.and_self]
theorem RepO.und : ∀ {o : AO} {u : HO}, RepO w c o u → o.und c.n = true
  | .lst _, _, ⟨vs, q, r⟩ => r.und
  | .dct _, _, ⟨vs, q, r⟩ => r.und
  | .ins _ _, _, ⟨dx, vs, q, r, tn⟩ => r.und
end
/-- the first ids' objects stand, or tell of first ids alone -/
def Tells (h h' : AH) : Prop := h.n ≤ h'.n ∧ ∀ k, k < h.n → h'.g k = h.g k ∨ ∃ o, h'.g k = some o ∧ o.und h.n = true
/-- classes whose instances aren't written behind their making -/
def immC (c : Nat) : Bool := c == 18 || (c == 19 || (c == 21 || c == 22))
/-- an instance that nobody writes any more -/
def frz (h h' : AH) : D → Option D
  | .ref k => if h.n ≤ k then match h'.g k with
    | some (.ins c fs) => if immC c && undF h.n fs then some (.obj c (fs.map (·.1)) (fs.map (·.2))) else none
    | _ => none
    else some (.ref k)
  | d => if d.und h.n = true then some d else none
open Classical in
noncomputable def gcR (h : AH) : Res D → Res D
  | .ok d h' => if Tells h h' then match frz h h' d with
    | some d' => .ok d' (h'.cut h.n)
    | none => .ok d h'
    else .ok d h'
  | .ex e h' => if Tells h h' ∧ undF h.n e.fs = true then .ex e (h'.cut h.n) else .ex e h'
  | .st => .st
section
variable {w : Wd} {c c' : Cf} {h h' : AH} {H H' : Hp}
theorem cut_rel (R : Rel w c h H) (E : Ext c H c' H') (R' : Rel w c' h' H') (T : Tells h h') : Rel w (c'.cut h.n) (h'.cut h.n) H' ∧ Ext c H (c'.cut h.n) H' := by
  have hm : h.n ≤ c'.n := by rw [R'.n]; exact T.1
  refine ⟨⟨(AH.cut_n h' _ T.1).symm, fun k hk => AH.g_none hk, fun k hk => AH.g_some hk, fun j k hj hk e => R'.inj j k (Nat.lt_of_lt_of_le hj hm) (Nat.lt_of_lt_of_le hk hm) e, fun k o ho => ?_, R'.sub⟩,
    ⟨Nat.le_of_eq R.n, E.ρ, E.keep, E.keepG, E.there, fun k a b => absurd (show k < h.n from b) (by rw [← R.n]; exact Nat.not_lt.mpr a), E.newG, E.sub⟩⟩
  rw [AH.cut_g] at ho
  split at ho
  · rename_i hk
    obtain ⟨u, e1, r⟩ := R'.at_ k o ho
    refine ⟨u, e1, r.cut hm ?_⟩
    rcases T.2 k hk with q | ⟨o2, q, b⟩
    · rw [q] at ho
      obtain ⟨u0, _, r0⟩ := R.at_ k o ho
      rw [← R.n]
      exact r0.und
    · rw [q] at ho
      cases ho
      exact b
  · cases ho
theorem kv_unzip {κ : Type} : ∀ {l : List (κ × D)} {vs : List (κ × V)}, RepKV w c l vs → ∃ us, vs = (l.map (·.1)).zip us ∧ RepL w c (l.map (·.2)) us
  | [], vs, r => by obtain rfl : vs = [] := r; exact ⟨[], rfl, by simp [RepL]⟩
  | p :: l, vs, r => by
    obtain ⟨x, xs, rfl, r1, r2⟩ := r
    obtain ⟨us, rfl, r3⟩ := kv_unzip r2
    exact ⟨x :: us, rfl, by simp only [List.map_cons, RepL]; exact ⟨x, us, rfl, r1, r3⟩⟩
theorem undF_map {κ : Type} {n : Nat} : ∀ {l : List (κ × D)}, undF n l = true → D.undL n (l.map (·.2)) = true
  | [], _ => rfl
  | p :: l, b => by
    simp only [undF, Bool.and_eq_true] at b
    simp only [List.map_cons, D.undL, b.1, undF_map b.2, Bool.and_self]
theorem frz_rep (R : Rel w c h H) (R' : Rel w c' h' H') (T : Tells h h') {d d' : D} {v : V} (r : Rep w c' d v) (e : frz h h' d = some d') : Rep w (c'.cut h.n) d' v := by
  have hm : h.n ≤ c'.n := by rw [R'.n]; exact T.1
  have other : ∀ {d : D}, Rep w c' d v → (if d.und h.n = true then some d else none) = some d' → Rep w (c'.cut h.n) d' v := by
    intro d r e
    split at e
    · rename_i b
      cases e
      exact r.cut hm b
    · cases e
  cases d with
  | ref k =>
    simp only [frz] at e
    split at e
    · rename_i hk
      split at e
      · rename_i cl fs ho
        split at e
        · rename_i hb
          cases e
          simp only [Bool.and_eq_true] at hb
          simp only [Rep] at r
          obtain ⟨rfl, hk2⟩ := r
          obtain ⟨u, e1, dx, vs, rfl, rf, tn⟩ := R'.at_ _ _ ho
          obtain ⟨us, rfl, rl⟩ := kv_unzip rf
          simp only [Rep]
          refine ⟨_, dx, us, rfl, e1, fun j hj z => ?_, tn, by simp, rl.cut hm (undF_map hb.2)⟩
          have hj : j < h.n := hj
          have := R'.inj j k (Nat.lt_of_lt_of_le hj hm) hk2 z
          omega
        · cases e
      · cases e
    · rename_i hk
      cases e
      exact r.cut hm (by simp only [D.und, decide_eq_true_eq]; omega)
  | non => exact other r e
  | bl _ => exact other r e
  | int _ => exact other r e
  | str _ => exact other r e
  | tup _ => exact other r e
  | lst _ => exact other r e
  | fz _ => exact other r e
  | cst _ => exact other r e
  | obj _ _ _ => exact other r e
theorem RepX.cut {m : Nat} {e : Ex} {cls : Value} {dd : Option Addr} (hm : m ≤ c.n) (b : undF m e.fs = true) (r : RepX w c e cls dd) : RepX w (c.cut m) e cls dd := by
  obtain ⟨h1, h2⟩ := r
  refine ⟨h1, h2.imp id ?_⟩
  rintro ⟨d, vs, a, g, n, rk⟩
  exact ⟨d, vs, a, g, Cf.cut_noid hm n, rk.cut hm b⟩
theorem gc_out {E : XK} {Q : VK} (R : Rel w c h H) : ∀ {r : Res D}, Out w c H E (Rep w) Q (gcR h r) → Out w c H E (Rep w) Q r
  | .ok d h', o => by
    intro c' v H' R' E' r'
    unfold gcR at o
    dsimp only at o
    split at o
    · rename_i T
      obtain ⟨R2, E2⟩ := cut_rel R E' R' T
      split at o
      · rename_i d' e
        exact o _ v H' R2 E2 (frz_rep R R' T r' e)
      · exact o c' v H' R' E' r'
    · exact o c' v H' R' E' r'
  | .ex e h', o => by
    intro c' cls dd H' R' E' r'
    unfold gcR at o
    dsimp only at o
    split at o
    · rename_i T
      obtain ⟨R2, E2⟩ := cut_rel R E' R' T.1
      exact o _ cls dd H' R2 E2 (r'.cut (by rw [R'.n]; exact T.1.1) T.2)
    · exact o c' cls dd H' R' E' r'
  | .st, o => o
end

/-! ### what lists and tuples hold -/
def seqL (h : AH) : D → Option (List D)
  | .lst xs => some xs
  | .fz xs => some xs
  | .ref k => match h.g k with
    | some (.lst xs) => some xs
    | _ => none
  | _ => none
/-- a list of one's own -/
def seqM (h : AH) : D → Option (List D)
  | .lst xs => some xs
  | .ref k => match h.g k with
    | some (.lst xs) => some xs
    | _ => none
  | _ => none
def seqT : D → Option (List D)
  | .tup xs => some xs
  | _ => none
def seqX (h : AH) (d : D) : Option (List D) := match seqT d with
  | some xs => some xs
  | none => seqL h d
section
variable {w : Wd} {c : Cf} {H : Hp} {h : AH}
theorem Rd.up (s : ∀ a u, c.G a = some u → H a = some u) {a : Addr} {u : HO} (r : Rd c.G a u) : Rd H a u := by
  rcases r with r | ⟨o, r⟩
  · exact .inl (s _ _ r)
  · exact .inr ⟨o, s _ _ r⟩
theorem LstR.sq (s : ∀ a u, c.G a = some u → H a = some u) {a : Addr} {vs : List V} (r : LstR w c a vs) : SqL w.K H a vs := .of (s _ _ r.1)
theorem FzR.sq (s : ∀ a u, c.G a = some u → H a = some u) {a : Addr} {vs : List V} (r : FzR w c a vs) : SqL w.K H a vs := by
  rcases r with ⟨r, _⟩ | r
  · exact .inl (Rd.up s r)
  · rcases r with (r | ⟨o, r⟩) | r
    · cases r
    · cases r
    · exact .inr r
theorem TupR.sq (s : ∀ a u, c.G a = some u → H a = some u) {a : Addr} {vs : List V} (r : TupR w c a vs) : SqT w.K H a vs := by
  rcases r with ⟨r, _⟩ | r
  · exact .inl (Rd.up s r)
  · rcases r with (r | ⟨o, r⟩) | r
    · cases r
    · cases r
    · exact .inr r
theorem RepL.len : ∀ {ds : List D} {vs : List V}, RepL w c ds vs → ds.length = vs.length
  | [], vs, r => by obtain rfl : vs = [] := by simpa [RepL] using r
                    rfl
  | d :: ds, vs, r => by
    simp only [RepL] at r
    obtain ⟨x, xs, rfl, _, r⟩ := r
    simp [RepL.len r]
theorem RepL.get : ∀ {ds : List D} {vs : List V} {i : Nat} {d : D}, RepL w c ds vs → ds[i]? = some d → ∃ v, vs[i]? = some v ∧ Rep w c d v
  | [], _, _, _, _, q => by simp at q
  | x :: ds, vs, i, d, r, q => by
    simp only [RepL] at r
    obtain ⟨y, ys, rfl, r1, r2⟩ := r
    cases i with
    | zero => simp at q; subst q; exact ⟨y, rfl, r1⟩
    | succ i => simpa using RepL.get r2 (i := i) (by simpa using q)
theorem RepL.set {d : D} {v : V} (rv : Rep w c d v) : ∀ {ds : List D} {vs : List V} {i : Nat}, RepL w c ds vs → RepL w c (ds.set i d) (vs.set i v)
  | [], vs, i, r => by obtain rfl : vs = [] := by simpa [RepL] using r
                       simpa [RepL] using r
  | x :: ds, vs, i, r => by
    simp only [RepL] at r
    obtain ⟨y, ys, rfl, r1, r2⟩ := r
    cases i with
    | zero => simp only [List.set_cons_zero, RepL]; exact ⟨v, ys, rfl, rv, r2⟩
    | succ i => simp only [List.set_cons_succ, RepL]; exact ⟨y, ys.set i v, rfl, r1, RepL.set rv r2⟩
theorem RepL.append : ∀ {ds es : List D} {vs us : List V}, RepL w c ds vs → RepL w c es us → RepL w c (ds ++ es) (vs ++ us)
  | [], _, vs, _, r, r2 => by obtain rfl : vs = [] := by simpa [RepL] using r
                              simpa using r2
  | d :: ds, es, vs, us, r, r2 => by
    simp only [RepL] at r
    obtain ⟨y, ys, rfl, r1, r3⟩ := r
    simp only [List.cons_append, RepL]
    exact ⟨y, ys ++ us, rfl, r1, RepL.append r3 r2⟩
theorem RepL.cons {d : D} {v : V} {ds : List D} {vs : List V} (r : Rep w c d v) (rs : RepL w c ds vs) : RepL w c (d :: ds) (v :: vs) := by
  simp only [RepL]
  exact ⟨v, vs, rfl, r, rs⟩
theorem RepL.nil : RepL w c [] [] := by simp only [RepL]
theorem RepL.drop : ∀ {ds : List D} {vs : List V} (n : Nat), RepL w c ds vs → RepL w c (ds.drop n) (vs.drop n)
  | [], vs, n, r => by obtain rfl : vs = [] := by simpa [RepL] using r
                       simpa [RepL] using r
  | d :: ds, vs, n, r => by
    cases n with
    | zero => simpa using r
    | succ n =>
      simp only [RepL] at r
      obtain ⟨y, ys, rfl, r1, r3⟩ := r
      simpa using RepL.drop n r3
theorem RepL.take : ∀ {ds : List D} {vs : List V} (n : Nat), RepL w c ds vs → RepL w c (ds.take n) (vs.take n)
  | [], vs, n, r => by obtain rfl : vs = [] := by simpa [RepL] using r
                       simpa [RepL] using r
  | d :: ds, vs, n, r => by
    cases n with
    | zero => simp [RepL]
    | succ n =>
      simp only [RepL] at r
      obtain ⟨y, ys, rfl, r1, r3⟩ := r
      simp only [List.take_succ_cons]
      exact .cons r1 (RepL.take n r3)
theorem seqL_ok (R : Rel w c h H) {d : D} {v : V} {xs : List D} (r : Rep w c d v) (q : seqL h d = some xs) : ∃ a vs, v = .ref a ∧ SqL w.K H a vs ∧ RepL w c xs vs := by
  cases d with
  | lst ds =>
    simp only [seqL, Option.some.injEq] at q
    subst q
    simp only [Rep] at r
    obtain ⟨a, vs, rfl, l, r⟩ := r
    exact ⟨a, vs, rfl, l.sq R.sub, r⟩
  | fz ds =>
    simp only [seqL, Option.some.injEq] at q
    subst q
    simp only [Rep] at r
    obtain ⟨a, vs, rfl, l, r⟩ := r
    exact ⟨a, vs, rfl, l.sq R.sub, r⟩
  | ref k =>
    simp only [seqL] at q
    split at q
    · rename_i ys e
      cases q
      simp only [Rep] at r
      obtain ⟨rfl, hk⟩ := r
      obtain ⟨u, e1, vs, rfl, r⟩ := R.at_ k _ e
      exact ⟨_, vs, rfl, .of (R.sub _ _ e1), r⟩
    · cases q
  | _ => simp [seqL] at q
theorem seqM_ok (R : Rel w c h H) {d : D} {v : V} {xs : List D} (r : Rep w c d v) (q : seqM h d = some xs) : ∃ a vs, v = .ref a ∧ H a = some (.lst vs) ∧ RepL w c xs vs := by
  cases d with
  | lst ds =>
    simp only [seqM, Option.some.injEq] at q
    subst q
    simp only [Rep] at r
    obtain ⟨a, vs, rfl, l, r⟩ := r
    exact ⟨a, vs, rfl, R.sub _ _ l.1, r⟩
  | ref k =>
    simp only [seqM] at q
    split at q
    · rename_i ys e
      cases q
      simp only [Rep] at r
      obtain ⟨rfl, hk⟩ := r
      obtain ⟨u, e1, vs, rfl, r⟩ := R.at_ k _ e
      exact ⟨_, vs, rfl, R.sub _ _ e1, r⟩
    · cases q
  | _ => simp [seqM] at q
theorem seqT_ok (R : Rel w c h H) {d : D} {v : V} {xs : List D} (r : Rep w c d v) (q : seqT d = some xs) : ∃ a vs, v = .ref a ∧ SqT w.K H a vs ∧ RepL w c xs vs := by
  cases d with
  | tup ds =>
    simp only [seqT, Option.some.injEq] at q
    subst q
    simp only [Rep] at r
    obtain ⟨a, vs, rfl, l, r⟩ := r
    exact ⟨a, vs, rfl, l.sq R.sub, r⟩
  | _ => simp [seqT] at q
end

/-! ### operations on values -/
/-- a value is handed on, the heap as it is or grown -/
abbrev Gives (w : Wd) (c : Cf) (h : AH) (H : Hp) (z : D) (Q : VK) : Prop := ∀ c' v H', Rel w c' h H' → Ext c H c' H' → Rep w c' z v → Q v H'
theorem Gives.same {w : Wd} {c : Cf} {h : AH} {H : Hp} {z : D} {Q : VK} (g : Gives w c h H z Q) (R : Rel w c h H) {v : V} (r : Rep w c z v) : Q v H := g c v H R (.refl R.sub) r
theorem Gives.int {w : Wd} {c : Cf} {h : AH} {H : Hp} {z : Int} {Q : VK} (g : Gives w c h H (.int z) Q) (R : Rel w c h H) : Q (.int z) H := g.same R (by simp [Rep])
theorem Gives.bl {w : Wd} {c : Cf} {h : AH} {H : Hp} {z : Bool} {Q : VK} (g : Gives w c h H (.bl z) Q) (R : Rel w c h H) : Q (.bl z) H := g.same R (by simp [Rep])
theorem Gives.str {w : Wd} {c : Cf} {h : AH} {H : Hp} {z : Str} {Q : VK} (g : Gives w c h H (.str z) Q) (R : Rel w c h H) : Q (.str z) H := g.same R (by simp [Rep])
theorem Gives.non {w : Wd} {c : Cf} {h : AH} {H : Hp} {Q : VK} (g : Gives w c h H .non Q) (R : Rel w c h H) : Q .non H := g.same R (by simp [Rep])
theorem Gives.lst {w : Wd} {c : Cf} {h : AH} {H : Hp} {zs : List D} {vs : List V} {Q : VK} (g : Gives w c h H (.lst zs) Q) (R : Rel w c h H) (r : RepL w c zs vs) (p : Addr) (hp : H p = none) : Q (.ref p) (upd H p (.lst vs)) := by
  obtain ⟨R', E⟩ := R.lay (H' := upd H p (.lst vs)) (u := .lst vs) hp (fun a v e => by rw [upd_ne (ne_of_none e hp)]; exact e) upd_same
  refine g _ _ _ R' E ?_
  simp only [Rep]
  exact ⟨p, vs, rfl, ⟨upd_same, R.noidNew hp⟩, r.ext E⟩
theorem Gives.tup {w : Wd} {c : Cf} {h : AH} {H : Hp} {zs : List D} {vs : List V} {Q : VK} (g : Gives w c h H (.tup zs) Q) (R : Rel w c h H) (r : RepL w c zs vs) (p : Addr) (hp : H p = none) : Q (.ref p) (upd H p (.tup vs)) := by
  obtain ⟨R', E⟩ := R.lay (H' := upd H p (.tup vs)) (u := .tup vs) hp (fun a v e => by rw [upd_ne (ne_of_none e hp)]; exact e) upd_same
  refine g _ _ _ R' E ?_
  simp only [Rep]
  exact ⟨p, vs, rfl, .inl ⟨.inl upd_same, R.noidNew hp⟩, r.ext E⟩
def Op2 (w : Wd) (r : R2) (g : AH → D → D → Option D) : Prop := ∀ c h H x y z v u Q, Rel w c h H → Rep w c x v → Rep w c y u → g h x y = some z → Gives w c h H z Q → r v u H Q
def Op1 (w : Wd) (r : V → Hp → VK → Prop) (g : AH → D → Option D) : Prop := ∀ c h H x z v Q, Rel w c h H → Rep w c x v → g h x = some z → Gives w c h H z Q → r v H Q
def OpN (w : Wd) (r : List V → Hp → VK → Prop) (g : AH → List D → Option D) : Prop := ∀ c h H xs z vs Q, Rel w c h H → RepL w c xs vs → g h xs = some z → Gives w c h H z Q → r vs H Q
def Op1.or {w : Wd} {r r' : V → Hp → VK → Prop} {g g' : AH → D → Option D} (a : Op1 w r g) (b : Op1 w r' g') : Op1 w (fun x H Q => r x H Q ∨ r' x H Q) (fun h x => (g h x).or (g' h x)) := fun c h H x z v Q R r1 e G => by
  dsimp only at e
  cases q : g h x with
  | some z' => rw [q] at e; simp at e; subst e; exact .inl (a c h H x _ v Q R r1 q G)
  | none => rw [q] at e; exact .inr (b c h H x z v Q R r1 (by simpa using e) G)
theorem Op2.or {w : Wd} {r r' : R2} {g g' : AH → D → D → Option D} (a : Op2 w r g) (b : Op2 w r' g') : Op2 w (fun x y H Q => r x y H Q ∨ r' x y H Q) (fun h x y => (g h x y).or (g' h x y)) := fun c h H x y z v u Q R r1 r2 e G => by
  dsimp only at e
  cases q : g h x y with
  | some z' => rw [q] at e; simp at e; subst e; exact .inl (a c h H x y _ v u Q R r1 r2 q G)
  | none => rw [q] at e; exact .inr (b c h H x y z v u Q R r1 r2 (by simpa using e) G)
theorem OpN.or {w : Wd} {r r' : List V → Hp → VK → Prop} {g g' : AH → List D → Option D} (a : OpN w r g) (b : OpN w r' g') : OpN w (fun x H Q => r x H Q ∨ r' x H Q) (fun h x => (g h x).or (g' h x)) := fun c h H x z v Q R r1 e G => by
  dsimp only at e
  cases q : g h x with
  | some z' => rw [q] at e; simp at e; subst e; exact .inl (a c h H x _ v Q R r1 q G)
  | none => rw [q] at e; exact .inr (b c h H x z v Q R r1 (by simpa using e) G)

/-! ### expressions -/
def optR {α : Type} (o : Option α) (h : AH) : Res α := match o with
  | some z => .ok z h
  | none => .st
def eVar (i : Nat) : ME := fun s h => match s[i]? with
  | some (some d) => .ok d h
  | _ => .st
def eC (d : D) : ME := fun _ h => .ok d h
def eBin (g : AH → D → D → Option D) (a b : ME) : ME := fun s h => (a s h).bind fun x h1 => (b s h1).bind fun y h2 => optR (g h2 x y) h2
def eUn (g : AH → D → Option D) (a : ME) : ME := fun s h => (a s h).bind fun x h1 => optR (g h1 x) h1
def aNil : MA := fun _ h => .ok [] h
def aCons (a : ME) (b : MA) : MA := fun s h => (a s h).bind fun x h1 => (b s h1).bind fun xs h2 => .ok (x :: xs) h2
def eTup (a : MA) : ME := fun s h => (a s h).bind fun xs h1 => if xs.length ≤ 100000 then .ok (.tup xs) h1 else .st
def eLst (a : MA) : ME := fun s h => (a s h).bind fun xs h1 => if xs.length ≤ 100000 then .ok (.lst xs) h1 else .st
/-- a list that is written later -/
def eLstN (a : MA) : ME := fun s h => (a s h).bind fun xs h1 => if xs.length ≤ 100000 then .ok (.ref h1.n) (h1.new (.lst xs)) else .st
/-- a built-in function of values -/
def eFn (g : AH → List D → Option D) (a : MA) : ME := fun s h => (a s h).bind fun xs h1 => optR (g h1 xs) h1
def eIf (t : MT) (a b : ME) : ME := fun s h => (t s h).bind fun k h1 => if k = true then a s h1 else b s h1
theorem size5 {n : Nat} (h : n ≤ 100000) : n ≤ sizeLine := Nat.le_trans h (by rw [sizeLine_eq]; decide)
section
variable {X : Cx} {T : Nat → Addr} {W : WX} {a b e : Expr} {es : List Expr} {ma mb : ME} {mt : MT} {ms : MA} {pos : Pos}
theorem r_var (i : Nat) {x : Str} (hN : X.N[i]? = some x := by rfl) (hv : Vis X.env.scope x := by first | exact Or.inl rfl | exact Or.inr (Or.inl rfl) | exact Or.inr (Or.inr rfl)) (hd : (x == ("__debug__" : Str)) = false := by decide)
    (hcd : (x == ("__classdict__" : Str)) = false := by decide) : PE X (.Name x pos) (tM (Wd.mk X.K T) W (eVar i)) :=
  PEi (pe_var hN hv hd hcd) fun σ H Q ⟨c, s, h, R, S, o⟩ => by
    simp only [eVar] at o
    split at o
    · rename_i d e
      obtain ⟨v, e1, r⟩ := S.get e
      exact ⟨v, e1, o c v H R (.refl R.sub) r⟩
    · exact o.elim
theorem r_c {v : V} {d : D} (hv : ∀ c, Rep (Wd.mk X.K T) c d v) (h : PE X e (tC v)) : PE X e (tM (Wd.mk X.K T) W (eC d)) := PEi h fun σ H Q ⟨c, s, h, R, S, o⟩ => o c v H R (.refl R.sub) (hv c)
theorem r_int {i j} : PE X (.Constant (.int i) j pos) (tM (Wd.mk X.K T) W (eC (.int i))) := r_c (fun c => by simp [Rep]) pe_int
theorem r_bl {b j} : PE X (.Constant (.bool b) j pos) (tM (Wd.mk X.K T) W (eC (.bl b))) := r_c (fun c => by simp [Rep]) pe_bl
theorem r_non {j} : PE X (.Constant .none j pos) (tM (Wd.mk X.K T) W (eC .non)) := r_c (fun c => by simp [Rep]) pe_non
theorem r_str {x j} : PE X (.Constant (.str x) j pos) (tM (Wd.mk X.K T) W (eC (.str x))) := r_c (fun c => by simp [Rep]) pe_str
theorem r_glob {x : Str} {v : V} {d : D} {u : Value} (hm : X.mg x = some u) (hv : ∀ c, Rep (Wd.mk X.K T) c d v) (r : RelV v u) (hg : Gl X x := by rfl) (hd : (x == ("__debug__" : Str)) = false := by decide) : PE X (.Name x pos) (tM (Wd.mk X.K T) W (eC d)) := r_c hv (pe_glob hg hm r hd)
/-- two values, then an operation -/
theorem two {f : Sl → D → D → AH → Res D} {σ : L2.St} {H : Hp} {Q : VK} {R' : V → V → Hp → Prop} (z : tM (Wd.mk X.K T) W (fun s h => (ma s h).bind fun x h1 => (mb s h1).bind fun y h2 => f s x y h2) σ H Q)
    (k : ∀ c2 s h2 H2 x y v u, Rel (Wd.mk X.K T) c2 h2 H2 → RelS (Wd.mk X.K T) c2 s σ → Rep (Wd.mk X.K T) c2 x v → Rep (Wd.mk X.K T) c2 y u → Out (Wd.mk X.K T) c2 H2 (fun cls dd H' => W cls dd σ H') (Rep (Wd.mk X.K T)) Q (f s x y h2) → R' v u H2) :
    tM (Wd.mk X.K T) W ma σ H fun v H1 => tM (Wd.mk X.K T) W mb σ H1 fun u H2 => R' v u H2 := by
  obtain ⟨c, s, h, R, S, o⟩ := z
  refine ⟨c, s, h, R, S, (Out.bind (A := Rep (Wd.mk X.K T)) o).mono ?_⟩
  rintro v H1 ⟨c1, h1, x, R1, E1, r1, o1⟩
  refine ⟨c1, s, h1, R1, S.ext E1, (Out.bind (A := Rep (Wd.mk X.K T)) o1).mono ?_⟩
  rintro u H2 ⟨c2, h2, y, R2, E2, r2, o2⟩
  exact k c2 s h2 H2 x y v u R2 ((S.ext E1).ext E2) (r1.ext E2) r2 o2
theorem one {f : Sl → D → AH → Res D} {σ : L2.St} {H : Hp} {Q : VK} {R' : V → Hp → Prop} (z : tM (Wd.mk X.K T) W (fun s h => (ma s h).bind (f s)) σ H Q)
    (k : ∀ c2 s h2 H2 x v, Rel (Wd.mk X.K T) c2 h2 H2 → RelS (Wd.mk X.K T) c2 s σ → Rep (Wd.mk X.K T) c2 x v → Out (Wd.mk X.K T) c2 H2 (fun cls dd H' => W cls dd σ H') (Rep (Wd.mk X.K T)) Q (f s x h2) → R' v H2) :
    tM (Wd.mk X.K T) W ma σ H R' := by
  obtain ⟨c, s, h, R, S, o⟩ := z
  refine ⟨c, s, h, R, S, (Out.bind (A := Rep (Wd.mk X.K T)) o).mono ?_⟩
  rintro v H1 ⟨c1, h1, x, R1, E1, r1, o1⟩
  exact k c1 s h1 H1 x v R1 (S.ext E1) r1 o1
theorem oneA {f : Sl → List D → AH → Res D} {σ : L2.St} {H : Hp} {Q : VK} {R' : List V → Hp → Prop} (z : tM (Wd.mk X.K T) W (fun s h => (ms s h).bind (f s)) σ H Q)
    (k : ∀ c2 s h2 H2 x v, Rel (Wd.mk X.K T) c2 h2 H2 → RelS (Wd.mk X.K T) c2 s σ → RepL (Wd.mk X.K T) c2 x v → Out (Wd.mk X.K T) c2 H2 (fun cls dd H' => W cls dd σ H') (Rep (Wd.mk X.K T)) Q (f s x h2) → R' v H2) :
    tA (Wd.mk X.K T) W ms σ H R' := by
  obtain ⟨c, s, h, R, S, o⟩ := z
  refine ⟨c, s, h, R, S, (Out.bind (A := RepL (Wd.mk X.K T)) o).mono ?_⟩
  rintro v H1 ⟨c1, h1, x, R1, E1, r1, o1⟩
  exact k c1 s h1 H1 x v R1 (S.ext E1) r1 o1
theorem optOut {w : Wd} {c : Cf} {H : Hp} {E : XK} {o : Option D} {h : AH} {Q : VK} (z : Out w c H E (Rep w) Q (optR o h)) : ∃ d, o = some d ∧ Gives w c h H d Q := by
  cases o with
  | none => exact False.elim z
  | some d => exact ⟨d, rfl, z⟩
theorem r_op {op : Operator} {r : R2} {g : AH → D → D → Option D} (ho : OpR X (binaryOp op) r) (hg : Op2 (Wd.mk X.K T) r g) (ha : PE X a (tM (Wd.mk X.K T) W ma)) (hb : PE X b (tM (Wd.mk X.K T) W mb)) : PE X (.BinOp a op b pos) (tM (Wd.mk X.K T) W (eBin g ma mb)) :=
  PEi (pe_op ho ha hb) fun σ H Q z => two z fun c2 s h2 H2 x y v u R2 S2 r1 r2 o => by
    obtain ⟨d, e, G⟩ := optOut o
    exact hg c2 h2 H2 x y d v u Q R2 r1 r2 e G
theorem r_un {op : UnaryOp} {r : V → Hp → VK → Prop} {g : AH → D → Option D} (ho : UnR X (unaryOp op) r) (hg : Op1 (Wd.mk X.K T) r g) (ha : PE X a (tM (Wd.mk X.K T) W ma)) : PE X (.UnaryOp op a pos) (tM (Wd.mk X.K T) W (eUn g ma)) :=
  PEi (pe_un ho ha) fun σ H Q z => one z fun c2 s h2 H2 x v R2 S2 r1 o => by
    obtain ⟨d, e, G⟩ := optOut o
    exact hg c2 h2 H2 x d v Q R2 r1 e G
theorem r_cmp {op : CmpOp} {r : R2} {g : AH → D → D → Option D} (ho : OpR X (compareOp op) r) (hg : Op2 (Wd.mk X.K T) r g) (ha : PE X a (tM (Wd.mk X.K T) W ma)) (hb : PE X b (tM (Wd.mk X.K T) W mb)) (hm : behindInMarks op b = false) : PE X (.Compare a [op] [b] pos) (tM (Wd.mk X.K T) W (eBin g ma mb)) :=
  PEi (pe_cmpR ho ha hb hm) fun σ H Q z => two z fun c2 s h2 H2 x y v u R2 S2 r1 r2 o => by
    obtain ⟨d, e, G⟩ := optOut o
    exact hg c2 h2 H2 x y d v u Q R2 r1 r2 e G
theorem r_nil : PA X [] (tA (Wd.mk X.K T) W aNil) := PAi pa_nil fun σ H Q ⟨c, s, h, R, S, o⟩ => o c [] H R (.refl R.sub) .nil
theorem r_cons (ha : PE X e (tM (Wd.mk X.K T) W ma)) (hr : PA X es (tA (Wd.mk X.K T) W ms)) (hs : starEach (e :: es) X.env = (false, eval e X.env) :: starEach es X.env := by rfl) : PA X (e :: es) (tA (Wd.mk X.K T) W (aCons ma ms)) :=
  PAi (pa_cons ha hr hs) fun σ H Q z => by
    obtain ⟨c, s, h, R, S, o⟩ := z
    refine ⟨c, s, h, R, S, (Out.bind (A := Rep (Wd.mk X.K T)) o).mono ?_⟩
    rintro v H1 ⟨c1, h1, x, R1, E1, r1, o1⟩
    refine ⟨c1, s, h1, R1, S.ext E1, (Out.bind (A := RepL (Wd.mk X.K T)) o1).mono ?_⟩
    rintro vs H2 ⟨c2, h2, xs, R2, E2, r2, o2⟩
    exact o2 c2 (v :: vs) H2 R2 (.refl R2.sub) (.cons (r1.ext E2) r2)
theorem r_tup {x1} (ha : PA X es (tA (Wd.mk X.K T) W ms)) : PE X (.Tuple es x1 pos) (tM (Wd.mk X.K T) W (eTup ms)) :=
  PEi (pe_tup ha) fun σ H Q z => oneA z fun c2 s h2 H2 x v R2 S2 r1 o => by
    by_cases hl : x.length ≤ 100000
    · rw [if_pos hl] at o
      exact ⟨by rw [← r1.len]; exact size5 hl, fun p hp => Gives.tup (h := h2) o R2 r1 p hp⟩
    · rw [if_neg hl] at o
      exact o.elim
theorem r_lst (ha : PA X es (tA (Wd.mk X.K T) W ms)) : PE X (.List es pos) (tM (Wd.mk X.K T) W (eLst ms)) :=
  PEi (pe_lst ha) fun σ H Q z => oneA z fun c2 s h2 H2 x v R2 S2 r1 o => by
    by_cases hl : x.length ≤ 100000
    · rw [if_pos hl] at o
      exact ⟨by rw [← r1.len]; exact size5 hl, fun p hp => Gives.lst (h := h2) o R2 r1 p hp⟩
    · rw [if_neg hl] at o
      exact o.elim
theorem newId {w : Wd} {c : Cf} {h : AH} {H : Hp} {o : AO} {u : HO} {E : XK} {Q : VK} (z : Out w c H E (Rep w) Q (.ok (.ref h.n) (h.new o))) (R : Rel w c h H) (r : RepO w c o u) (p : Addr) (hp : H p = none) : Q (.ref p) (upd H p u) := by
  obtain ⟨R', E⟩ := R.add (H' := upd H p u) (u := u) hp (fun a v e => by rw [upd_ne (ne_of_none e hp)]; exact e) upd_same r
  refine z _ _ _ R' E ?_
  simp only [Rep]
  refine ⟨?_, ?_⟩
  · show V.ref p = V.ref (if h.n = c.n then p else _)
    rw [if_pos R.n.symm]
  · show h.n < c.n + 1
    rw [R.n]
    exact Nat.lt_succ_self _
theorem r_lstN (ha : PA X es (tA (Wd.mk X.K T) W ms)) : PE X (.List es pos) (tM (Wd.mk X.K T) W (eLstN ms)) :=
  PEi (pe_lst ha) fun σ H Q z => oneA z fun c2 s h2 H2 x v R2 S2 r1 o => by
    by_cases hl : x.length ≤ 100000
    · rw [if_pos hl] at o
      exact ⟨by rw [← r1.len]; exact size5 hl, fun p hp => newId o R2 ⟨v, rfl, r1⟩ p hp⟩
    · rw [if_neg hl] at o
      exact o.elim
theorem r_if (ht : PT X e (tT (Wd.mk X.K T) W mt)) (ha : PE X a (tM (Wd.mk X.K T) W ma)) (hb : PE X b (tM (Wd.mk X.K T) W mb)) : PE X (.IfExp e a b pos) (tM (Wd.mk X.K T) W (eIf mt ma mb)) :=
  PEi (pe_ifExp ht ha hb) fun σ H Q z => by
    obtain ⟨c, s, h, R, S, o⟩ := z
    refine ⟨c, s, h, R, S, (Out.bind (A := fun _ a b => a = b) o).mono ?_⟩
    rintro k H1 ⟨c1, h1, k', R1, E1, rfl, o1⟩
    cases k' with
    | true => exact ⟨c1, s, h1, R1, S.ext E1, o1⟩
    | false => exact ⟨c1, s, h1, R1, S.ext E1, o1⟩
end
end MP
set_option Elab.async false
set_option linter.all false
set_option maxRecDepth 100000
set_option maxHeartbeats 4000000
/-! mirrors: functions of the text, calls, methods, new instances -/
namespace MP
open PySem PySem.Spec L2
open PyProof.Rows hiding St

/-! ### room, and no repr under way -/
structure Rm (k : Nat) (A : Around) : Prop where
  r : Room k A
  g : A.guards = some []
theorem Rm.mono {j k : Nat} {A : Around} (z : Rm k A) (h : j ≤ k) : Rm j A := ⟨z.r.mono h, z.g⟩
theorem Rm.deeper {k : Nat} {A : Around} (z : Rm (k + 1) A) (env : Env) : Rm k (A.deeper env) := ⟨z.r.deeper env, z.g⟩
theorem Rm.make {k : Nat} {A : Around} (z : Rm (k + 1) A) (C : Addr) (us : List Value) (kw : List (Str × Value)) : Rm k (A.under (.builtin "type.__call__" ⟨.ref C :: us, kw⟩)) :=
  ⟨z.r.make C us kw, z.g⟩

/-- what a mirror promises of the def that it mirrors -/
def spM (w : Wd) (f : MF) : Sp := fun vs H Q E => ∃ c ds h, Rel w c h H ∧ RepL w c ds vs ∧ Out w c H E (Rep w) Q (f ds h)
/-- a def of the text: the body over the slots; ar parameters, n slots -/
def fnM (ar n : Nat) (b : MS) : MF := fun ds h => if ds.length = ar then
    match b (ds.map some ++ List.replicate (n - ar) none) h with
    | .nx _ h' => .ok .non h'
    | .rt d h' => .ok d h'
    | .ex e _ h' => .ex e h'
    | _ => .st
  else .st
/-- .. what it made and doesn't tell of is let go -/
noncomputable def fnG (ar n : Nat) (b : MS) : MF := fun ds h => gcR h (fnM ar n b ds h)
theorem spM_gc {w : Wd} {m : MF} {vs : List V} {H : Hp} {Q : VK} {E : XK} (h : spM w (fun ds h => gcR h (m ds h)) vs H Q E) : spM w m vs H Q E := by
  obtain ⟨c, ds, h, R, rl, o⟩ := h
  exact ⟨c, ds, h, R, rl, gc_out R o⟩
/-- the def at f runs as the mirror says -/
structure Fn (P : Program) (w : World) (K : PySem.W.Frag) (T : Nat → Addr) (mg : Str → Option Value) (base : Heap) (k : Nat) (f : Addr) (fd : FuncData) (ps : List Str) (m : MF) : Prop where
  run : ∀ (A : Around) (outer : List Env) (s : Shared) (H : Hp) (args : Args) (us : List Value) (vs : List V) (Q : VK) (E : XK), Rm k A → Env0 P w K mg base A outer s H →
    BindsTo s fd args (ps.zip us) → Vals vs us → spM ⟨K, T⟩ m vs H Q E → codeAny (model P w) A (.call (.ref f) args) (CR (L2.CX P w) outer P w H s Q E) s
theorem Fn.mono {P : Program} {w : World} {K : PySem.W.Frag} {T : Nat → Addr} {mg : Str → Option Value} {base : Heap} {j k : Nat} {f : Addr} {fd : FuncData} {ps : List Str} {m : MF} (F : Fn P w K T mg base j f fd ps m) (h : j ≤ k) : Fn P w K T mg base k f fd ps m :=
  ⟨fun A outer s H args us vs Q E hr => F.run A outer s H args us vs Q E (hr.mono h)⟩

theorem start_rel {w : Wd} {c : Cf} : ∀ {ds : List D} {vs : List V} (k : Nat), RepL w c ds vs → RelS w c (ds.map some ++ List.replicate k none) (vs.map some ++ List.replicate k none)
  | [], vs, k, r => by
    obtain rfl : vs = [] := by simpa [RepL] using r
    show RelS w c (List.replicate k none) (List.replicate k none)
    induction k with
    | zero => exact rfl
    | succ k ih => exact ⟨none, _, rfl, ih⟩
  | d :: ds, vs, k, r => by
    simp only [RepL] at r
    obtain ⟨x, xs, rfl, r1, r2⟩ := r
    exact ⟨x, _, rfl, r1, start_rel k r2⟩

section
variable {P : Program} {w : World} {K : PySem.W.Frag} {T : Nat → Addr} {mg : Str → Option Value} {base : Heap}
/-- the body's mirror gives the def's. X: where the body runs -/
theorem Fn.of {x qual : Str} {params : Arguments} {body : List Stmt} {scope : Scope} {dvs : List V} {kws : List (Str × V)} {f : Addr} {fd : FuncData} {N ps : List Str} {k : Nat} {b : MS}
    (F : FunD K x qual params body scope dvs kws f fd) (S : FnScope N ps scope)
    (hb : ∀ (cdv : Value) (A : Around) (outer : List Env) (s : Shared) (H : Hp) (E : XK), Rm k (A.deeper (envOfC qual scope s.heap.objs.size f cdv)) →
      PSs (cxOf (L2.CX P w) P w K mg base N qual scope f cdv A outer s H E) body (tS ⟨K, T⟩ (fun cls d _ H' => E cls d H') b)) :
    Fn P w K T mg base (k + 1) f fd ps (fnM ps.length N.length b) := by
  obtain ⟨oc, od, dV, kV, doc, pm, an, cdv, ct, osl, rfl, lk, hcd, _, _⟩ := F.ex
  refine ⟨fun A outer s H args us vs Q E hr e0 hbi r hsp => ?_⟩
  obtain ⟨c, ds, h, R, rl, o⟩ := hsp
  have dl : ds.length = ps.length := Classical.byContradiction fun z => by
    unfold fnM at o
    rw [if_neg z] at o
    exact o
  have hl : vs.length = ps.length := rl.len.symm.trans dl
  have kb := fun a o e => (e0.bs a o e).1
  have KX : K.In s.heap := e0.mod.kin.keeps kb
  have lim := e0.mod.nolimit.keeps kb
  have kinds : ∀ y ∈ ps.zip us, scope.names.lookup y.1 = some .local ∨ (scope.names.lookup y.1 = some .cell ∧ ((cellsFrom (s.heap.objs.size + 1) scope.names []).lookup y.1).isSome = true) := fun y hy =>
    (S.par y.1 (List.of_mem_zip (show (y.1, y.2) ∈ _ from hy)).1).imp id fun q => ⟨q, PySem.W.cellsFrom_some _ _ _ (.inl q)⟩
  refine codeAny_call_function hr.r.depth (KX _ _ lk) rfl S.co S.gen rfl (PySem.W.codeRec_of KX hcd) (hbi _ _ _ _ (wpAny_newFunctionEnv_cells S.kind kinds fun env he s1 x => ?_))
  subst he
  refine ⟨lim.keeps x.toInCall.keep, codeAny_func ?_⟩
  have ht := hb cdv A outer s H E (hr.deeper _)
  have I := inv_start (CX := L2.CX P w) (E := E) S hr.r.hd e0 hl r x
  have go : tS ⟨K, T⟩ (fun cls d _ H' => E cls d H') b { nx := fun _ H' => Q .non H', rt := Q } (start N vs) H := by
    refine ⟨c, ds.map some ++ List.replicate (N.length - ps.length) none, h, R, ?_, ?_⟩
    · have e := start_rel (N.length - ps.length) rl
      rw [← hl] at e ⊢
      exact e
    · unfold fnM at o
      rw [if_pos dl] at o
      cases q : b (ds.map some ++ List.replicate (N.length - ps.length) none) h with
      | nx s' h' => rw [q] at o; exact fun c' σ' H' R' e' r' => o c' .non H' R' e' (by simp [Rep])
      | rt d h' => rw [q] at o; exact o
      | ex e s' h' => rw [q] at o; exact fun c' cls dd σ' H' R' e' _ r' => o c' cls dd H' R' e' r'
      | bk s' h' => rw [q] at o; exact o.elim
      | ct s' h' => rw [q] at o; exact o.elim
      | st => rw [q] at o; exact o.elim
  refine wpAny_mono (ht.run [] s1 (start N vs) H _ I go) (fun fl s' hs => ?_) fun e s' hs => hs
  cases fl with
  | ret u =>
    obtain ⟨v, σ', H', J, rv, q⟩ := hs
    exact ⟨v, H', J.os, J.bare, J.base, J.hok, rv, q⟩
  | next =>
    obtain ⟨σ', H', J, q⟩ := hs
    exact ⟨.non, H', J.os, J.bare, J.base, J.hok, rfl, q⟩
  | brk => exact hs.elim fun _ z => z.elim fun _ z => z.2.elim
  | cont => exact hs.elim fun _ z => z.elim fun _ z => z.2.elim
end

theorem Fn.gc {P : Program} {w : World} {K : PySem.W.Frag} {T : Nat → Addr} {mg : Str → Option Value} {base : Heap} {k : Nat} {f : Addr} {fd : FuncData} {ps : List Str} {m : MF} (F : Fn P w K T mg base k f fd ps m) : Fn P w K T mg base k f fd ps (fun ds h => gcR h (m ds h)) :=
  ⟨fun A outer s H args us vs Q E hr e0 hb r h => F.run A outer s H args us vs Q E hr e0 hb r (spM_gc h)⟩
theorem Fn.ofG {P : Program} {w : World} {K : PySem.W.Frag} {T : Nat → Addr} {mg : Str → Option Value} {base : Heap} {x qual : Str} {params : Arguments} {body : List Stmt} {scope : Scope} {dvs : List V} {kws : List (Str × V)} {f : Addr} {fd : FuncData} {N ps : List Str} {k : Nat} {b : MS}
    (F : FunD K x qual params body scope dvs kws f fd) (S : FnScope N ps scope)
    (hb : ∀ (cdv : Value) (A : Around) (outer : List Env) (s : Shared) (H : Hp) (E : XK), Rm k (A.deeper (envOfC qual scope s.heap.objs.size f cdv)) →
      PSs (cxOf (L2.CX P w) P w K mg base N qual scope f cdv A outer s H E) body (tS ⟨K, T⟩ (fun cls d _ H' => E cls d H') b)) :
    Fn P w K T mg base (k + 1) f fd ps (fnG ps.length N.length b) := (Fn.of F S hb).gc

/-! ### how arguments come to parameters -/
/-- whence a parameter's value: the written ones, the defaults, the keyword-only defaults, the keywords -/
inductive Src where
  | us | its | mv | ws
def pick {α : Type} (us its mv ws : List α) : Src → List α
  | .us => us
  | .its => its
  | .mv => mv
  | .ws => ws
def gSel (l : List (Src × Nat)) {α : Type} (us its mv ws : List α) : List α := l.flatMap fun p => ((pick us its mv ws p.1).drop p.2).take 1
theorem gSel_vals {a a1 a2 a3 : List V} {b b1 b2 b3 : List Value} (h : Vals a b) (h1 : Vals a1 b1) (h2 : Vals a2 b2) (h3 : Vals a3 b3) : ∀ l : List (Src × Nat), Vals (gSel l a a1 a2 a3) (gSel l b b1 b2 b3)
  | [] => .nil
  | p :: l => by
    have e : ∀ q : Src, Vals (pick a a1 a2 a3 q) (pick b b1 b2 b3 q) := fun q => by cases q <;> assumption
    exact ((e p.1).drop p.2 |>.take 1).append (gSel_vals h h1 h2 h3 l)
theorem gSel_rep {w : Wd} {c : Cf} {a a1 a2 a3 : List D} {b b1 b2 b3 : List V} (h : RepL w c a b) (h1 : RepL w c a1 b1) (h2 : RepL w c a2 b2) (h3 : RepL w c a3 b3) : ∀ l : List (Src × Nat), RepL w c (gSel l a a1 a2 a3) (gSel l b b1 b2 b3)
  | [] => .nil
  | p :: l => by
    have e : ∀ q : Src, RepL w c (pick a a1 a2 a3 q) (pick b b1 b2 b3 q) := fun q => by cases q <;> assumption
    exact ((e p.1).drop p.2 |>.take 1).append (gSel_rep h h1 h2 h3 l)
/-- n written values and the keywords ks come to the parameters as l says; dv, mv: the defaults -/
structure Bd (K : PySem.W.Frag) (fd : FuncData) (ps : List Str) (n : Nat) (ks : List Str) (l : List (Src × Nat)) (dv mv : List V) : Prop where
  to : ∃ its mw : List Value, Vals dv its ∧ Vals mv mw ∧ ∀ (s : Shared) (us ws : List Value), K.In s.heap → us.length = n → ws.length = ks.length → BindsTo s fd ⟨us, ks.zip ws⟩ (ps.zip (gSel l us its mw ws))
section
variable {K : PySem.W.Frag} {x qual : Str} {params : Arguments} {body : List Stmt} {scope : Scope} {dvs : List V} {kws : List (Str × V)} {f : Addr} {fd : FuncData} {ps : List Str} {n : Nat} {ks : List Str} {l : List (Src × Nat)}
/-- no default is asked for -/
theorem bd_n (F : FunD K x qual params body scope [] kws f fd) (h : ∀ (kV doc pm : Value) (an : Option Addr) (cdv ct : Value) (us ws : List Value), us.length = n → ws.length = ks.length →
    bindArgs (PySem.W.fnOf x qual params body scope .none kV doc pm an cdv ct) ⟨us, ks.zip ws⟩ = pure (ps.zip (gSel l us [] [] ws))) : Bd K fd ps n ks l [] [] := by
  obtain ⟨oc, od, dV, kV, doc, pm, an, cdv, ct, osl, rfl, lk, hcd, hD, hK⟩ := F.ex
  rcases hD with ⟨_, rfl⟩ | ⟨e, _⟩
  · exact ⟨[], [], .nil, .nil, fun s us ws _ h1 h2 => .of_eq (h kV doc pm an cdv ct us ws h1 h2)⟩
  · exact absurd rfl e
/-- keyword-only defaults alone -/
theorem bd_k (F : FunD K x qual params body scope [] kws f fd) (ms : List (Str × V)) (hk : kws ≠ []) (hms : ∀ q ∈ ms, q ∈ kws) (h : ∀ (D : Addr) (doc pm : Value) (an : Option Addr) (cdv ct : Value) (us mv ws : List Value), us.length = n → mv.length = ms.length → ws.length = ks.length →
    KwChain D ((ms.map (·.1)).zip mv) (bindArgs (PySem.W.fnOf x qual params body scope .none (.ref D) doc pm an cdv ct) ⟨us, ks.zip ws⟩) (ps.zip (gSel l us [] mv ws))) : Bd K fd ps n ks l [] (ms.map (·.2)) := by
  obtain ⟨oc, od, dV, kV, doc, pm, an, cdv, ct, osl, rfl, lk, hcd, hD, hK⟩ := F.ex
  rcases hD with ⟨_, rfl⟩ | ⟨e, _⟩
  · rcases hK with e | ⟨D, rfl, hq⟩
    · exact absurd e hk
    · obtain ⟨mv, hl, rk, hks⟩ := kwd_vals (ms := ms) fun q hm => hq q (hms q hm)
      exact ⟨[], mv, .nil, rk, fun s us ws X h1 h2 => BindsTo.of_looks fun M => KwChain.looks X hks (h D doc pm an cdv ct us mv ws h1 hl h2)⟩
  · exact absurd rfl e
/-- positional defaults alone -/
theorem bd_d (F : FunD K x qual params body scope dvs kws f fd) (hd : dvs ≠ []) (h : ∀ (T : Addr) (kV doc pm : Value) (an : Option Addr) (cdv ct : Value) (us its ws : List Value), us.length = n → its.length = dvs.length → ws.length = ks.length →
    ∃ k, bindArgs (PySem.W.fnOf x qual params body scope (.ref T) kV doc pm an cdv ct) ⟨us, ks.zip ws⟩ = seqItems? (.ref T) >>= k ∧ k (some its.toArray) = pure (ps.zip (gSel l us its [] ws))) : Bd K fd ps n ks l dvs [] := by
  obtain ⟨oc, od, dV, kV, doc, pm, an, cdv, ct, osl, rfl, lk, hcd, hD, hK⟩ := F.ex
  rcases hD with ⟨e, _⟩ | ⟨_, T, o, its, m, rfl, lT, oT, rT⟩
  · exact absurd e hd
  · refine ⟨its, [], rT, .nil, fun s us ws X h1 h2 => ?_⟩
    obtain ⟨k, e1, e2⟩ := h T kV doc pm an cdv ct us its ws h1 rT.length.symm h2
    refine BindsTo.of_looks fun M => ?_
    rw [e1]
    exact looks_items X lT oT (.of_pure e2)
/-- both -/
theorem bd_dk (F : FunD K x qual params body scope dvs kws f fd) (ms : List (Str × V)) (hd : dvs ≠ []) (hk : kws ≠ []) (hms : ∀ q ∈ ms, q ∈ kws)
    (h : ∀ (T D : Addr) (doc pm : Value) (an : Option Addr) (cdv ct : Value) (us its mv ws : List Value), us.length = n → its.length = dvs.length → mv.length = ms.length → ws.length = ks.length →
      ∃ k, bindArgs (PySem.W.fnOf x qual params body scope (.ref T) (.ref D) doc pm an cdv ct) ⟨us, ks.zip ws⟩ = seqItems? (.ref T) >>= k ∧ KwChain D ((ms.map (·.1)).zip mv) (k (some its.toArray)) (ps.zip (gSel l us its mv ws))) : Bd K fd ps n ks l dvs (ms.map (·.2)) := by
  obtain ⟨oc, od, dV, kV, doc, pm, an, cdv, ct, osl, rfl, lk, hcd, hD, hK⟩ := F.ex
  rcases hD with ⟨e, _⟩ | ⟨_, T, o, its, m, rfl, lT, oT, rT⟩
  · exact absurd e hd
  · rcases hK with e | ⟨D, rfl, hq⟩
    · exact absurd e hk
    · obtain ⟨mv, hl, rk, hks⟩ := kwd_vals (ms := ms) fun q hm => hq q (hms q hm)
      refine ⟨its, mv, rT, rk, fun s us ws X h1 h2 => ?_⟩
      obtain ⟨k, e1, e2⟩ := h T D doc pm an cdv ct us its mv ws h1 rT.length.symm hl h2
      refine BindsTo.of_looks fun M => ?_
      rw [e1]
      exact looks_items X lT oT (KwChain.looks X hks e2)
end

/-! ### the arguments of a call, whatever is called -/
structure CArgs (X : Cx) (es : List Expr) (kws : List Keyword) (pos : Pos) (ks : List Str) (ta tk : TA) : Prop where
  run : ∀ (g : Value) (first : List Value), PySem.W.keepIn X.K g = true → ∀ (pins : List (Addr × Obj)) (s : Shared) (σ : L2.St) (H : Hp) (R : List V → List V → Hp → Prop) (Q : Value → Shared → Prop), Inv X pins σ H s →
    (ta σ H fun vs H1 => tk σ H1 fun zs H2 => R vs zs H2) →
    (∀ us ws vs zs H2 s2, Inv X pins σ H2 s2 → Vals vs us → Vals zs ws → R vs zs H2 → wpAny (model X.prog X.w) X.A (call g (first ++ us) (ks.zip ws)) Q X.xe s2) →
    wpAny (model X.prog X.w) X.A (callWith pos g first (backTo pos (starEach es X.env)) (backToKw pos (keywordEach kws X.env))) Q X.xe s
section
variable {X : Cx} {e : Expr} {es : List Expr} {kws : List Keyword} {pos : Pos} {ks : List Str} {ta tk : TA}
theorem ca0 : CArgs X [] [] pos [] tNil tNil := ⟨fun g first hk pins s σ H R Q I h go => PySem.W.callWith_K0 I.kIn hk (go [] [] [] [] H s I .nil .nil h)⟩
theorem caP (ha : PA X (e :: es) ta) (he : starEach (e :: es) X.env = (false, eval e X.env) :: starEach es X.env := by rfl) (hpl : (backTo pos (starEach es X.env)).any (·.1) = false := by rfl) : CArgs X (e :: es) [] pos [] ta tNil :=
  ⟨fun g first hk pins s σ H R Q I h go => PySem.W.callWith_K (h₀ := X.base) I.ok.mod.kin hk
    (thn (ha.run pos pins s σ H _ I h) fun us s1 ⟨vs, H1, I1, r, q⟩ => ⟨I1.kIn, go us [] vs [] H1 s1 I1 r .nil q⟩) he hpl⟩
theorem caK (hkw : PK X kws tk) (hall : (backToKw pos (keywordEach kws X.env)).all (·.1.isSome) = true := by rfl) (hks : (backToKw pos (keywordEach kws X.env)).filterMap (·.1) = ks := by rfl)
    (hpl : ((backTo pos (starEach [] X.env)).any (·.1) || (backToKw pos (keywordEach kws X.env)).any (·.1.isNone)) = false := by rfl) : CArgs X [] kws pos ks tNil tk :=
  ⟨fun g first hk pins s σ H R Q I h go => PySem.W.callWith_KW0 (h₀ := X.base) I.ok.mod.kin hk hall
    (thn (hkw.run pos pins s σ H _ I h) fun ws s2 ⟨zs, H2, I2, rz, q⟩ => ⟨I2.kIn, by rw [hks]; exact go [] ws [] zs H2 s2 I2 .nil rz q⟩) hpl⟩
theorem caPK (ha : PA X (e :: es) ta) (hkw : PK X kws tk) (hall : (backToKw pos (keywordEach kws X.env)).all (·.1.isSome) = true := by rfl) (hks : (backToKw pos (keywordEach kws X.env)).filterMap (·.1) = ks := by rfl)
    (he : starEach (e :: es) X.env = (false, eval e X.env) :: starEach es X.env := by rfl) (hpl : ((backTo pos (starEach (e :: es) X.env)).any (·.1) || (backToKw pos (keywordEach kws X.env)).any (·.1.isNone)) = false := by rfl) :
    CArgs X (e :: es) kws pos ks ta tk :=
  ⟨fun g first hk pins s σ H R Q I h go => PySem.W.callWith_KW (h₀ := X.base) I.ok.mod.kin hk hall
    (thn (ha.run pos pins s σ H _ I h) fun us s1 ⟨vs, H1, I1, r, q⟩ => thn (hkw.run pos pins s1 σ H1 _ I1 q) fun ws s2 ⟨zs, H2, I2, rz, q2⟩ => ⟨I2.kIn, by rw [hks]; exact go us ws vs zs H2 s2 I2 r rz q2⟩) hpl he⟩
end

section
variable {X : Cx} {T : Nat → Addr} {W : WX} {e : Expr} {es : List Expr} {kws : List Keyword} {pos : Pos} {ks : List Str} {ma mk : MA}
theorem tA_nil {σ : L2.St} {H : Hp} {Q : List V → Hp → Prop} (z : tA (Wd.mk X.K T) W aNil σ H Q) : Q [] H := by
  obtain ⟨c, s, h, R, S, o⟩ := z
  exact o c [] H R (.refl R.sub) .nil
theorem tA_mono {σ : L2.St} {H : Hp} {Q Q' : List V → Hp → Prop} (z : tA (Wd.mk X.K T) W ma σ H Q) (q : ∀ vs H', Q vs H' → Q' vs H') : tA (Wd.mk X.K T) W ma σ H Q' := by
  obtain ⟨c, s, h, R, S, o⟩ := z
  exact ⟨c, s, h, R, S, o.mono q⟩
theorem ca0m : CArgs X [] [] pos [] (tA (Wd.mk X.K T) W aNil) (tA (Wd.mk X.K T) W aNil) := ⟨fun g first hk pins s σ H R Q I h go => ca0.run g first hk pins s σ H R Q I (tA_nil (tA_nil h)) go⟩
theorem caPm (ha : PA X (e :: es) (tA (Wd.mk X.K T) W ma)) (he : starEach (e :: es) X.env = (false, eval e X.env) :: starEach es X.env := by rfl) (hpl : (backTo pos (starEach es X.env)).any (·.1) = false := by rfl) : CArgs X (e :: es) [] pos [] (tA (Wd.mk X.K T) W ma) (tA (Wd.mk X.K T) W aNil) :=
  ⟨fun g first hk pins s σ H R Q I h go => (caP ha he hpl).run g first hk pins s σ H R Q I (tA_mono h fun _ _ q => tA_nil q) go⟩
theorem caKm (hkw : PK X kws (tA (Wd.mk X.K T) W mk)) (hall : (backToKw pos (keywordEach kws X.env)).all (·.1.isSome) = true := by rfl) (hks : (backToKw pos (keywordEach kws X.env)).filterMap (·.1) = ks := by rfl)
    (hpl : ((backTo pos (starEach [] X.env)).any (·.1) || (backToKw pos (keywordEach kws X.env)).any (·.1.isNone)) = false := by rfl) : CArgs X [] kws pos ks (tA (Wd.mk X.K T) W aNil) (tA (Wd.mk X.K T) W mk) :=
  ⟨fun g first hk pins s σ H R Q I h go => (caK hkw hall hks hpl).run g first hk pins s σ H R Q I (tA_nil h) go⟩
theorem caPKm (ha : PA X (e :: es) (tA (Wd.mk X.K T) W ma)) (hkw : PK X kws (tA (Wd.mk X.K T) W mk)) (hall : (backToKw pos (keywordEach kws X.env)).all (·.1.isSome) = true := by rfl) (hks : (backToKw pos (keywordEach kws X.env)).filterMap (·.1) = ks := by rfl)
    (he : starEach (e :: es) X.env = (false, eval e X.env) :: starEach es X.env := by rfl) (hpl : ((backTo pos (starEach (e :: es) X.env)).any (·.1) || (backToKw pos (keywordEach kws X.env)).any (·.1.isNone)) = false := by rfl) :
    CArgs X (e :: es) kws pos ks (tA (Wd.mk X.K T) W ma) (tA (Wd.mk X.K T) W mk) := caPK ha hkw hall hks he hpl
end

/-! ### calls by mirrors -/
def eCall (f : MF) (n m : Nat) (l : List (Src × Nat)) (dd md : List D) (a b : MA) : ME := fun s h => (a s h).bind fun xs h1 => (b s h1).bind fun zs h2 => if xs.length = n ∧ zs.length = m then f (gSel l xs dd md zs) h2 else .st
/-- an instance that may be written -/
def insR (h : AH) : D → Option (Nat × Nat × List (Str × D))
  | .ref k => match h.g k with
    | some (.ins c fs) => some (k, c, fs)
    | _ => none
  | _ => none
/-- an instance -/
def insOf (h : AH) (d : D) : Option (Nat × Nat × List (Str × D)) := match d with
  | .obj c ks xs => some (0, c, ks.zip xs)
  | _ => insR h d
/-- o.m(..), o an instance of the class cl -/
def eMeth (cl : Nat) (nm : Str) (f : MF) (n m : Nat) (l : List (Src × Nat)) (dd md : List D) (o : ME) (a b : MA) : ME := fun s h => (o s h).bind fun x h0 => match insOf h0 x with
  | some (_, c, fs) => if c = cl ∧ fs.lookup nm = none then (a s h0).bind fun xs h1 => (b s h1).bind fun zs h2 => if xs.length = n ∧ zs.length = m then f (gSel l (x :: xs) dd md zs) h2 else .st else .st
  | none => .st
/-- C(..): a new instance, then __init__ -/
noncomputable def eMake (cl : Nat) (f : MF) (n m : Nat) (l : List (Src × Nat)) (dd md : List D) (a b : MA) : ME := fun s h => (a s h).bind fun xs h1 => (b s h1).bind fun zs h2 =>
  if xs.length = n ∧ zs.length = m then gcR h2 ((f (gSel l (.ref h2.n :: xs) dd md zs) (h2.new (.ins cl []))).bind fun r h3 => match r with
    | .non => .ok (.ref h2.n) h3
    | _ => .st)
  else .st

/-- .. one that is written later -/
def eMake0 (cl : Nat) (f : MF) (n m : Nat) (l : List (Src × Nat)) (dd md : List D) (a b : MA) : ME := fun s h => (a s h).bind fun xs h1 => (b s h1).bind fun zs h2 =>
  if xs.length = n ∧ zs.length = m then (f (gSel l (.ref h2.n :: xs) dd md zs) (h2.new (.ins cl []))).bind fun r h3 => match r with
    | .non => .ok (.ref h2.n) h3
    | _ => .st
  else .st
section
variable {X : Cx} {T : Nat → Addr} {W : WX} {k n : Nat} {f C : Addr} {fd : FuncData} {ps ks : List Str} {mf : MF} {l : List (Src × Nat)} {dd md : List D} {dv mv : List V} {e o : Expr} {es : List Expr} {kws : List Keyword} {pos p apos : Pos} {ma mk : MA} {mo : ME} {x m : Str}
/-- the callee runs -/
theorem run_m {pins : List (Addr × Obj)} {σ : L2.St} {H : Hp} {s : Shared} {Q : VK} {us : List Value} {args : Args} {vs : List V} (tk : Takes X W) (F : Fn X.prog X.w X.K T X.mg X.base k f fd ps mf) (hr : Rm k X.A) (hb : BindsTo s fd args (ps.zip us))
    (I : Inv X pins σ H s) (r : Vals vs us) (h : spM (Wd.mk X.K T) mf vs H Q fun cls dd H' => W cls dd σ H') : wpAny (model X.prog X.w) X.A (call (.ref f) args.pos args.kw) (EP X pins σ Q) X.xe s :=
  wpAny_call (by
    obtain ⟨ap, ak⟩ := args
    refine codeAny_mono (F.run X.A X.stack s H ⟨ap, ak⟩ us vs Q (WE W σ) hr I.env0 hb r h) fun z s' hq => ?_
    cases z with
    | error e => exact passAt tk σ pins H s e s' I hq
    | ok fl =>
      cases fl with
      | ret u => exact I.after hq
      | next => exact False.elim hq
      | brk => exact False.elim hq
      | cont => exact False.elim hq)
theorem lens {w : Wd} {c : Cf} {xs zs : List D} {vs us : List V} {n m : Nat} (r1 : RepL w c xs vs) (r2 : RepL w c zs us) (h : xs.length = n ∧ zs.length = m) : vs.length = n ∧ us.length = m := ⟨by rw [← r1.len]; exact h.1, by rw [← r2.len]; exact h.2⟩
/-- two argument lists, then what is wanted of the values -/
theorem twoA {α β : Type} {A : Cf → α → β → Prop} {f : List D → List D → AH → Res α} {c : Cf} {s : Sl} {h : AH} {σ : L2.St} {H : Hp} {Q : β → Hp → Prop} {R' : List V → List V → Hp → Prop} (R : Rel (Wd.mk X.K T) c h H) (S : RelS (Wd.mk X.K T) c s σ)
    (z : Out (Wd.mk X.K T) c H (fun cls dd H' => W cls dd σ H') A Q ((ma s h).bind fun x h1 => (mk s h1).bind fun y h2 => f x y h2))
    (k : ∀ c2 h2 H2 x y v u, Rel (Wd.mk X.K T) c2 h2 H2 → RelS (Wd.mk X.K T) c2 s σ → Ext c H c2 H2 → RepL (Wd.mk X.K T) c2 x v → RepL (Wd.mk X.K T) c2 y u → Out (Wd.mk X.K T) c2 H2 (fun cls dd H' => W cls dd σ H') A Q (f x y h2) → R' v u H2) :
    tA (Wd.mk X.K T) W ma σ H fun v H1 => tA (Wd.mk X.K T) W mk σ H1 fun u H2 => R' v u H2 := by
  refine ⟨c, s, h, R, S, (Out.bind (A := RepL (Wd.mk X.K T)) z).mono ?_⟩
  rintro v H1 ⟨c1, h1, x, R1, E1, r1, o1⟩
  refine ⟨c1, s, h1, R1, S.ext E1, (Out.bind (A := RepL (Wd.mk X.K T)) o1).mono ?_⟩
  rintro u H2 ⟨c2, h2, y, R2, E2, r2, o2⟩
  exact k c2 h2 H2 x y v u R2 ((S.ext E1).ext E2) (E1.trans E2) (r1.ext E2) r2 o2
theorem r_call (tk : Takes X W) (F : Fn X.prog X.w X.K T X.mg X.base k f fd ps mf) (hr : Rm k X.A) (hm : X.mg x = some (.ref f)) (hk : PySem.W.keepIn X.K (.ref f) = true) (hb : Bd X.K fd ps n ks l dv mv) (hs : ∀ c, RepL (Wd.mk X.K T) c dd dv) (hs2 : ∀ c, RepL (Wd.mk X.K T) c md mv)
    (ha : CArgs X es kws pos ks (tA (Wd.mk X.K T) W ma) (tA (Wd.mk X.K T) W mk)) (hg : Gl X x := by rfl) (hdb : (x == ("__debug__" : Str)) = false := by decide) : PE X (.Call (.Name x p) es kws pos) (tM (Wd.mk X.K T) W (eCall mf n ks.length l dd md ma mk)) := by
  refine ⟨fun pins s σ H Q I z => wpAny_Call_Name_kw (ld_glob I hg hm ?_ hdb)⟩
  obtain ⟨c, sl, h, R, S, o⟩ := z
  refine ha.run (.ref f) [] hk pins s σ H (fun vs zs H2 => vs.length = n ∧ zs.length = ks.length ∧ spM (Wd.mk X.K T) mf (gSel l vs dv mv zs) H2 Q fun cls dd H' => W cls dd σ H') _ I ?_ ?_
  · refine twoA R S o fun c2 h2 H2 x y v u R2 S2 E2 r1 r2 o2 => ?_
    by_cases hl : x.length = n ∧ y.length = ks.length
    · rw [if_pos hl] at o2
      exact ⟨(lens r1 r2 hl).1, (lens r1 r2 hl).2, c2, _, h2, R2, gSel_rep r1 (hs c2) (hs2 c2) r2 l, o2⟩
    · rw [if_neg hl] at o2
      exact o2.elim
  · intro us ws vs zs H2 s2 I2 r1 r2 ⟨l1, l2, q⟩
    obtain ⟨its, mw, v1, v2, B⟩ := hb.to
    exact run_m (args := ⟨us, ks.zip ws⟩) tk F hr (B s2 us ws I2.kIn (r1.length.symm.trans l1) (r2.length.symm.trans l2)) I2 (gSel_vals r1 v1 v2 r2 l) q
theorem insR_eq {h : AH} {d : D} {k c : Nat} {fs : List (Str × D)} (e : insR h d = some (k, c, fs)) : d = .ref k ∧ h.g k = some (.ins c fs) := by
  cases d with
  | ref j =>
    simp only [insR] at e
    split at e
    · rename_i c' fs' q
      simp only [Option.some.injEq, Prod.mk.injEq] at e
      obtain ⟨rfl, rfl, rfl⟩ := e
      exact ⟨rfl, q⟩
    · cases e
  | _ => simp [insR] at e
theorem RepKV.lookup {w : Wd} {c : Cf} : ∀ {fs : List (Str × D)} {vs : List (Str × V)} {f : Str}, RepKV w c fs vs → (fs.lookup f = none ∧ vs.lookup f = none) ∨ ∃ d v, fs.lookup f = some d ∧ vs.lookup f = some v ∧ Rep w c d v
  | [], vs, f, r => by
    obtain rfl : vs = [] := r
    exact .inl ⟨rfl, rfl⟩
  | (g, d) :: fs, vs, f, r => by
    obtain ⟨y, ys, rfl, r1, r2⟩ := r
    rw [List.lookup_cons, List.lookup_cons]
    cases hb : f == g with
    | true => exact .inr ⟨d, y, rfl, rfl, r1⟩
    | false => exact RepKV.lookup r2
theorem RepKV.none {w : Wd} {c : Cf} {fs : List (Str × D)} {vs : List (Str × V)} {f : Str} (r : RepKV w c fs vs) (h : fs.lookup f = none) : vs.lookup f = none := by
  rcases r.lookup (f := f) with ⟨_, q⟩ | ⟨d, v, q, _⟩
  · exact q
  · rw [q] at h; cases h
/-- an instance as it lies -/
theorem insAtR {w : Wd} {c : Cf} {h : AH} {H : Hp} (R : Rel w c h H) {d : D} {v : V} (r : Rep w c d v) {k cl : Nat} {fs : List (Str × D)} (e : insR h d = some (k, cl, fs)) :
    d = .ref k ∧ h.g k = some (.ins cl fs) ∧ v = .ref (c.ρ k) ∧ ∃ dx vs, c.G (c.ρ k) = some (.ins (w.T cl) dx vs) ∧ H (c.ρ k) = some (.ins (w.T cl) dx vs) ∧ RepKV w c fs vs ∧ w.T cl ≠ 0 := by
  obtain ⟨rfl, q⟩ := insR_eq e
  simp only [Rep] at r
  obtain ⟨u, e1, dx, vs, rfl, rf, tn⟩ := R.at_ _ _ q
  exact ⟨rfl, q, r.1, dx, vs, e1, R.sub _ _ e1, rf, tn⟩
theorem repKV_zip0 {w : Wd} {c : Cf} {κ : Type} : ∀ {ks : List κ} {xs : List D} {vs : List V}, ks.length = xs.length → RepL w c xs vs → RepKV w c (ks.zip xs) (ks.zip vs)
  | [], [], vs, _, r => by obtain rfl : vs = [] := by simpa [RepL] using r
                           rfl
  | k :: ks, x :: xs, vs, h, r => by
    simp only [RepL] at r
    obtain ⟨v, vs', rfl, r1, r2⟩ := r
    exact ⟨v, _, rfl, r1, repKV_zip0 (by simpa using h) r2⟩
  | [], _ :: _, _, h, _ => by simp at h
  | _ :: _, [], _, h, _ => by simp at h
theorem insAt {w : Wd} {c : Cf} {h : AH} {H : Hp} (R : Rel w c h H) {d : D} {v : V} (r : Rep w c d v) {k cl : Nat} {fs : List (Str × D)} (e : insOf h d = some (k, cl, fs)) :
    ∃ a dx vs, v = .ref a ∧ c.G a = some (.ins (w.T cl) dx vs) ∧ H a = some (.ins (w.T cl) dx vs) ∧ RepKV w c fs vs ∧ w.T cl ≠ 0 := by
  have ref : insR h d = some (k, cl, fs) → ∃ a dx vs, v = .ref a ∧ c.G a = some (.ins (w.T cl) dx vs) ∧ H a = some (.ins (w.T cl) dx vs) ∧ RepKV w c fs vs ∧ w.T cl ≠ 0 := fun e => by
    obtain ⟨rfl, q, rfl, dx, vs, e1, e2, rf, tn⟩ := insAtR R r e
    exact ⟨_, dx, vs, rfl, e1, e2, rf, tn⟩
  cases d with
  | obj c' ks xs =>
    simp only [insOf, Option.some.injEq, Prod.mk.injEq] at e
    obtain ⟨rfl, rfl, rfl⟩ := e
    simp only [Rep] at r
    obtain ⟨a, dx, vs, rfl, g, n, tn, hl, q⟩ := r
    exact ⟨a, dx, _, rfl, g, R.sub _ _ g, repKV_zip0 hl q, tn⟩
  | ref j => exact ref e
  | non => exact ref e
  | bl _ => exact ref e
  | int _ => exact ref e
  | str _ => exact ref e
  | tup _ => exact ref e
  | lst _ => exact ref e
  | fz _ => exact ref e
  | cst _ => exact ref e
theorem r_meth {cl : Nat} {pl : Sem Bool} (tk : Takes X W) (he : PE X o (tM (Wd.mk X.K T) W mo)) (c : Cls X.K (T cl)) (hm : Meth X.K (T cl) m f) (F : Fn X.prog X.w X.K T X.mg X.base k f fd ps mf) (hr : Rm k X.A) (hb : Bd X.K fd ps (n + 1) ks l dv mv) (hs : ∀ c, RepL (Wd.mk X.K T) c dd dv) (hs2 : ∀ c, RepL (Wd.mk X.K T) c md mv)
    (ha : CArgs X es kws pos ks (tA (Wd.mk X.K T) W ma) (tA (Wd.mk X.K T) W mk))
    (ht : eval (.Call (.Attribute o m apos) es kws pos) X.env = (do
      let ov ← eval o X.env
      standAt apos.atName
      let (f, first) ← holding [ov] (getMethod ov m pl)
      callWith pos f first (backTo pos (starEach es X.env)) (backToKw pos (keywordEach kws X.env))) := by rfl) :
    PE X (.Call (.Attribute o m apos) es kws pos) (tM (Wd.mk X.K T) W (eMeth cl m mf n ks.length l dd md mo ma mk)) := by
  refine ⟨fun pins s σ H Q I z => ?_⟩
  obtain ⟨c0, sl, h, R, S, z⟩ := z
  have w1 := he.run pins s σ H _ I ⟨c0, sl, h, R, S, Out.bind (A := Rep (Wd.mk X.K T)) z⟩
  refine PySem.W.methodCall_KW (pl := pl) (thn w1 fun u s1 ⟨y, H1, I1, ry, c1, h1, d, R1, E1, rd, o1⟩ => ?_) ht
  split at o1
  · rename_i kk cc fs ei
    by_cases hc : cc = cl ∧ fs.lookup m = none
    · rw [if_pos hc] at o1
      obtain ⟨aa, dx, vs, rfl, e1, e2, rf, tn⟩ := insAt R1 rd ei
      rw [hc.1] at e2
      obtain rfl : u = Value.ref aa := ry
      refine getmeth_ok I1 e2 c hm (rf.none hc.2) ?_
      refine ha.run (.ref f) [.ref aa] hm.kp pins s1 σ H1 (fun vs zs H2 => vs.length = n ∧ zs.length = ks.length ∧ spM (Wd.mk X.K T) mf (gSel l (.ref aa :: vs) dv mv zs) H2 Q fun cls dd H' => W cls dd σ H') _ I1 ?_ ?_
      · refine twoA R1 (S.ext E1) o1 fun c2 h2 H2 x y v u R2 S2 E2 r1 r2 o2 => ?_
        by_cases hl : x.length = n ∧ y.length = ks.length
        · rw [if_pos hl] at o2
          exact ⟨(lens r1 r2 hl).1, (lens r1 r2 hl).2, c2, _, h2, R2, gSel_rep (.cons (rd.ext E2) r1) (hs c2) (hs2 c2) r2 l, o2⟩
        · rw [if_neg hl] at o2
          exact o2.elim
      · intro us ws vs zs H2 s2 I2 r1 r2 ⟨l1, l2, q⟩
        obtain ⟨its, mw, v1, v2, B⟩ := hb.to
        exact run_m (args := ⟨.ref aa :: us, ks.zip ws⟩) tk F hr (B s2 (.ref aa :: us) ws I2.kIn (by rw [List.length_cons, ← r1.length, l1]) (r2.length.symm.trans l2)) I2 (gSel_vals (a := .ref aa :: vs) (b := .ref aa :: us) (.cons rfl r1) v1 v2 r2 l) q
    · rw [if_neg hc] at o1
      exact o1.elim
  · exact o1.elim
/-- a new instance lies -/
theorem made {w : Wd} {c : Cf} {h : AH} {H : Hp} (R : Rel w c h H) {cl : Nat} {x dx : Addr} (tn : w.T cl ≠ 0) (hx : H x = none) (hd : H dx = none) (ne : dx ≠ x) :
    Rel w (c.add x (.ins (w.T cl) dx [])) (h.new (.ins cl [])) (upd (upd H dx (.own x)) x (.ins (w.T cl) dx [])) ∧ Ext c H (c.add x (.ins (w.T cl) dx [])) (upd (upd H dx (.own x)) x (.ins (w.T cl) dx [])) :=
  R.add hx (fun a v e => by rw [upd_ne (ne_of_none e hx), upd_ne (ne_of_none e hd)]; exact e) upd_same ⟨dx, [], rfl, rfl, tn⟩
theorem r_make {cl : Nat} (tk : Takes X W) (M : Mk X.K (T cl) f) (tn : T cl ≠ 0) (F : Fn X.prog X.w X.K T X.mg X.base k f fd ps mf) (hr : Rm (k + 1) X.A) (hm : X.mg x = some (.ref (T cl))) (hb : Bd X.K fd ps (n + 1) ks l dv mv) (hs : ∀ c, RepL (Wd.mk X.K T) c dd dv) (hs2 : ∀ c, RepL (Wd.mk X.K T) c md mv)
    (ha : CArgs X es kws pos ks (tA (Wd.mk X.K T) W ma) (tA (Wd.mk X.K T) W mk)) (hg : Gl X x := by rfl) (hdb : (x == ("__debug__" : Str)) = false := by decide) : PE X (.Call (.Name x p) es kws pos) (tM (Wd.mk X.K T) W (eMake cl mf n ks.length l dd md ma mk)) := by
  refine ⟨fun pins s σ H Q I z => wpAny_Call_Name_kw (ld_glob I hg hm ?_ hdb)⟩
  obtain ⟨c, sl, h, R, S, o⟩ := z
  refine ha.run (.ref (T cl)) [] M.kp pins s σ H (fun vs zs H2 => vs.length = n ∧ zs.length = ks.length ∧ ∀ y dy, H2 y = none → H2 dy = none → dy ≠ y →
    spM (Wd.mk X.K T) mf (gSel l (.ref y :: vs) dv mv zs) (upd (upd H2 dy (.own y)) y (.ins (T cl) dy [])) (fun v H3 => v = .non ∧ Q (.ref y) H3) fun cls dd H' => W cls dd σ H') _ I ?_ ?_
  · refine twoA R S o fun c2 h2 H2 x y v u R2 S2 E2 r1 r2 o2 => ?_
    by_cases hl : x.length = n ∧ y.length = ks.length
    · rw [if_pos hl] at o2
      have o2 := gc_out R2 o2
      refine ⟨(lens r1 r2 hl).1, (lens r1 r2 hl).2, fun a da ha hd ne => ?_⟩
      obtain ⟨R3, E3⟩ := made (cl := cl) R2 tn ha hd ne
      have rn : Rep (Wd.mk X.K T) (c2.add a (.ins (T cl) da [])) (.ref h2.n) (.ref a) := by
        simp only [Rep]
        exact ⟨by show V.ref a = V.ref (if h2.n = c2.n then a else _); rw [if_pos R2.n.symm], by show h2.n < c2.n + 1; rw [R2.n]; exact Nat.lt_succ_self _⟩
      refine ⟨_, _, _, R3, gSel_rep (.cons rn (r1.ext E3)) (hs _) (hs2 _) (r2.ext E3) l, ?_⟩
      refine (Out.bind (A := Rep (Wd.mk X.K T)) (Out.shift E3 o2)).mono ?_
      rintro v3 H3 ⟨c4, h4, d4, R4, E4, r4, o4⟩
      cases d4 with
      | non =>
        simp only [Rep] at r4
        exact ⟨r4, o4 c4 _ H3 R4 (.refl R4.sub) (rn.ext E4)⟩
      | _ => exact o4.elim
    · rw [if_neg hl] at o2
      exact o2.elim
  · intro us ws vs zs H2 s2 I2 r1 r2 ⟨l1, l2, q⟩
    have hq := q (s2.heap.objs.size + 1) s2.heap.objs.size (I2.hok.fresh (Nat.le_succ _)) (I2.hok.fresh (Nat.le_refl _)) (Nat.ne_of_lt (Nat.lt_succ_self _))
    have I3 := Inv.made (C := T cl) I2
    obtain ⟨its, mw, v1, v2, B⟩ := hb.to
    refine wpAny_call (L2.make_map (f := f) I2.kIn M.makes M.init (beq_iff_eq.mp M.fn) (codeAny_mono (F.run _ X.stack _ _ ⟨.ref (s2.heap.objs.size + 1) :: us, ks.zip ws⟩ _ _ _ _ (hr.make _ _ _) (I3.env0.make _ _ _) (B _ (.ref (s2.heap.objs.size + 1) :: us) ws I3.kIn (by rw [List.length_cons, ← r1.length, l1]) (r2.length.symm.trans l2)) (gSel_vals (a := .ref (s2.heap.objs.size + 1) :: vs) (b := .ref (s2.heap.objs.size + 1) :: us) (.cons rfl r1) v1 v2 r2 l) hq) fun z s' hz => ?_))
    cases z with
    | error e => exact passAt tk σ pins _ _ e s' I3 hz
    | ok fl =>
      cases fl with
      | ret u =>
        obtain ⟨v, H', I4, rv, ev, q3⟩ := I3.after hz
        subst ev
        exact ⟨rv, .ref (s2.heap.objs.size + 1), H', I4, rfl, q3⟩
      | next => exact False.elim hz
      | brk => exact False.elim hz
      | cont => exact False.elim hz
theorem r_make0 {cl : Nat} (tk : Takes X W) (M : Mk X.K (T cl) f) (tn : T cl ≠ 0) (F : Fn X.prog X.w X.K T X.mg X.base k f fd ps mf) (hr : Rm (k + 1) X.A) (hm : X.mg x = some (.ref (T cl))) (hb : Bd X.K fd ps (n + 1) ks l dv mv) (hs : ∀ c, RepL (Wd.mk X.K T) c dd dv) (hs2 : ∀ c, RepL (Wd.mk X.K T) c md mv)
    (ha : CArgs X es kws pos ks (tA (Wd.mk X.K T) W ma) (tA (Wd.mk X.K T) W mk)) (hg : Gl X x := by rfl) (hdb : (x == ("__debug__" : Str)) = false := by decide) : PE X (.Call (.Name x p) es kws pos) (tM (Wd.mk X.K T) W (eMake0 cl mf n ks.length l dd md ma mk)) := by
  refine ⟨fun pins s σ H Q I z => wpAny_Call_Name_kw (ld_glob I hg hm ?_ hdb)⟩
  obtain ⟨c, sl, h, R, S, o⟩ := z
  refine ha.run (.ref (T cl)) [] M.kp pins s σ H (fun vs zs H2 => vs.length = n ∧ zs.length = ks.length ∧ ∀ y dy, H2 y = none → H2 dy = none → dy ≠ y →
    spM (Wd.mk X.K T) mf (gSel l (.ref y :: vs) dv mv zs) (upd (upd H2 dy (.own y)) y (.ins (T cl) dy [])) (fun v H3 => v = .non ∧ Q (.ref y) H3) fun cls dd H' => W cls dd σ H') _ I ?_ ?_
  · refine twoA R S o fun c2 h2 H2 x y v u R2 S2 E2 r1 r2 o2 => ?_
    by_cases hl : x.length = n ∧ y.length = ks.length
    · rw [if_pos hl] at o2
      refine ⟨(lens r1 r2 hl).1, (lens r1 r2 hl).2, fun a da ha hd ne => ?_⟩
      obtain ⟨R3, E3⟩ := made (cl := cl) R2 tn ha hd ne
      have rn : Rep (Wd.mk X.K T) (c2.add a (.ins (T cl) da [])) (.ref h2.n) (.ref a) := by
        simp only [Rep]
        exact ⟨by show V.ref a = V.ref (if h2.n = c2.n then a else _); rw [if_pos R2.n.symm], by show h2.n < c2.n + 1; rw [R2.n]; exact Nat.lt_succ_self _⟩
      refine ⟨_, _, _, R3, gSel_rep (.cons rn (r1.ext E3)) (hs _) (hs2 _) (r2.ext E3) l, ?_⟩
      refine (Out.bind (A := Rep (Wd.mk X.K T)) (Out.shift E3 o2)).mono ?_
      rintro v3 H3 ⟨c4, h4, d4, R4, E4, r4, o4⟩
      cases d4 with
      | non =>
        simp only [Rep] at r4
        exact ⟨r4, o4 c4 _ H3 R4 (.refl R4.sub) (rn.ext E4)⟩
      | _ => exact o4.elim
    · rw [if_neg hl] at o2
      exact o2.elim
  · intro us ws vs zs H2 s2 I2 r1 r2 ⟨l1, l2, q⟩
    have hq := q (s2.heap.objs.size + 1) s2.heap.objs.size (I2.hok.fresh (Nat.le_succ _)) (I2.hok.fresh (Nat.le_refl _)) (Nat.ne_of_lt (Nat.lt_succ_self _))
    have I3 := Inv.made (C := T cl) I2
    obtain ⟨its, mw, v1, v2, B⟩ := hb.to
    refine wpAny_call (L2.make_map (f := f) I2.kIn M.makes M.init (beq_iff_eq.mp M.fn) (codeAny_mono (F.run _ X.stack _ _ ⟨.ref (s2.heap.objs.size + 1) :: us, ks.zip ws⟩ _ _ _ _ (hr.make _ _ _) (I3.env0.make _ _ _) (B _ (.ref (s2.heap.objs.size + 1) :: us) ws I3.kIn (by rw [List.length_cons, ← r1.length, l1]) (r2.length.symm.trans l2)) (gSel_vals (a := .ref (s2.heap.objs.size + 1) :: vs) (b := .ref (s2.heap.objs.size + 1) :: us) (.cons rfl r1) v1 v2 r2 l) hq) fun z s' hz => ?_))
    cases z with
    | error e => exact passAt tk σ pins _ _ e s' I3 hz
    | ok fl =>
      cases fl with
      | ret u =>
        obtain ⟨v, H', I4, rv, ev, q3⟩ := I3.after hz
        subst ev
        exact ⟨rv, .ref (s2.heap.objs.size + 1), H', I4, rfl, q3⟩
      | next => exact False.elim hz
      | brk => exact False.elim hz
      | cont => exact False.elim hz
end
end MP
set_option Elab.async false
set_option linter.all false
set_option maxRecDepth 100000
set_option maxHeartbeats 4000000
/-! mirrors: tests, statements, loops, comprehensions -/
namespace MP
open PySem PySem.Spec L2
open PyProof.Rows hiding St

/-! ### tests -/
def truth (h : AH) : D → Option Bool
  | .non => some false
  | .bl b => some b
  | .int i => some (i != 0)
  | .str x => if x.length ≤ 100000 then some ((x.length : Int) != 0) else none
  | .tup xs => some (!xs.isEmpty)
  | .lst xs => some (!xs.isEmpty)
  | .fz xs => some (!xs.isEmpty)
  | .ref k => match h.g k with
    | some (.lst xs) => some (!xs.isEmpty)
    | some (.dct kvs) => some (!kvs.isEmpty)
    | _ => none
  | .cst _ => none
  | .obj _ _ _ => none
def tst (m : ME) : MT := fun s h => (m s h).bind fun d h1 => match truth h1 d with
  | some b => .ok b h1
  | none => .st
/-- a comparison's test: a truth -/
def tstB (m : ME) : MT := fun s h => (m s h).bind fun d h1 => match d with
  | .bl b => .ok b h1
  | _ => .st
def tAnd (a b : MT) : MT := fun s h => (a s h).bind fun x h1 => if x = true then b s h1 else .ok false h1
def tOr (a b : MT) : MT := fun s h => (a s h).bind fun x h1 => if x = true then .ok true h1 else b s h1
def tNot (a : MT) : MT := fun s h => (a s h).bind fun x h1 => .ok (!x) h1
/-- x and y, as a value -/
def eAnd (a b : ME) : ME := fun s h => (a s h).bind fun x h1 => match truth h1 x with
  | some k => if k = true then b s h1 else .ok x h1
  | none => .st
def eOr (a b : ME) : ME := fun s h => (a s h).bind fun x h1 => match truth h1 x with
  | some k => if k = true then .ok x h1 else b s h1
  | none => .st
def eNot (a : ME) : ME := fun s h => (a s h).bind fun x h1 => match truth h1 x with
  | some b => .ok (.bl (!b)) h1
  | none => .st
/-- a < b < c -/
def eChain (g g' : AH → D → D → Option D) (a b e : ME) : ME := fun s h => (a s h).bind fun x h1 => (b s h1).bind fun y h2 => match g h2 x y with
  | some (.bl k) => if k = true then (e s h2).bind fun z h3 => optR (g' h3 y z) h3 else .ok (.bl false) h2
  | _ => .st
theorem isE {α : Type} {xs : List D} {vs : List V} {w : Wd} {c : Cf} (r : RepL w c xs vs) : (!xs.isEmpty) = !vs.isEmpty := by
  have := r.len
  cases xs <;> cases vs <;> simp_all
theorem kvE {κ : Type} {w : Wd} {c : Cf} {fs : List (κ × D)} {vs : List (κ × V)} (r : RepKV w c fs vs) : (!fs.isEmpty) = !vs.isEmpty := by
  cases fs with
  | nil => obtain rfl : vs = [] := r; rfl
  | cons f fs => obtain ⟨x, xs, rfl, _⟩ := r; rfl
theorem truth_ok {w : Wd} {c : Cf} {h : AH} {H : Hp} (R : Rel w c h H) {d : D} {v : V} {b : Bool} (r : Rep w c d v) (q : truth h d = some b) : TruV w.K v H b := by
  cases d with
  | non => simp only [Rep] at r; subst r; simp only [truth, Option.some.injEq] at q; exact q.symm
  | bl k => simp only [Rep] at r; subst r; simp only [truth, Option.some.injEq] at q; exact q.symm
  | int i => simp only [Rep] at r; subst r; simp only [truth, Option.some.injEq] at q; exact q.symm
  | str x =>
    simp only [Rep] at r; subst r
    simp only [truth] at q
    split at q
    · rename_i hl
      simp only [Option.some.injEq] at q
      exact ⟨size5 hl, q.symm⟩
    · cases q
  | tup xs =>
    obtain ⟨a, vs, rfl, t, rl⟩ := seqT_ok R r rfl
    simp only [truth, Option.some.injEq] at q
    exact .inr (.inl ⟨vs, t, by rw [← q, isE (α := Unit) rl]⟩)
  | lst xs =>
    obtain ⟨a, vs, rfl, t, rl⟩ := seqL_ok R r rfl
    simp only [truth, Option.some.injEq] at q
    exact .inl ⟨vs, t, by rw [← q, isE (α := Unit) rl]⟩
  | fz xs =>
    obtain ⟨a, vs, rfl, t, rl⟩ := seqL_ok R r rfl
    simp only [truth, Option.some.injEq] at q
    exact .inl ⟨vs, t, by rw [← q, isE (α := Unit) rl]⟩
  | ref k =>
    simp only [truth] at q
    split at q
    · rename_i xs e
      obtain ⟨a, vs, rfl, t, rl⟩ := seqL_ok R r (xs := xs) (by simp [seqL, e])
      simp only [Option.some.injEq] at q
      exact .inl ⟨vs, t, by rw [← q, isE (α := Unit) rl]⟩
    · rename_i kvs e
      simp only [Rep] at r
      obtain ⟨rfl, hk⟩ := r
      obtain ⟨u, e1, vs, rfl, rf⟩ := R.at_ _ _ e
      simp only [Option.some.injEq] at q
      exact .inr (.inr ⟨vs, R.sub _ _ e1, by rw [← q, kvE rf]⟩)
    · cases q
  | cst i => simp [truth] at q
  | obj _ _ _ => simp [truth] at q
section
variable {X : Cx} {T : Nat → Addr} {W : WX} {a b e : Expr} {ma mb : ME} {ta tb : MT} {pos : Pos} {rest : List Expr}
theorem t_truth (ha : PE X a (tM (Wd.mk X.K T) W ma)) (he : ∀ whole, isTrue a X.env whole = (do let v ← whole; standAt a.pos; holding [v] (truthy v)) := by intro _; rfl) : PT X a (tT (Wd.mk X.K T) W (tst ma)) :=
  PTi (pt_truth ha he) fun σ H Q ⟨c, s, h, R, S, o⟩ => ⟨c, s, h, R, S, (Out.bind (A := Rep (Wd.mk X.K T)) o).mono (by
    rintro v H1 ⟨c1, h1, d, R1, E1, r1, o1⟩
    split at o1
    · rename_i b q
      exact ⟨b, truth_ok R1 r1 q, o1 c1 b H1 R1 (.refl R1.sub) rfl⟩
    · exact o1.elim)⟩
theorem t_cmp {op : CmpOp} {r : R2} {g : AH → D → D → Option D} (ho : OpR X (compareOp op) r) (hg : Op2 (Wd.mk X.K T) r g) (ha : PE X a (tM (Wd.mk X.K T) W ma)) (hb : PE X b (tM (Wd.mk X.K T) W mb)) (hm : behindInMarks op b = false) : PT X (.Compare a [op] [b] pos) (tT (Wd.mk X.K T) W (tstB (eBin g ma mb))) :=
  PTi (pt_cmpR ho ha hb hm) fun σ H Q z => by
    obtain ⟨c, s, h, R, S, o⟩ := z
    have o : Out (Wd.mk X.K T) c H (fun cls dd H' => W cls dd σ H') (fun _ a b => a = b) Q ((ma s h).bind fun x h1 => (mb s h1).bind fun y h2 => (optR (g h2 x y) h2).bind fun d h1 => match d with | .bl b => .ok b h1 | _ => .st) := by
      unfold tstB eBin at o
      cases q1 : ma s h with
      | ok x h1 =>
        rw [q1] at o
        simp only [Res.bind] at o ⊢
        cases q2 : mb s h1 with
        | ok y h2 => rw [q2] at o; exact o
        | ex e' h' => rw [q2] at o; exact o
        | st => rw [q2] at o; exact o
      | ex e' h' => rw [q1] at o; exact o
      | st => rw [q1] at o; exact o
    refine ⟨c, s, h, R, S, (Out.bind (A := Rep (Wd.mk X.K T)) o).mono ?_⟩
    rintro v H1 ⟨c1, h1, x, R1, E1, r1, o1⟩
    refine ⟨c1, s, h1, R1, S.ext E1, (Out.bind (A := Rep (Wd.mk X.K T)) o1).mono ?_⟩
    rintro u H2 ⟨c2, h2, y, R2, E2, r2, o2⟩
    cases q : g h2 x y with
    | none => rw [q] at o2; exact o2.elim
    | some d =>
      rw [q] at o2
      refine hg c2 h2 H2 x y d v u _ R2 (r1.ext E2) r2 q fun c3 v3 H3 R3 E3 r3 => ?_
      cases d with
      | bl k =>
        simp only [Rep] at r3
        exact ⟨k, r3, o2 c3 k H3 R3 E3 rfl⟩
      | _ => exact o2.elim
theorem w_and1 (ha : PT X a (tT (Wd.mk X.K T) W ta)) : PW X (.BoolOp .And [a] pos) (tT (Wd.mk X.K T) W ta) := pw_and1 ha
theorem w_or1 (ha : PT X a (tT (Wd.mk X.K T) W ta)) : PW X (.BoolOp .Or [a] pos) (tT (Wd.mk X.K T) W ta) := pw_or1 ha
theorem w_and (ha : PT X a (tT (Wd.mk X.K T) W ta)) (hb : PW X (.BoolOp .And (b :: rest) pos) (tT (Wd.mk X.K T) W tb)) : PW X (.BoolOp .And (a :: b :: rest) pos) (tT (Wd.mk X.K T) W (tAnd ta tb)) :=
  PWi (pw_and ha hb) fun σ H Q z => by
    obtain ⟨c, s, h, R, S, o⟩ := z
    refine ⟨c, s, h, R, S, (Out.bind (A := fun _ a b => a = b) o).mono ?_⟩
    rintro k H1 ⟨c1, h1, k', R1, E1, rfl, o1⟩
    cases k' with
    | true => exact ⟨c1, s, h1, R1, S.ext E1, o1⟩
    | false => exact o1 c1 false H1 R1 (.refl R1.sub) rfl
theorem w_or (ha : PT X a (tT (Wd.mk X.K T) W ta)) (hb : PW X (.BoolOp .Or (b :: rest) pos) (tT (Wd.mk X.K T) W tb)) : PW X (.BoolOp .Or (a :: b :: rest) pos) (tT (Wd.mk X.K T) W (tOr ta tb)) :=
  PWi (pw_or ha hb) fun σ H Q z => by
    obtain ⟨c, s, h, R, S, o⟩ := z
    refine ⟨c, s, h, R, S, (Out.bind (A := fun _ a b => a = b) o).mono ?_⟩
    rintro k H1 ⟨c1, h1, k', R1, E1, rfl, o1⟩
    cases k' with
    | true => exact o1 c1 true H1 R1 (.refl R1.sub) rfl
    | false => exact ⟨c1, s, h1, R1, S.ext E1, o1⟩
theorem t_pw {tm : MT} (h : PW X e (tT (Wd.mk X.K T) W tm)) : PT X e (tT (Wd.mk X.K T) W tm) := h.pt
theorem t_not (ha : PT X a (tT (Wd.mk X.K T) W ta)) : PT X (.UnaryOp .Not a pos) (tT (Wd.mk X.K T) W (tNot ta)) :=
  PTi (pt_not ha) fun σ H Q z => by
    obtain ⟨c, s, h, R, S, o⟩ := z
    refine ⟨c, s, h, R, S, (Out.bind (A := fun _ a b => a = b) o).mono ?_⟩
    rintro k H1 ⟨c1, h1, k', R1, E1, rfl, o1⟩
    exact o1 c1 (!k') H1 R1 (.refl R1.sub) rfl
theorem r_one {op} (ha : PE X a (tM (Wd.mk X.K T) W ma)) : PE X (.BoolOp op [a] pos) (tM (Wd.mk X.K T) W ma) := pe_one ha
theorem r_and (ha : PE X a (tM (Wd.mk X.K T) W ma)) (hb : PE X (.BoolOp .And (b :: rest) pos) (tM (Wd.mk X.K T) W mb)) : PE X (.BoolOp .And (a :: b :: rest) pos) (tM (Wd.mk X.K T) W (eAnd ma mb)) :=
  PEi (pe_andT ha hb) fun σ H Q z => by
    obtain ⟨c, s, h, R, S, o⟩ := z
    refine ⟨c, s, h, R, S, (Out.bind (A := Rep (Wd.mk X.K T)) o).mono ?_⟩
    rintro v H1 ⟨c1, h1, d, R1, E1, r1, o1⟩
    split at o1
    · rename_i k q
      refine ⟨k, truth_ok R1 r1 q, ?_⟩
      cases k with
      | true => exact ⟨c1, s, h1, R1, S.ext E1, o1⟩
      | false => exact o1 c1 v H1 R1 (.refl R1.sub) r1
    · exact o1.elim
theorem r_or (ha : PE X a (tM (Wd.mk X.K T) W ma)) (hb : PE X (.BoolOp .Or (b :: rest) pos) (tM (Wd.mk X.K T) W mb)) : PE X (.BoolOp .Or (a :: b :: rest) pos) (tM (Wd.mk X.K T) W (eOr ma mb)) :=
  PEi (pe_orT ha hb) fun σ H Q z => by
    obtain ⟨c, s, h, R, S, o⟩ := z
    refine ⟨c, s, h, R, S, (Out.bind (A := Rep (Wd.mk X.K T)) o).mono ?_⟩
    rintro v H1 ⟨c1, h1, d, R1, E1, r1, o1⟩
    split at o1
    · rename_i k q
      refine ⟨k, truth_ok R1 r1 q, ?_⟩
      cases k with
      | true => exact o1 c1 v H1 R1 (.refl R1.sub) r1
      | false => exact ⟨c1, s, h1, R1, S.ext E1, o1⟩
    · exact o1.elim
theorem r_not (ha : PE X a (tM (Wd.mk X.K T) W ma)) : PE X (.UnaryOp .Not a pos) (tM (Wd.mk X.K T) W (eNot ma)) :=
  PEi (pe_notT ha) fun σ H Q z => one z fun c2 s h2 H2 x v R2 S2 r1 o => by
    split at o
    · rename_i b q
      exact ⟨b, truth_ok R2 r1 q, o c2 _ H2 R2 (.refl R2.sub) (by simp [Rep])⟩
    · exact o.elim
theorem chain_aux {c3 : Expr} {mc : ME} {r r' : R2} {g g' : AH → D → D → Option D} (hg : Op2 (Wd.mk X.K T) r g) (hg' : Op2 (Wd.mk X.K T) r' g') {σ : L2.St} {H : Hp} {Q : VK} (z : tM (Wd.mk X.K T) W (eChain g g' ma mb mc) σ H Q) :
    tChain r r' (tM (Wd.mk X.K T) W ma) (tM (Wd.mk X.K T) W mb) (tM (Wd.mk X.K T) W mc) σ H Q :=
  two (f := fun s x y h2 => match g h2 x y with | some (.bl k) => if k = true then (mc s h2).bind fun z h3 => optR (g' h3 y z) h3 else .ok (.bl false) h2 | _ => .st) z fun c2 s h2 H2 x y v u R2 S2 r1 r2 o => by
    split at o
    · rename_i k q
      refine hg c2 h2 H2 x y _ v u _ R2 r1 r2 q fun c3 v3 H3 R3 E3 r3 => ?_
      simp only [Rep] at r3
      refine ⟨k, r3, ?_⟩
      cases k with
      | true =>
        rw [if_pos rfl] at o ⊢
        refine ⟨c3, s, h2, R3, S2.ext E3, (Out.bind (A := Rep (Wd.mk X.K T)) (Out.shift E3 o)).mono ?_⟩
        rintro v4 H4 ⟨c4, h4, d4, R4, E4, r4, o4⟩
        obtain ⟨d, e, G⟩ := optOut o4
        exact hg' c4 h4 H4 y d4 d u v4 Q R4 ((r2.ext E3).ext E4) r4 e G
      | false =>
        rw [if_neg Bool.false_ne_true] at o ⊢
        exact o c3 _ H3 R3 E3 (by simp [Rep])
    · exact o.elim
theorem r_chain {c3 : Expr} {mc : ME} {op op' : CmpOp} {r r' : R2} {g g' : AH → D → D → Option D} (ho : OpR X (compareOp op) r) (hg : Op2 (Wd.mk X.K T) r g) (ho' : OpR X (compareOp op') r') (hg' : Op2 (Wd.mk X.K T) r' g') (ha : PE X a (tM (Wd.mk X.K T) W ma)) (hb : PE X b (tM (Wd.mk X.K T) W mb)) (hc : PE X c3 (tM (Wd.mk X.K T) W mc))
    (hm : lastMarks [op, op'] [b, c3] = false := by with_unfolding_all rfl) : PE X (.Compare a [op, op'] [b, c3] pos) (tM (Wd.mk X.K T) W (eChain g g' ma mb mc)) :=
  PEi (pe_chain ho ho' ha hb hc hm) fun σ H Q z => chain_aux (c3 := c3) hg hg' z
theorem t_chain {c3 : Expr} {mc : ME} {op op' : CmpOp} {r r' : R2} {g g' : AH → D → D → Option D} (ho : OpR X (compareOp op) r) (hg : Op2 (Wd.mk X.K T) r g) (ho' : OpR X (compareOp op') r') (hg' : Op2 (Wd.mk X.K T) r' g') (ha : PE X a (tM (Wd.mk X.K T) W ma)) (hb : PE X b (tM (Wd.mk X.K T) W mb)) (hc : PE X c3 (tM (Wd.mk X.K T) W mc))
    (hm : lastMarks [op, op'] [b, c3] = false := by with_unfolding_all rfl) : PT X (.Compare a [op, op'] [b, c3] pos) (tT (Wd.mk X.K T) W (tstB (eChain g g' ma mb mc))) :=
  PTi (pt_chain ho ho' ha hb hc hm) fun σ H Q z => by
    refine chain_aux (c3 := c3) hg hg' (Q := fun x H' => ∃ k, x = .bl k ∧ Q k H') ?_
    obtain ⟨c, s, h, R, S, o⟩ := z
    refine ⟨c, s, h, R, S, (Out.bind (A := Rep (Wd.mk X.K T)) o).mono ?_⟩
    rintro v H1 ⟨c1, h1, d, R1, E1, r1, o1⟩
    cases d with
    | bl k =>
      simp only [Rep] at r1
      exact ⟨k, r1, o1 c1 k H1 R1 (.refl R1.sub) rfl⟩
    | _ => exact o1.elim
end

/-! ### statements -/
def Res.bindS {α : Type} (r : Res α) (s : Sl) (f : α → AH → RS) : RS :=
  match r with
  | .ok a h => f a h
  | .ex e h => .ex e s h
  | .st => .st
abbrev MG := D → Sl → AH → Option (Sl × AH)
abbrev MGs := List D → Sl → AH → Option (Sl × AH)
def sNil : MS := fun s h => .nx s h
def sSeq (a b : MS) : MS := fun s h => match a s h with
  | .nx s' h' => b s' h'
  | r => r
def sExp (e : ME) : MS := fun s h => (e s h).bindS s fun _ h1 => .nx s h1
def sRet (e : ME) : MS := fun s h => (e s h).bindS s fun d h1 => .rt d h1
def sRetN : MS := fun s h => .rt .non h
def sBrk : MS := fun s h => .bk s h
def sCnt : MS := fun s h => .ct s h
def sIf (t : MT) (a b : MS) : MS := fun s h => (t s h).bindS s fun k h1 => if k = true then a s h1 else b s h1
def sDead : MS := fun _ _ => .st
def nxO : Option (Sl × AH) → RS
  | some (s, h) => .nx s h
  | none => .st
def sAsg (e : ME) (g : MG) : MS := fun s h => (e s h).bindS s fun d h1 => nxO (g d s h1)
def gNm (i : Nat) : MG := fun d s h => some (s.set i (some d), h)
def sSet (i : Nat) (e : ME) : MS := fun s h => (e s h).bindS s fun d h1 => .nx (s.set i (some d)) h1
def sPar (i j : Nat) (a b : ME) : MS := fun s h => (a s h).bindS s fun x h1 => (b s h1).bindS s fun y h2 => .nx ((s.set i (some x)).set j (some y)) h2
def sPar3 (i j l : Nat) (a b c : ME) : MS := fun s h => (a s h).bindS s fun x h1 => (b s h1).bindS s fun y h2 => (c s h2).bindS s fun z h3 => .nx (((s.set i (some x)).set j (some y)).set l (some z)) h3
def putFD (f : Str) (v : D) : List (Str × D) → List (Str × D)
  | [] => [(f, v)]
  | (g, x) :: r => if g = f then (g, v) :: r else (g, x) :: putFD f v r
/-- o.f = .. -/
def setFld (cs : List Nat) (f : Str) (x y : D) (h : AH) : Option AH := match insR h x with
  | some (k, c, fs) => if cs.contains c = true ∧ fs.length < 1000 then some (h.put k (.ins c (putFD f y fs))) else none
  | none => none
def sFld (cs : List Nat) (f : Str) (o e : ME) : MS := fun s h => (e s h).bindS s fun y h1 => (o s h1).bindS s fun x h2 => match setFld cs f x y h2 with
  | some h3 => .nx s h3
  | none => .st
def gFld (cs : List Nat) (f : Str) (o : ME) : MG := fun y s h => match o s h with
  | .ok x h2 => match setFld cs f x y h2 with
    | some h3 => some (s, h3)
    | none => none
  | _ => none
/-- o.f op= e -/
def sFldAug (cs : List Nat) (f : Str) (g : AH → D → D → Option D) (o e : ME) : MS := fun s h => (o s h).bindS s fun x h1 => match insR h1 x with
  | some (_, c, fs) => match fs.lookup f with
    | some d => if cs.contains c = true then (e s h1).bindS s fun y h2 => match g h2 d y with
      | some z => match insR h2 x with
        | some (_, c', _) => if c' = c then match setFld cs f x z h2 with
          | some h3 => .nx s h3
          | none => .st
          else .st
        | none => .st
      | none => .st
      else .st
    | none => .st
  | none => .st
def gsNil : MGs := fun ds s h => match ds with
  | [] => some (s, h)
  | _ => none
def gsCons (g : MG) (gs : MGs) : MGs := fun ds s h => match ds with
  | d :: r => match g d s h with
    | some (s1, h1) => gs r s1 h1
    | none => none
  | [] => none
/-- a, b, .. = a tuple -/
def gTp (n : Nat) (gs : MGs) : MG := fun d s h => match seqT d with
  | some xs => if xs.length = n then gs xs s h else none
  | none => none
/-- a, b, .. = a list -/
def gLs (n : Nat) (gs : MGs) : MG := fun d s h => match seqL h d with
  | some xs => if xs.length = n then gs xs s h else none
  | none => none
section
variable {w : Wd} {c c1 : Cf} {H H1 : Hp} {W : WX} {α β : Type} {A : Cf → α → β → Prop}
theorem OutS.bind {D : Ends} {s : Sl} {σ : L2.St} (S : RelS w c s σ) {f : α → AH → RS} : ∀ {r : Res α}, OutS w c H W D (r.bindS s f) →
    Out w c H (fun cls dd H' => W cls dd σ H') A (fun b H1 => ∃ c1 h1 a, Rel w c1 h1 H1 ∧ Ext c H c1 H1 ∧ A c1 a b ∧ OutS w c1 H1 W D (f a h1)) r
  | .ok a h', o => fun c' b H' R e q => ⟨c', h', a, R, e, q, OutS.shift e o⟩
  | .ex _ _, o => fun c' cls dd H' R e x => o c' cls dd σ H' R e (S.ext e) x
  | .st, o => o
end
/-- what is to hold behind a target's store -/
def OutG (w : Wd) (c : Cf) (H : Hp) (Q : L2.St → Hp → Prop) : Option (Sl × AH) → Prop
  | some (s', h') => ∀ c' σ' H', Rel w c' h' H' → Ext c H c' H' → RelS w c' s' σ' → Q σ' H'
  | none => False
theorem OutG.shift {w : Wd} {c c1 : Cf} {H H1 : Hp} (x : Ext c H c1 H1) {Q : L2.St → Hp → Prop} : ∀ {r : Option (Sl × AH)}, OutG w c H Q r → OutG w c1 H1 Q r
  | some _, o => fun c' b H' R e a => o c' b H' R (x.trans e) a
  | none, o => o
/-- a target's reading -/
def tG (w : Wd) (g : MG) : TG := fun v σ H Q => ∃ c s h d, Rel w c h H ∧ RelS w c s σ ∧ Rep w c d v ∧ OutG w c H Q (g d s h)
def tGs (w : Wd) (g : MGs) : TGs := fun vs σ H Q => ∃ c s h ds, Rel w c h H ∧ RelS w c s σ ∧ RepL w c ds vs ∧ OutG w c H Q (g ds s h)
theorem OutS.ofG {w : Wd} {c : Cf} {H : Hp} {W : WX} {D : Ends} : ∀ {r : Option (Sl × AH)}, OutS w c H W D (nxO r) → OutG w c H D.nx r
  | some _, o => o
  | none, o => o
theorem putF_rep {w : Wd} {c : Cf} {f : Str} {d : D} {v : V} (r : Rep w c d v) : ∀ {fs : List (Str × D)} {vs : List (Str × V)}, RepKV w c fs vs → RepKV w c (putFD f d fs) (putF f v vs)
  | [], vs, q => by
    obtain rfl : vs = [] := q
    exact ⟨v, [], rfl, r, rfl⟩
  | (g, x) :: fs, vs, q => by
    obtain ⟨y, ys, rfl, r1, r2⟩ := q
    show RepKV w c (if g = f then (g, d) :: fs else (g, x) :: putFD f d fs) (if g = f then (g, v) :: ys else (g, y) :: putF f v ys)
    by_cases e : g = f
    · rw [if_pos e, if_pos e]
      exact ⟨v, ys, rfl, r, r2⟩
    · rw [if_neg e, if_neg e]
      exact ⟨y, _, rfl, r1, putF_rep r r2⟩
theorem RepKV.len {κ : Type} {w : Wd} {c : Cf} : ∀ {fs : List (κ × D)} {vs : List (κ × V)}, RepKV w c fs vs → fs.length = vs.length
  | [], vs, r => by
    obtain rfl : vs = [] := r
    rfl
  | f :: fs, vs, r => by
    obtain ⟨y, ys, rfl, _, r⟩ := r
    simp [RepKV.len r]
/-- a field is stored -/
theorem setFld_ok {w : Wd} {c : Cf} {h h3 : AH} {H : Hp} (R : Rel w c h H) {cs : List Nat} {f : Str} {x y : D} {v u : V} (rx : Rep w c x v) (ry : Rep w c y u) (e : setFld cs f x y h = some h3) :
    ∃ k cl fs a dx vs, insR h x = some (k, cl, fs) ∧ (cs.contains cl = true ∧ w.T cl ≠ 0) ∧ v = .ref a ∧ H a = some (.ins (w.T cl) dx vs) ∧ vs.length < 1000 ∧ ∃ c', Rel w c' h3 (upd H a (.ins (w.T cl) dx (putF f u vs))) ∧ Ext c H c' (upd H a (.ins (w.T cl) dx (putF f u vs))) := by
  unfold setFld at e
  split at e
  · rename_i k cl fs ei
    split at e
    · rename_i hl
      cases e
      obtain ⟨rfl, q, rfl, dx, vs, e1, e2, rf, tn⟩ := insAtR R rx ei
      obtain ⟨R', E'⟩ := R.put q e1 (o' := .ins cl (putFD f y fs)) (u' := .ins (w.T cl) dx (putF f u vs)) ⟨dx, _, rfl, putF_rep ry rf, tn⟩
      exact ⟨k, cl, fs, _, dx, vs, ei, ⟨hl.1, tn⟩, rfl, e2, by rw [← rf.len]; exact hl.2, _, R', E'⟩
    · cases e
  · cases e
/-- which classes let which fields be read and stored -/
def FldOk (K : PySem.W.Frag) (T : Nat → Addr) (cs : List Nat) (f : Str) : Prop := ∀ k, cs.contains k = true ∧ T k ≠ 0 → Cls K (T k) ∧ NoAttr K (T k) f
def eFld (cs : List Nat) (f : Str) (o : ME) : ME := fun s h => (o s h).bind fun x h1 => match insOf h1 x with
  | some (_, c, fs) => if cs.contains c = true then optR (fs.lookup f) h1 else .st
  | none => .st
section
variable {X : Cx} {T : Nat → Addr} {W : WX} {a b e o : Expr} {ma mb mo : ME} {ta tb : MT} {sa sb : MS} {pos : Pos} {st : Stmt} {sts : List Stmt}
theorem s_nil : PSs X [] (tS (Wd.mk X.K T) W sNil) := PSsi pss_nil fun D σ H ⟨c, s, h, R, S, o⟩ => o c σ H R (.refl R.sub) S
theorem s_one (h : PS X st (tS (Wd.mk X.K T) W sa)) : PSs X [st] (tS (Wd.mk X.K T) W sa) := pss_one h
theorem s_cons (h : PS X st (tS (Wd.mk X.K T) W sa)) (hr : PSs X sts (tS (Wd.mk X.K T) W sb)) : PSs X (st :: sts) (tS (Wd.mk X.K T) W (sSeq sa sb)) :=
  PSsi (pss_cons h hr) fun D σ H ⟨c, s, h, R, S, o⟩ => by
    refine ⟨c, s, h, R, S, ?_⟩
    unfold sSeq at o
    cases q : sa s h with
    | nx s' h' =>
      rw [q] at o
      exact fun c' σ' H' R' E' S' => ⟨c', s', h', R', S', OutS.shift E' o⟩
    | rt d h' => rw [q] at o; exact o
    | bk s' h' => rw [q] at o; exact o
    | ct s' h' => rw [q] at o; exact o
    | ex e s' h' => rw [q] at o; exact o
    | st => rw [q] at o; exact o
/-- what follows a way out is not looked at -/
theorem s_pass : PS X (.Pass pos) (tS (Wd.mk X.K T) W sNil) := PSi ps_pass fun D σ H ⟨c, s, h, R, S, o⟩ => o c σ H R (.refl R.sub) S
theorem s_brk : PS X (.Break pos) (tS (Wd.mk X.K T) W sBrk) := PSi ps_break fun D σ H ⟨c, s, h, R, S, o⟩ => o c σ H R (.refl R.sub) S
theorem s_cnt : PS X (.Continue pos) (tS (Wd.mk X.K T) W sCnt) := PSi ps_continue fun D σ H ⟨c, s, h, R, S, o⟩ => o c σ H R (.refl R.sub) S
theorem s_doc {x j pos'} : PS X (.Expr (.Constant (.str x) j pos) pos') (tS (Wd.mk X.K T) W sNil) := PSi ps_doc fun D σ H ⟨c, s, h, R, S, o⟩ => o c σ H R (.refl R.sub) S
theorem s_dead : PS X st (tS (Wd.mk X.K T) W sDead) := PSi ps_never fun D σ H ⟨c, s, h, R, S, o⟩ => o
theorem s_exp (he : PE X e (tM (Wd.mk X.K T) W ma)) (hs : swapsWith e none pos.line X.env = pure false := by rfl) : PS X (.Expr e pos) (tS (Wd.mk X.K T) W (sExp ma)) :=
  PSi (ps_expr he hs) fun D σ H ⟨c, s, h, R, S, o⟩ => ⟨c, s, h, R, S, (OutS.bind (A := Rep (Wd.mk X.K T)) S o).mono (by
    rintro v H1 ⟨c1, h1, d, R1, E1, r1, o1⟩
    exact o1 c1 σ H1 R1 (.refl R1.sub) (S.ext E1))⟩
theorem s_ret (he : PE X e (tM (Wd.mk X.K T) W ma)) : PS X (.Return (some e) pos) (tS (Wd.mk X.K T) W (sRet ma)) :=
  PSi (ps_ret he) fun D σ H ⟨c, s, h, R, S, o⟩ => ⟨c, s, h, R, S, (OutS.bind (A := Rep (Wd.mk X.K T)) S o).mono (by
    rintro v H1 ⟨c1, h1, d, R1, E1, r1, o1⟩
    exact o1 c1 v H1 R1 (.refl R1.sub) r1)⟩
theorem s_retN : PS X (.Return none pos) (tS (Wd.mk X.K T) W sRetN) := PSi ps_retN fun D σ H ⟨c, s, h, R, S, o⟩ => o c .non H R (.refl R.sub) (by simp [Rep])
theorem s_if {a b : List Stmt} (ht : PT X e (tT (Wd.mk X.K T) W ta)) (ha : PSs X a (tS (Wd.mk X.K T) W sa)) (hb : PSs X b (tS (Wd.mk X.K T) W sb)) : PS X (.If e a b pos) (tS (Wd.mk X.K T) W (sIf ta sa sb)) :=
  PSi (ps_if ht ha hb) fun D σ H ⟨c, s, h, R, S, o⟩ => ⟨c, s, h, R, S, (OutS.bind (A := fun _ a b => a = b) S o).mono (by
    rintro k H1 ⟨c1, h1, k', R1, E1, rfl, o1⟩
    cases k' with
    | true => exact ⟨c1, s, h1, R1, S.ext E1, o1⟩
    | false => exact ⟨c1, s, h1, R1, S.ext E1, o1⟩)⟩
theorem s_set {i : Nat} {x : Str} {pos' : Pos} (hN : X.N.Nodup) (he : PE X e (tM (Wd.mk X.K T) W ma)) (hi : X.N[i]? = some x := by rfl) (hx : Loc X.env.scope x := by first | exact Or.inl rfl | exact Or.inr rfl) (hs : swapsWith e (some (.Name x pos')) pos.line X.env = pure false := by rfl)
    (hf : X.fn x = true ∨ X.env.scope.names.lookup x = some .local := by first | exact .inl rfl | exact .inr rfl | assumption) : PS X (.Assign [.Name x pos'] e pos) (tS (Wd.mk X.K T) W (sSet i ma)) :=
  PSi (ps_set hN hi hx he hs hf) fun D σ H ⟨c, s, h, R, S, o⟩ => ⟨c, s, h, R, S, (OutS.bind (A := Rep (Wd.mk X.K T)) S o).mono (by
    rintro v H1 ⟨c1, h1, d, R1, E1, r1, o1⟩
    exact o1 c1 _ H1 R1 (.refl R1.sub) ((S.ext E1).set r1))⟩
theorem s_asg {tg : Expr} {g : MG} (he : PE X e (tM (Wd.mk X.K T) W ma)) (hg : PG X tg (tG (Wd.mk X.K T) g)) (hs : swapsWithSole [tg] e pos.line X.env = pure false := by rfl) (hw : swappedStores [tg] e X.env = pure none := by rfl)
    (h1 : (assignEach [tg] X.env).map (·.2) = [assign tg X.env] := by rfl) : PS X (.Assign [tg] e pos) (tS (Wd.mk X.K T) W (sAsg ma g)) :=
  PSi (ps_asg he hg hs hw h1) fun D σ H ⟨c, s, h, R, S, o⟩ => ⟨c, s, h, R, S, (OutS.bind (A := Rep (Wd.mk X.K T)) S o).mono (by
    rintro v H1 ⟨c1, h1, d, R1, E1, r1, o1⟩
    exact ⟨c1, s, h1, d, R1, S.ext E1, r1, OutS.ofG o1⟩)⟩
def sAsg2 (e : ME) (g1 g2 : MG) : MS := fun s h => (e s h).bindS s fun d h1 => nxO (match g1 d s h1 with | some (s1, h2) => g2 d s1 h2 | none => none)
def sAsg3 (e : ME) (g1 g2 g3 : MG) : MS := fun s h => (e s h).bindS s fun d h1 => nxO (match g1 d s h1 with | some (s1, h2) => (match g2 d s1 h2 with | some (s2, h3) => g3 d s2 h3 | none => none) | none => none)
theorem s_asg2 {t1 t2 : Expr} {g1 g2 : MG} (he : PE X e (tM (Wd.mk X.K T) W ma)) (h1 : PG X t1 (tG (Wd.mk X.K T) g1)) (h2 : PG X t2 (tG (Wd.mk X.K T) g2)) (hx : (assignEach [t1, t2] X.env).map (·.2) = [assign t1 X.env, assign t2 X.env] := by rfl) (hw : swappedStores [t1, t2] e X.env = pure none := by rfl) :
    PS X (.Assign [t1, t2] e pos) (tS (Wd.mk X.K T) W (sAsg2 ma g1 g2)) :=
  PSi (ps_asg2 he h1 h2 hx hw) fun D σ H ⟨c, s, h, R, S, o⟩ => ⟨c, s, h, R, S, (OutS.bind (A := Rep (Wd.mk X.K T)) S o).mono (by
    rintro v H1 ⟨c1, h1, d, R1, E1, r1, o1⟩
    refine ⟨c1, s, h1, d, R1, S.ext E1, r1, ?_⟩
    have o2 := OutS.ofG o1
    cases q : g1 d s h1 with
    | none => rw [q] at o2; exact o2.elim
    | some p =>
      rw [q] at o2
      exact fun c' σ' H' R' E' S' => ⟨c', p.1, p.2, d, R', S', r1.ext E', OutG.shift E' o2⟩)⟩
theorem s_asg3 {t1 t2 t3 : Expr} {g1 g2 g3 : MG} (he : PE X e (tM (Wd.mk X.K T) W ma)) (h1 : PG X t1 (tG (Wd.mk X.K T) g1)) (h2 : PG X t2 (tG (Wd.mk X.K T) g2)) (h3 : PG X t3 (tG (Wd.mk X.K T) g3))
    (hx : (assignEach [t1, t2, t3] X.env).map (·.2) = [assign t1 X.env, assign t2 X.env, assign t3 X.env] := by rfl) (hw : swappedStores [t1, t2, t3] e X.env = pure none := by rfl) :
    PS X (.Assign [t1, t2, t3] e pos) (tS (Wd.mk X.K T) W (sAsg3 ma g1 g2 g3)) :=
  PSi (ps_asg3 he h1 h2 h3 hx hw) fun D σ H ⟨c, s, h, R, S, o⟩ => ⟨c, s, h, R, S, (OutS.bind (A := Rep (Wd.mk X.K T)) S o).mono (by
    rintro v H1 ⟨c1, h1, d, R1, E1, r1, o1⟩
    refine ⟨c1, s, h1, d, R1, S.ext E1, r1, ?_⟩
    have o2 := OutS.ofG o1
    cases q : g1 d s h1 with
    | none => rw [q] at o2; exact o2.elim
    | some p =>
      rw [q] at o2
      refine fun c' σ' H' R' E' S' => ⟨c', p.1, p.2, d, R', S', r1.ext E', ?_⟩
      dsimp only at o2
      cases q2 : g2 d p.1 p.2 with
      | none => rw [q2] at o2; exact o2.elim
      | some p2 =>
        rw [q2] at o2
        exact fun c3 σ3 H3 R3 E3 S3 => ⟨c3, p2.1, p2.2, d, R3, S3, (r1.ext E').ext E3, OutG.shift (E'.trans E3) o2⟩)⟩
theorem g_nm {i : Nat} {x : Str} (hN : X.N.Nodup) (hi : X.N[i]? = some x := by rfl) (hx : Loc X.env.scope x := by first | exact Or.inl rfl | exact Or.inr rfl) (hf : X.fn x = true ∨ X.env.scope.names.lookup x = some .local := by first | exact .inl rfl | exact .inr rfl | assumption) :
    PG X (.Name x pos) (tG (Wd.mk X.K T) (gNm i)) :=
  ⟨fun pins s σ H v u Q I r z => (pg_name hN hi hx hf).run pins s σ H v u Q I r (by
    obtain ⟨c, s, h, d, R, S, r1, o⟩ := z
    exact o c _ H R (.refl R.sub) (S.set r1))⟩
theorem gs_nil : PGs X [] (tGs (Wd.mk X.K T) gsNil) :=
  ⟨fun pins s σ H v u Q I r z => pgs_nil.run pins s σ H v u Q I r (by
    obtain ⟨c, s, h, ds, R, S, r1, o⟩ := z
    cases ds with
    | nil => exact ⟨by simpa [RepL] using r1, o c σ H R (.refl R.sub) S⟩
    | cons d ds => exact o.elim)⟩
theorem gs_cons {t : Expr} {ts : List Expr} {g : MG} {gs : MGs} (h1 : PG X t (tG (Wd.mk X.K T) g)) (h2 : PGs X ts (tGs (Wd.mk X.K T) gs)) (he : (assignEach (t :: ts) X.env).map (·.2) = assign t X.env :: (assignEach ts X.env).map (·.2) := by rfl) : PGs X (t :: ts) (tGs (Wd.mk X.K T) (gsCons g gs)) :=
  ⟨fun pins s σ H v u Q I r z => (pgs_cons h1 h2 he).run pins s σ H v u Q I r (by
    obtain ⟨c, s, h, ds, R, S, r1, o⟩ := z
    cases ds with
    | nil => exact o.elim
    | cons d ds =>
      simp only [RepL] at r1
      obtain ⟨y, ys, rfl, ra, rb⟩ := r1
      refine ⟨y, ys, rfl, c, s, h, d, R, S, ra, ?_⟩
      simp only [gsCons] at o
      cases q : g d s h with
      | none => rw [q] at o; exact o.elim
      | some p =>
        rw [q] at o
        exact fun c' σ' H' R' E' S' => ⟨c', p.1, p.2, ds, R', S', rb.ext E', OutG.shift E' o⟩)⟩
theorem g_tp {ts : List Expr} {k n : Nat} {gs : MGs} (hc : X.calm = true) (h : PGs X ts (tGs (Wd.mk X.K T) gs)) (hn : (assignEach ts X.env).length = n := by rfl) (hst : (assignEach ts X.env).findIdx? (·.1) = none := by rfl) : PG X (.Tuple ts k pos) (tG (Wd.mk X.K T) (gTp n gs)) :=
  ⟨fun pins s σ H v u Q I r z => (pg_tup hc h hn hst).run pins s σ H v u Q I r (by
    obtain ⟨c, s, h, d, R, S, r1, o⟩ := z
    simp only [gTp] at o
    split at o
    · rename_i xs e
      split at o
      · rename_i hl
        obtain ⟨a, vs, rfl, t, rl⟩ := seqT_ok R r1 e
        exact ⟨a, vs, rfl, t, by rw [← rl.len]; exact hl, c, s, h, xs, R, S, rl, o⟩
      · exact o.elim
    · exact o.elim)⟩
theorem g_ls {ts : List Expr} {k n : Nat} {gs : MGs} (hc : X.calm = true) (h : PGs X ts (tGs (Wd.mk X.K T) gs)) (hn : (assignEach ts X.env).length = n := by rfl) (hst : (assignEach ts X.env).findIdx? (·.1) = none := by rfl) : PG X (.Tuple ts k pos) (tG (Wd.mk X.K T) (gLs n gs)) :=
  ⟨fun pins s σ H v u Q I r z => (pg_lst hc h hn hst).run pins s σ H v u Q I r (by
    obtain ⟨c, s, h, d, R, S, r1, o⟩ := z
    simp only [gLs] at o
    split at o
    · rename_i xs e
      split at o
      · rename_i hl
        obtain ⟨a, vs, rfl, t, rl⟩ := seqL_ok R r1 e
        exact ⟨a, vs, rfl, t, by rw [← rl.len]; exact hl, c, s, h, xs, R, S, rl, o⟩
      · exact o.elim
    · exact o.elim)⟩
theorem s_par {i j : Nat} {x y : Str} {px py pt : Pos} {kt k2 pt2} (hc : X.calm = true) (hN : X.N.Nodup) (ha : PE X a (tM (Wd.mk X.K T) W ma)) (hb : PE X b (tM (Wd.mk X.K T) W mb)) (hi : X.N[i]? = some x := by rfl) (hj : X.N[j]? = some y := by rfl) (hij : i ≠ j := by decide)
    (hx : X.env.scope.names.lookup x = some .local := by rfl) (hy : X.env.scope.names.lookup y = some .local := by rfl)
    (hw : swappedStores [.Tuple [.Name x px, .Name y py] kt pt] (.Tuple [a, b] k2 pt2) X.env = pure (some [x, y]) := by rfl)
    (hs : swapsWithSole [.Tuple [.Name x px, .Name y py] kt pt] (.Tuple [a, b] k2 pt2) pos.line X.env = pure false := by rfl)
    (h1 : starEach [a, b] X.env = (false, eval a X.env) :: starEach [b] X.env := by rfl) (h2 : starEach [b] X.env = (false, eval b X.env) :: starEach [] X.env := by rfl) :
    PS X (.Assign [.Tuple [.Name x px, .Name y py] kt pt] (.Tuple [a, b] k2 pt2) pos) (tS (Wd.mk X.K T) W (sPar i j ma mb)) :=
  PSi (ps_par hc hN hi hj hij hx hy (pa_cons ha (pa_cons hb pa_nil h2) h1) hw hs) fun D σ H ⟨c, s, h, R, S, o⟩ => ⟨c, s, h, R, S, (OutS.bind (A := Rep (Wd.mk X.K T)) S o).mono (by
    rintro v H1 ⟨c1, h1, d, R1, E1, r1, o1⟩
    refine ⟨c1, s, h1, R1, S.ext E1, (OutS.bind (A := Rep (Wd.mk X.K T)) (S.ext E1) o1).mono ?_⟩
    rintro v2 H2 ⟨c2, h2, d2, R2, E2, r2, o2⟩
    exact ⟨v, v2, rfl, o2 c2 _ H2 R2 (.refl R2.sub) ((((S.ext E1).ext E2).set (r1.ext E2)).set r2)⟩)⟩
/-- fields -/
theorem r_fld {f : Str} {cs : List Nat} (ho : FldOk X.K T cs f) (he : PE X o (tM (Wd.mk X.K T) W mo)) (hb : attributeBase o f X.env (eval o X.env) = eval o X.env := by rfl) : PE X (.Attribute o f pos) (tM (Wd.mk X.K T) W (eFld cs f mo)) :=
  PEi (pe_fld he hb) fun σ H Q z => one (f := fun _ x h1 => match insOf h1 x with
    | some (_, c, fs) => if cs.contains c = true then optR (fs.lookup f) h1 else .st
    | none => .st) z fun c2 s h2 H2 x v R2 S2 r1 o => by
    split at o
    · rename_i k cl fs ei
      split at o
      · rename_i hm
        obtain ⟨aa, dx, vs, rfl, e1, e2, rf, tn⟩ := insAt R2 r1 ei
        obtain ⟨d, e, G⟩ := optOut o
        rcases rf.lookup (f := f) with ⟨z, _⟩ | ⟨d', v', z, z2, rr⟩
        · rw [z] at e; cases e
        · rw [z] at e; cases e
          exact ⟨_, T cl, dx, vs, v', rfl, e2, (ho cl ⟨hm, tn⟩).1, (ho cl ⟨hm, tn⟩).2, z2, G.same R2 rr⟩
      · exact o.elim
    · exact o.elim
theorem s_fld {f : Str} {cs : List Nat} {pos' : Pos} (hf : FldOk X.K T cs f) (ho : PE X o (tM (Wd.mk X.K T) W mo)) (he : PE X e (tM (Wd.mk X.K T) W ma)) (hs : swapsWith e (some (.Attribute o f pos')) pos.line X.env = pure false := by rfl) :
    PS X (.Assign [.Attribute o f pos'] e pos) (tS (Wd.mk X.K T) W (sFld cs f mo ma)) :=
  PSi (ps_fld ho he hs) fun D σ H ⟨c, s, h, R, S, o⟩ => ⟨c, s, h, R, S, (OutS.bind (A := Rep (Wd.mk X.K T)) S o).mono (by
    rintro v H1 ⟨c1, h1, d, R1, E1, r1, o1⟩
    refine ⟨c1, s, h1, R1, S.ext E1, (OutS.bind (A := Rep (Wd.mk X.K T)) (S.ext E1) o1).mono ?_⟩
    rintro v2 H2 ⟨c2, h2, d2, R2, E2, r2, o2⟩
    split at o2
    · rename_i h3 e3
      obtain ⟨k, cl, fs, a, dx, vs, ei, hc, rfl, ea, hl, c3, R3, E3⟩ := setFld_ok R2 r2 (r1.ext E2) e3
      exact ⟨a, T cl, dx, vs, rfl, ea, (hf cl hc).1, (hf cl hc).2, hl, o2 c3 σ _ R3 E3 (((S.ext E1).ext E2).ext E3)⟩
    · exact o2.elim)⟩
theorem g_fld {f : Str} {cs : List Nat} (hf : FldOk X.K T cs f) (ho : PE X o (tM (Wd.mk X.K T) (fun _ _ _ _ => False) mo))
    (ha : ∀ v, assign (.Attribute o f pos) X.env v = (do
      let ov ← holding [v] (eval o X.env)
      standAt pos.atName
      holding [v, ov] (setAttr ov f v)
      release [v, ov] []) := by intro _; rfl) : PG X (.Attribute o f pos) (tG (Wd.mk X.K T) (gFld cs f mo)) := by
  refine ⟨fun pins s σ H v u Q I r z => ?_⟩
  obtain ⟨c, sl, h, d, R, S, r1, o1⟩ := z
  rw [ha]
  have w1 := ho.run pins s σ H (fun x H1 => ∃ c1 h1 y, Rel (Wd.mk X.K T) c1 h1 H1 ∧ Ext c H c1 H1 ∧ Rep (Wd.mk X.K T) c1 y x ∧ OutG (Wd.mk X.K T) c1 H1 Q (match setFld cs f y d h1 with | some h3 => some (sl, h3) | none => none)) I ⟨c, sl, h, R, S, by
    simp only [gFld] at o1
    cases q : mo sl h with
    | ok y h1 => rw [q] at o1; exact fun c' b H' R' E' r' => ⟨c', h1, y, R', E', r', OutG.shift E' o1⟩
    | ex e h' => rw [q] at o1; exact o1.elim
    | st => rw [q] at o1; exact o1.elim⟩
  refine wpAny_bind (wpAny_holding (thn w1 fun ov s1 ⟨x, H1, I1, rx, c1, h1, y, R1, E1, ry, o2⟩ => ?_))
  split at o2
  · rename_i h3 e3
    obtain ⟨k, cl, fs, a, dx, vs, ei, hc, rfl, ea, hl, c3, R3, E3⟩ := setFld_ok R1 ry (r1.ext E1) e3
    obtain rfl : ov = Value.ref a := rx
    refine wpAny_bind (wpAny_standAt (wpAny_bind (wpAny_holding (setattr_ok I1 ea (hf cl hc).1 (hf cl hc).2 hl r fun s3 I3 => ?_))))
    exact wpAny_release ⟨σ, _, I3, o2 c3 σ _ R3 E3 ((S.ext E1).ext E3)⟩
  · exact o2.elim
theorem s_fldAug {f : Str} {cs : List Nat} {op : Operator} {tpos : Pos} {rd : V → V → Hp → VK → Prop} {g : AH → D → D → Option D} (hf : FldOk X.K T cs f) (hop : InOp X op rd) (hg : Op2 (Wd.mk X.K T) rd g) (ho : PE X o (tM (Wd.mk X.K T) W mo)) (he : PE X e (tM (Wd.mk X.K T) W ma)) :
    PS X (.AugAssign (.Attribute o f tpos) op e pos) (tS (Wd.mk X.K T) W (sFldAug cs f g mo ma)) :=
  PSi (ps_fldaug ho he hop) fun D σ H ⟨c, s, h, R, S, o⟩ => ⟨c, s, h, R, S, (OutS.bind (A := Rep (Wd.mk X.K T)) S o).mono (by
    rintro v H1 ⟨c1, h1, d, R1, E1, r1, o1⟩
    split at o1
    · rename_i k cl fs ei
      split at o1
      · rename_i dd el
        split at o1
        · rename_i hc
          obtain ⟨rfl, q, rfl, dx, vs, e1, e2, rf, tn⟩ := insAtR R1 r1 ei
          rcases rf.lookup (f := f) with ⟨z, _⟩ | ⟨d', v', z, z2, rr⟩
          · rw [z] at el; cases el
          · rw [z] at el; cases el
            refine ⟨_, T cl, dx, vs, v', rfl, e2, (hf cl ⟨hc, tn⟩).1, (hf cl ⟨hc, tn⟩).2, z2, c1, s, h1, R1, S.ext E1, (OutS.bind (A := Rep (Wd.mk X.K T)) (S.ext E1) o1).mono ?_⟩
            rintro u H2 ⟨c2, h2, y, R2, E2, r2, o2⟩
            split at o2
            · rename_i zz ez
              refine hg c2 h2 H2 _ y zz v' u _ R2 (rr.ext E2) r2 ez fun c3 w3 H3 R3 E3 r3 => ?_
              split at o2
              · rename_i k3 cl3 fs3 ei3
                split at o2
                · rename_i hcl
                  subst hcl
                  split at o2
                  · rename_i h3 e3
                    obtain ⟨k3, cl3, fs3, a3, dx3, vs3, ei4, hc3, ea3, ha3, hl3, c4, R4, E4⟩ := setFld_ok R3 ((r1.ext E2).ext E3) r3 e3
                    rw [ei3] at ei4
                    cases ei4
                    cases ea3
                    exact ⟨dx3, vs3, ha3, hl3, o2 c4 σ _ R4 (E3.trans E4) ((((S.ext E1).ext E2).ext E3).ext E4)⟩
                  · exact o2.elim
                · exact o2.elim
              · exact o2.elim
            · exact o2.elim
        · exact o1.elim
      · exact o1.elim
    · exact o1.elim)⟩
end
end MP
set_option Elab.async false
set_option linter.all false
set_option maxRecDepth 100000
set_option maxHeartbeats 4000000
/-! mirrors: what is walked, for, while, comprehensions -/
namespace MP
open PySem PySem.Spec L2
open PyProof.Rows hiding St

/-- what is walked: its items, and whether it is still as it was -/
structure Walk where
  xs : List D
  ok : AH → Bool
abbrev MI := Sl → AH → Res Walk
def ItOk (w : Wd) (c0 : Cf) (H0 : Hp) (J : It) (k : Walk) : Prop := ∀ c h H i, Rel w c h H → Mo c0 c → k.ok h = true →
  (i = k.xs.length → J.stop i H) ∧ ∀ d, k.xs[i]? = some d → J.go i H ∧ ∀ x H', J.yld i H x H' → ∃ c', Rel w c' h H' ∧ Ext c H c' H' ∧ Rep w c' d x
def OutW (w : Wd) (c : Cf) (H : Hp) (E : XK) (R : It → Hp → Prop) : Res Walk → Prop
  | .ok k h' => ∀ c' J H', Rel w c' h' H' → Ext c H c' H' → ItOk w c' H' J k → R J H'
  | .ex e h' => ∀ c' cls dd H', Rel w c' h' H' → Ext c H c' H' → RepX w c' e cls dd → E cls dd H'
  | .st => False
def tI (w : Wd) (W : WX) (m : MI) : TI := fun σ H R => ∃ c s h, Rel w c h H ∧ RelS w c s σ ∧ OutW w c H (fun cls dd H' => W cls dd σ H') R (m s h)
theorem OutW.shift {w : Wd} {c c1 : Cf} {H H1 : Hp} {E : XK} {R : It → Hp → Prop} (x : Ext c H c1 H1) : ∀ {r : Res Walk}, OutW w c H E R r → OutW w c1 H1 E R r
  | .ok _ _, o => fun c' b H' R e a => o c' b H' R (x.trans e) a
  | .ex _ _, o => fun c' cls dd H' R e a => o c' cls dd H' R (x.trans e) a
  | .st, o => o
theorem OutW.bind {w : Wd} {c : Cf} {H : Hp} {E : XK} {R : It → Hp → Prop} {α β : Type} {A : Cf → α → β → Prop} {f : α → AH → Res Walk} : ∀ {r : Res α}, OutW w c H E R (r.bind f) →
    Out w c H E A (fun b H1 => ∃ c1 h1 a, Rel w c1 h1 H1 ∧ Ext c H c1 H1 ∧ A c1 a b ∧ OutW w c1 H1 E R (f a h1)) r
  | .ok a h', o => fun c' b H' R e q => ⟨c', h', a, R, e, q, OutW.shift e o⟩
  | .ex _ _, o => o
  | .st, o => o
theorem PIi {X : Cx} {tg e : Expr} {t t' : TI} (h : PI X tg e t) (q : ∀ σ H R, t' σ H R → t σ H R) : PI X tg e t' := ⟨fun pins s σ H R I z => h.run pins s σ H R I (q σ H R z)⟩
/-- is the list still as it was -/
def lstOk (d : D) (xs : List D) : AH → Bool := match d with
  | .ref k => fun h => match h.g k with
    | some (.lst ys) => D.eqbL ys xs
    | _ => false
  | _ => fun _ => true
def iLst (e : ME) : MI := fun s h => (e s h).bind fun d h1 => match seqL h1 d with
  | some xs => .ok ⟨xs, lstOk d xs⟩ h1
  | none => .st
def iTup (e : ME) : MI := fun s h => (e s h).bind fun d h1 => match seqT d with
  | some xs => .ok ⟨xs, fun _ => true⟩ h1
  | none => .st
def iSeq (e : ME) : MI := fun s h => (e s h).bind fun d h1 => match seqT d with
  | some xs => .ok ⟨xs, fun _ => true⟩ h1
  | none => match seqL h1 d with
    | some xs => .ok ⟨xs, lstOk d xs⟩ h1
    | none => .st
def rng (lo hi : Int) : List D := (List.range (hi - lo).toNat).map fun k => .int (lo + (k : Nat))
def iRng1 (a : ME) : MI := fun s h => (a s h).bind fun x h1 => match x with
  | .int j => if -(2 ^ 62) ≤ j ∧ j < 2 ^ 62 then .ok ⟨rng 0 j, fun _ => true⟩ h1 else .st
  | _ => .st
def iRng2 (a b : ME) : MI := fun s h => (a s h).bind fun x h1 => (b s h1).bind fun y h2 => match x, y with
  | .int i, .int j => if -(2 ^ 62) ≤ i ∧ i < 2 ^ 62 ∧ -(2 ^ 62) ≤ j ∧ j < 2 ^ 62 then .ok ⟨rng i j, fun _ => true⟩ h2 else .st
  | _, _ => .st
/-- a list read, at a place -/
theorem lst_at {w : Wd} {c0 c : Cf} {H0 H : Hp} {h0 h : AH} (R0 : Rel w c0 h0 H0) (R : Rel w c h H) (E : Mo c0 c) {d : D} {v : V} {xs : List D} (r : Rep w c0 d v) (q : seqL h0 d = some xs) (hk : lstOk d xs h = true) :
    ∃ a vs, v = .ref a ∧ SqL w.K H a vs ∧ RepL w c xs vs := by
  have q2 : seqL h d = some xs := by
    cases d with
    | ref k =>
      simp only [lstOk] at hk
      split at hk
      · rename_i ys e
        rw [D.eqbL_eq hk] at e
        simp [seqL, e]
      · cases hk
    | lst ys => exact q
    | fz ys => exact q
    | _ => simp [seqL] at q
  exact seqL_ok R (r.mo E) q2
section
variable {X : Cx} {T : Nat → Addr} {W : WX} {a b e o tg iter : Expr} {ma mb mo : ME} {ms : MA} {pos p : Pos}
theorem i_lst (he : PE X e (tM (Wd.mk X.K T) W ma)) : PI X tg e (tI (Wd.mk X.K T) W (iLst ma)) :=
  PIi (pi_list he) fun σ H R ⟨c, s, h, R0, S, z⟩ => ⟨c, s, h, R0, S, (OutW.bind (A := Rep (Wd.mk X.K T)) z).mono (by
    rintro v H1 ⟨c1, h1, d, R1, E1, r1, o⟩
    split at o
    · rename_i xs q
      obtain ⟨av, vs, rfl, sq, rl⟩ := seqL_ok R1 r1 q
      refine ⟨av, rfl, ⟨vs, sq⟩, o c1 _ H1 R1 (.refl R1.sub) ?_⟩
      intro c2 h2 H2 i R2 E2 hk
      obtain ⟨a2, vs2, ea, sq2, rl2⟩ := lst_at R1 R2 E2 r1 q hk
      cases ea
      refine ⟨fun hi => ⟨vs2, sq2, by rw [← rl2.len, hi]; exact Nat.le_refl _⟩, fun d2 hd => ?_⟩
      obtain ⟨y, ey, ry⟩ := rl2.get hd
      refine ⟨⟨vs2, y, sq2, ey⟩, ?_⟩
      rintro x H' ⟨rfl, hx⟩
      have := hx vs2 sq2
      rw [ey] at this
      cases this
      exact ⟨c2, R2, .refl R2.sub, ry⟩
    · exact o.elim)⟩
theorem i_tup (he : PE X e (tM (Wd.mk X.K T) W ma)) : PI X tg e (tI (Wd.mk X.K T) W (iTup ma)) :=
  PIi (pi_tup he) fun σ H R ⟨c, s, h, R0, S, z⟩ => ⟨c, s, h, R0, S, (OutW.bind (A := Rep (Wd.mk X.K T)) z).mono (by
    rintro v H1 ⟨c1, h1, d, R1, E1, r1, o⟩
    split at o
    · rename_i xs q
      obtain ⟨av, vs, rfl, sq, rl⟩ := seqT_ok R1 r1 q
      refine ⟨av, rfl, ⟨vs, sq⟩, o c1 _ H1 R1 (.refl R1.sub) ?_⟩
      intro c2 h2 H2 i R2 E2 hk
      obtain ⟨a2, vs2, ea, sq2, rl2⟩ := seqT_ok R2 (r1.mo E2) q
      cases ea
      refine ⟨fun hi => ⟨vs2, sq2, by rw [← rl2.len, hi]; exact Nat.le_refl _⟩, fun d2 hd => ?_⟩
      obtain ⟨y, ey, ry⟩ := rl2.get hd
      refine ⟨⟨vs2, y, sq2, ey⟩, ?_⟩
      rintro x H' ⟨rfl, hx⟩
      have := hx vs2 sq2
      rw [ey] at this
      cases this
      exact ⟨c2, R2, .refl R2.sub, ry⟩
    · exact o.elim)⟩
/-- a list or a tuple -/
theorem i_seq (he : PE X e (tM (Wd.mk X.K T) W ma)) : PI X tg e (tI (Wd.mk X.K T) W (iSeq ma)) := by
  have lst := fun (m : ME) (h : PE X e (tM (Wd.mk X.K T) W m)) => i_lst (tg := tg) h
  refine ⟨fun pins s σ H R I z => ?_⟩
  obtain ⟨c, sl, h, R0, S, z⟩ := z
  -- run the expression once: which of both it is is told by the mirror
  cases q : ma sl h with
  | ok d h1 =>
    cases q2 : seqT d with
    | some xs =>
      refine (i_tup (tg := tg) he).run pins s σ H R I ⟨c, sl, h, R0, S, ?_⟩
      simp only [iSeq, iTup, q, Res.bind, q2] at z ⊢
      exact z
    | none =>
      refine (i_lst (tg := tg) he).run pins s σ H R I ⟨c, sl, h, R0, S, ?_⟩
      simp only [iSeq, iLst, q, Res.bind, q2] at z ⊢
      exact z
  | ex e h1 =>
    refine (i_lst (tg := tg) he).run pins s σ H R I ⟨c, sl, h, R0, S, ?_⟩
    simp only [iSeq, iLst, q, Res.bind] at z ⊢
    exact z
  | st =>
    simp only [iSeq, q, Res.bind] at z
    exact z.elim
theorem itr_ok {w : Wd} {c : Cf} {H : Hp} (lo hi : Int) : ItOk w c H (Itr lo (hi - lo).toNat) ⟨rng lo hi, fun _ => true⟩ := by
  intro c2 h2 H2 i R2 E2 _
  have hl : (rng lo hi).length = (hi - lo).toNat := by simp [rng]
  refine ⟨fun e => by show (hi - lo).toNat ≤ i; rw [← hl]; exact Nat.le_of_eq e.symm, fun d hd => ?_⟩
  have hi' : i < (hi - lo).toNat := by rw [← hl]; exact (List.getElem?_eq_some_iff.mp hd).1
  have : d = .int (lo + (i : Nat)) := by
    have hd : (rng lo hi)[i]? = some d := hd
    simp only [rng, List.getElem?_map, List.getElem?_range hi', Option.map_some, Option.some.injEq] at hd
    exact hd.symm
  subst this
  exact ⟨hi', fun x H' ⟨e1, e2⟩ => by subst e1 e2; exact ⟨c2, R2, .refl R2.sub, by simp [Rep]⟩⟩
theorem i_rng1 (hm : X.mg "range" = none) (ha : PE X a (tM (Wd.mk X.K T) W ma)) (hg : Gl X "range" := by rfl) (hs : starEach [a] X.env = [(false, eval a X.env)] := by rfl) : PI X tg (.Call (.Name "range" p) [a] [] pos) (tI (Wd.mk X.K T) W (iRng1 ma)) :=
  PIi (pi_range1 hg hm (pa_cons ha pa_nil hs) hs) fun σ H R ⟨c, s, h, R0, S, z⟩ => ⟨c, s, h, R0, S, (OutW.bind (A := Rep (Wd.mk X.K T)) z).mono (by
    rintro v H1 ⟨c1, h1, d, R1, E1, r1, o⟩
    split at o
    · rename_i j
      simp only [Rep] at r1
      subst r1
      split at o
      · rename_i hj
        refine ⟨j, rfl, hj.1, hj.2, o c1 _ H1 R1 (.refl R1.sub) ?_⟩
        have := itr_ok (w := (Wd.mk X.K T)) (c := c1) (H := H1) 0 j
        rw [Int.sub_zero] at this
        exact this
      · exact o.elim
    · exact o.elim)⟩
theorem i_rng2 (hm : X.mg "range" = none) (ha : PE X a (tM (Wd.mk X.K T) W ma)) (hb : PE X b (tM (Wd.mk X.K T) W mb)) (hg : Gl X "range" := by rfl) (hs : starEach [a, b] X.env = [(false, eval a X.env), (false, eval b X.env)] := by rfl) (hs2 : starEach [b] X.env = [(false, eval b X.env)] := by rfl) :
    PI X tg (.Call (.Name "range" p) [a, b] [] pos) (tI (Wd.mk X.K T) W (iRng2 ma mb)) :=
  PIi (pi_range2 hg hm (pa_cons ha (pa_cons hb pa_nil hs2) (by rw [hs, hs2])) hs hs2) fun σ H R ⟨c, s, h, R0, S, z⟩ => ⟨c, s, h, R0, S, (OutW.bind (A := Rep (Wd.mk X.K T)) z).mono (by
    rintro v H1 ⟨c1, h1, d, R1, E1, r1, o⟩
    refine ⟨c1, s, h1, R1, S.ext E1, (OutW.bind (A := Rep (Wd.mk X.K T)) o).mono ?_⟩
    rintro v2 H2 ⟨c2, h2, d2, R2, E2, r2, o2⟩
    split at o2
    · rename_i i j
      simp only [Rep] at r1 r2
      subst r1 r2
      split at o2
      · rename_i hj
        exact ⟨i, j, rfl, hj, o2 c2 _ H2 R2 (.refl R2.sub) (itr_ok i j)⟩
      · exact o2.elim
    · exact o2.elim)⟩

/-! ### for -/
def forL (ok : AH → Bool) (g : MG) (b : MS) : List D → Sl → AH → RS
  | [], s, h => if ok h = true then .nx s h else .st
  | x :: xs, s, h => if ok h = true then match g x s h with
    | some (s1, h1) => match b s1 h1 with
      | .nx s2 h2 => forL ok g b xs s2 h2
      | .ct s2 h2 => forL ok g b xs s2 h2
      | .bk s2 h2 => .nx s2 h2
      | .rt d h2 => .rt d h2
      | .ex e s2 h2 => .ex e s2 h2
      | .st => .st
    | none => .st
    else .st
def sFor (m : MI) (g : MG) (b : MS) : MS := fun s h => (m s h).bindS s fun k h1 => forL k.ok g b k.xs s h1
theorem OutS.bindW {w : Wd} {c : Cf} {H : Hp} {W : WX} {D : Ends} {s : Sl} {σ : L2.St} (S : RelS w c s σ) {f : Walk → AH → RS} : ∀ {r : Res Walk}, OutS w c H W D (r.bindS s f) →
    OutW w c H (fun cls dd H' => W cls dd σ H') (fun J H1 => ∃ c1 h1 k, Rel w c1 h1 H1 ∧ Ext c H c1 H1 ∧ ItOk w c1 H1 J k ∧ OutS w c1 H1 W D (f k h1)) r
  | .ok k h', o => fun c' J H' R e i => ⟨c', h', k, R, e, i, OutS.shift e o⟩
  | .ex _ _, o => fun c' cls dd H' R e x => o c' cls dd σ H' R e (S.ext e) x
  | .st, o => o
theorem OutW.mono {w : Wd} {c : Cf} {H : Hp} {E : XK} {R R' : It → Hp → Prop} (q : ∀ J H', R J H' → R' J H') : ∀ {r : Res Walk}, OutW w c H E R r → OutW w c H E R' r
  | .ok _ _, o => fun c' b H' R e a => q _ _ (o c' b H' R e a)
  | .ex _ _, o => o
  | .st, o => o
theorem s_for {body : List Stmt} {mi : MI} {g : MG} {mb : MS} (hp : PassesOwn (model X.prog X.w) X.A X.env X.xe) (hc : X.calm = true) (hi : PI X tg iter (tI (Wd.mk X.K T) W mi)) (hg : PG X tg (tG (Wd.mk X.K T) g)) (hb : PSs X body (tS (Wd.mk X.K T) W mb)) (hs : ∀ x, foldedSetIterable iter X.env x = pure x := by intro _; rfl) :
    PS X (.For tg iter body [] pos) (tS (Wd.mk X.K T) W (sFor mi g mb)) :=
  PSi (ps_for hp hc hi hg hb hs) fun D σ H ⟨c, s, h, R0, S, z⟩ => by
    refine ⟨c, s, h, R0, S, (OutS.bindW S z).mono ?_⟩
    rintro J H1 ⟨c1, h1, k, R1, E1, hit, o⟩
    refine ⟨fun i m σ' H' => i ≤ k.xs.length ∧ m = k.xs.length - i ∧ ∃ c' s' h', Rel (Wd.mk X.K T) c' h' H' ∧ RelS (Wd.mk X.K T) c' s' σ' ∧ Ext c1 H1 c' H' ∧ OutS (Wd.mk X.K T) c' H' W D (forL k.ok g mb (k.xs.drop i) s' h'), ⟨_, Nat.zero_le _, rfl, c1, s, h1, R1, S.ext E1, .refl R1.sub, by rw [List.drop_zero]; exact o⟩, ?_⟩
    rintro i m σ' H' ⟨hil, rfl, c', s', h', R', S', E', o'⟩
    by_cases hlt : i < k.xs.length
    · right
      have hd : k.xs.drop i = k.xs[i] :: k.xs.drop (i + 1) := List.drop_eq_getElem_cons hlt
      rw [hd] at o'
      simp only [forL] at o'
      split at o'
      · rename_i hk
        have hi := (hit c' h' H' i R' E'.mo hk).2 k.xs[i] (by simp [hlt])
        refine ⟨hi.1, fun σ2 H2 => ∃ c2 s2 h2, Rel (Wd.mk X.K T) c2 h2 H2 ∧ RelS (Wd.mk X.K T) c2 s2 σ2 ∧ Ext c1 H1 c2 H2 ∧ OutS (Wd.mk X.K T) c2 H2 W D (forL k.ok g mb (k.xs.drop (i + 1)) s2 h2), fun σ2 H2 q => ⟨_, Nat.sub_lt_sub_left hlt (Nat.lt_succ_self i), hlt, rfl, q⟩, fun x H2 y => ?_⟩
        obtain ⟨c2, R2, E2, r2⟩ := hi.2 x H2 y
        refine ⟨c2, s', h', k.xs[i], R2, S'.ext E2, r2, ?_⟩
        have o2 := OutS.shift E2 o'
        cases q : g k.xs[i] s' h' with
        | none => rw [q] at o2; exact o2.elim
        | some p =>
          obtain ⟨s3, h3⟩ := p
          rw [q] at o2
          intro c3 σ3 H3 R3 E3 S3
          refine ⟨c3, s3, h3, R3, S3, ?_⟩
          have o3 := OutS.shift E3 o2
          have E13 := (E'.trans E2).trans E3
          dsimp only at o3
          cases q3 : mb s3 h3 with
          | nx s4 h4 => rw [q3] at o3; exact fun c4 σ4 H4 R4 E4 S4 => ⟨c4, s4, h4, R4, S4, E13.trans E4, OutS.shift E4 o3⟩
          | ct s4 h4 => rw [q3] at o3; exact fun c4 σ4 H4 R4 E4 S4 => ⟨c4, s4, h4, R4, S4, E13.trans E4, OutS.shift E4 o3⟩
          | bk s4 h4 => rw [q3] at o3; exact o3
          | rt d h4 => rw [q3] at o3; exact o3
          | ex e s4 h4 => rw [q3] at o3; exact o3
          | st => rw [q3] at o3; exact o3
      · exact o'.elim
    · left
      have he : i = k.xs.length := by omega
      rw [List.drop_eq_nil_of_le (by omega)] at o'
      simp only [forL] at o'
      split at o'
      · rename_i hk
        exact ⟨(hit c' h' H' i R' E'.mo hk).1 he, o' c' σ' H' R' (.refl R'.sub) S'⟩
      · exact o'.elim
/-! ### while: at most n turns -/
def whL (t : MT) (b : MS) : Nat → Sl → AH → RS
  | 0, _, _ => .st
  | n + 1, s, h => (t s h).bindS s fun k h1 => if k = true then match b s h1 with
    | .nx s2 h2 => whL t b n s2 h2
    | .ct s2 h2 => whL t b n s2 h2
    | .bk s2 h2 => .nx s2 h2
    | .rt d h2 => .rt d h2
    | .ex e s2 h2 => .ex e s2 h2
    | .st => .st
    else .nx s h1
def sWhile (n : Nat) (t : MT) (b : MS) : MS := fun s h => whL t b n s h
theorem s_while {n : Nat} {test : Expr} {body : List Stmt} {mt : MT} {mb : MS} (hp : PassesOwn (model X.prog X.w) X.A X.env X.xe) (ht : PT X test (tT (Wd.mk X.K T) W mt)) (hb : PSs X body (tS (Wd.mk X.K T) W mb)) : PS X (.While test body [] pos) (tS (Wd.mk X.K T) W (sWhile n mt mb)) :=
  PSi (ps_while hp ht hb) fun D σ H ⟨c, s, h, R0, S, z⟩ => by
    refine ⟨fun m σ' H' => ∃ c' s' h', Rel (Wd.mk X.K T) c' h' H' ∧ RelS (Wd.mk X.K T) c' s' σ' ∧ OutS (Wd.mk X.K T) c' H' W D (whL mt mb m s' h'), ⟨n, c, s, h, R0, S, z⟩, ?_⟩
    rintro m σ' H' ⟨c', s', h', R', S', o'⟩
    cases m with
    | zero => exact o'.elim
    | succ m =>
      refine ⟨c', s', h', R', S', (OutS.bind (A := fun _ a b => a = b) S' o').mono ?_⟩
      rintro k H2 ⟨c2, h2, k', R2, E2, rfl, o2⟩
      cases k' with
      | false => exact o2 c2 σ' H2 R2 (.refl R2.sub) (S'.ext E2)
      | true =>
        rw [if_pos rfl] at o2 ⊢
        refine ⟨fun σ3 H3 => ∃ c3 s3 h3, Rel (Wd.mk X.K T) c3 h3 H3 ∧ RelS (Wd.mk X.K T) c3 s3 σ3 ∧ OutS (Wd.mk X.K T) c3 H3 W D (whL mt mb m s3 h3), fun σ3 H3 q => ⟨m, Nat.lt_succ_self m, q⟩, c2, s', h2, R2, S'.ext E2, ?_⟩
        cases q3 : mb s' h2 with
        | nx s4 h4 => rw [q3] at o2; exact fun c4 σ4 H4 R4 E4 S4 => ⟨c4, s4, h4, R4, S4, OutS.shift E4 o2⟩
        | ct s4 h4 => rw [q3] at o2; exact fun c4 σ4 H4 R4 E4 S4 => ⟨c4, s4, h4, R4, S4, OutS.shift E4 o2⟩
        | bk s4 h4 => rw [q3] at o2; exact o2
        | rt d h4 => rw [q3] at o2; exact o2
        | ex e s4 h4 => rw [q3] at o2; exact o2
        | st => rw [q3] at o2; exact o2

/-! ### comprehensions -/
def gNms : List Nat → TGs
  | [] => gNil
  | i :: is => gCons (gName i) (gNms is)
def setAll (s : Sl) : List Nat → List D → Option Sl
  | [], [] => some s
  | i :: is, d :: ds => setAll (s.set i (some d)) is ds
  | _, _ => none
def wipeD (s : Sl) : List Nat → Sl
  | [] => s
  | v :: vs => (wipeD s vs).set v none
/-- a comprehension's target: one name, a tuple of names -/
inductive CT where
  | one (i : Nat) | tup (is : List Nat)
def CT.set (d : D) (s : Sl) : CT → Option Sl
  | .one i => some (s.set i (some d))
  | .tup is => match seqT d with
    | some ds => if ds.length = is.length then setAll s is ds else none
    | none => none
def CT.tgt (K : PySem.W.Frag) : CT → TG
  | .one i => gName i
  | .tup is => gTup K is.length (gNms is)
def CT.sub (own : List Nat) : CT → Bool
  | .one i => own.contains i
  | .tup is => is.all own.contains
def compL (ok : AH → Bool) (own : List Nat) (g : CT) (t : MT) (e : ME) : List D → Sl → AH → List D → Res (List D)
  | [], _, h, acc => if ok h = true then .ok acc h else .st
  | x :: xs, s, h, acc => if ok h = true then match g.set x (wipeD s own) with
    | some s1 => match t s1 h with
      | .ok b h2 => if b = true then match e s1 h2 with
          | .ok y h3 => if acc.length < 100000 then compL ok own g t e xs s h3 (acc ++ [y]) else .st
          | _ => .st
        else compL ok own g t e xs s h2 acc
      | _ => .st
    | none => .st
    else .st
def eComp (own : List Nat) (m : MI) (g : CT) (t : MT) (e : ME) : ME := fun s h => (m s h).bind fun k h1 => (compL k.ok own g t e k.xs s h1 []).bind fun ys h2 => .ok (.lst ys) h2
/-- .. a list that is written later -/
def eCompN (own : List Nat) (m : MI) (g : CT) (t : MT) (e : ME) : ME := fun s h => (m s h).bind fun k h1 => (compL k.ok own g t e k.xs s h1 []).bind fun ys h2 => .ok (.ref h2.n) (h2.new (.lst ys))
def tYesD : MT := fun _ h => .ok true h
theorem RelS.wipe {w : Wd} {c : Cf} {s : Sl} {σ : L2.St} (S : RelS w c s σ) : ∀ vs : List Nat, RelS w c (wipeD s vs) (L2.wipe σ vs)
  | [] => S
  | v :: vs => (RelS.wipe S vs).wipe1
theorem wipe_get (σ : L2.St) : ∀ (vs : List Nat) (k : Nat), (L2.wipe σ vs)[k]? = if k ∈ vs then (if k < σ.length then some none else none) else σ[k]?
  | [], k => by simp [L2.wipe]
  | v :: vs, k => by
    simp only [L2.wipe, List.getElem?_set, L2.wipe_length, wipe_get σ vs k, List.mem_cons]
    by_cases e : v = k
    · subst e
      simp
    · have e' : ¬ k = v := fun z => e z.symm
      simp [e, e']
theorem wipe_set {σ : L2.St} {own : List Nat} {i : Nat} {o : Option V} (h : i ∈ own) : L2.wipe (σ.set i o) own = L2.wipe σ own := by
  refine List.ext_getElem? fun k => ?_
  rw [wipe_get, wipe_get, List.length_set]
  by_cases e : k ∈ own
  · rw [if_pos e, if_pos e]
  · rw [if_neg e, if_neg e, List.getElem?_set_ne (fun z => e (by rw [← z]; exact h))]
theorem wipe_idem {σ : L2.St} {own : List Nat} : L2.wipe (L2.wipe σ own) own = L2.wipe σ own := by
  refine List.ext_getElem? fun k => ?_
  rw [wipe_get, wipe_get, L2.wipe_length]
  by_cases e : k ∈ own
  · rw [if_pos e, if_pos e]
  · rw [if_neg e, if_neg e]
theorem nms_ok {w : Wd} {c : Cf} {own : List Nat} {H : Hp} {σ0 : L2.St} : ∀ {is : List Nat} {s s1 : Sl} {ds : List D} {vs : List V} {σ : L2.St} {Q : L2.St → Hp → Prop}, RelS w c s σ → RepL w c ds vs → setAll s is ds = some s1 → (∀ i ∈ is, i ∈ own) → L2.wipe σ own = L2.wipe σ0 own →
    (∀ σ2, RelS w c s1 σ2 → L2.wipe σ2 own = L2.wipe σ0 own → Q σ2 H) → gNms is vs σ H Q
  | [], s, s1, [], vs, σ, Q, S, r, e, hs, hw, q => by
    cases e
    exact ⟨by simpa [RepL] using r, q σ S hw⟩
  | i :: is, s, s1, d :: ds, vs, σ, Q, S, r, e, hs, hw, q => by
    simp only [RepL] at r
    obtain ⟨y, ys, rfl, r1, r2⟩ := r
    refine ⟨y, ys, rfl, nms_ok (S.set r1) r2 e (fun j hj => hs j (List.mem_cons_of_mem _ hj)) ?_ q⟩
    rw [wipe_set (hs i List.mem_cons_self)]
    exact hw
  | [], _, _, _ :: _, _, _, _, _, _, e, _, _, _ => by cases e
  | _ :: _, _, _, [], _, _, _, _, _, e, _, _, _ => by cases e
theorem ct_ok {w : Wd} {c : Cf} {h : AH} {own : List Nat} {H : Hp} {g : CT} {s s1 : Sl} {d : D} {v : V} {σ : L2.St} {Q : L2.St → Hp → Prop} (R : Rel w c h H) (S : RelS w c s σ) (r : Rep w c d v) (e : g.set d (wipeD s own) = some s1) (hs : g.sub own = true)
    (q : ∀ σ2, RelS w c s1 σ2 → L2.wipe σ2 own = L2.wipe σ own → Q σ2 H) : g.tgt w.K v (L2.wipe σ own) H Q := by
  cases g with
  | one i =>
    cases e
    simp only [CT.sub, List.contains_iff_mem] at hs
    exact q _ ((S.wipe own).set r) (by rw [wipe_set hs, wipe_idem])
  | tup is =>
    simp only [CT.set] at e
    split at e
    · rename_i ds ed
      split at e
      · rename_i hl
        obtain ⟨a, vs, rfl, t, rl⟩ := seqT_ok R r ed
        refine ⟨a, vs, rfl, t, by rw [← rl.len]; exact hl, nms_ok (σ0 := σ) (S.wipe own) rl e (fun i hi => ?_) wipe_idem q⟩
        simp only [CT.sub, List.all_eq_true, List.contains_iff_mem] at hs
        exact hs i hi
      · cases e
    · cases e
/-- the reading of a comprehension, its list handed on by fin -/
theorem lc_ok {mi : MI} {g : CT} {mt : MT} {me : ME} {own : List Nat} {σ : L2.St} {H : Hp} {Q : VK} (hs : g.sub own = true) {c : Cf} {s : Sl} {h : AH} (R0 : Rel (Wd.mk X.K T) c h H) (S : RelS (Wd.mk X.K T) c s σ) {fin : List D → AH → Res D}
    (o : Out (Wd.mk X.K T) c H (fun cls dd H' => W cls dd σ H') (Rep (Wd.mk X.K T)) Q ((mi s h).bind fun k h1 => (compL k.ok own g mt me k.xs s h1 []).bind fun ys h2 => fin ys h2))
    (hf : ∀ c1 H1 c2 h2 H2 ys vs p, Rel (Wd.mk X.K T) c2 h2 H2 → Ext c1 H1 c2 H2 → H1 p = none → c2.G p = none → H2 p = some (.lst vs) → RepL (Wd.mk X.K T) c2 ys vs → Out (Wd.mk X.K T) c1 H1 (fun cls dd H' => W cls dd σ H') (Rep (Wd.mk X.K T)) Q (fin ys h2) → Q (.ref p) H2) :
    tLc (tI (Wd.mk X.K T) W mi) (g.tgt X.K) (tT (Wd.mk X.K T) (fun _ _ _ _ => False) mt) (tM (Wd.mk X.K T) (fun _ _ _ _ => False) me) own σ H Q := by
  have o1 : OutW (Wd.mk X.K T) c H (fun cls dd H' => W cls dd σ H') (fun J H1 => ∃ c1 h1 k, Rel (Wd.mk X.K T) c1 h1 H1 ∧ Ext c H c1 H1 ∧ ItOk (Wd.mk X.K T) c1 H1 J k ∧ Out (Wd.mk X.K T) c1 H1 (fun cls dd H' => W cls dd σ H') (Rep (Wd.mk X.K T)) Q ((compL k.ok own g mt me k.xs s h1 []).bind fin)) (mi s h) := by
    cases q : mi s h with
    | ok k h1 => rw [q] at o; exact fun c' J H' R' E' i => ⟨c', h1, k, R', E', i, Out.shift E' o⟩
    | ex e h1 => rw [q] at o; exact o
    | st => rw [q] at o; exact o
  refine ⟨c, s, h, R0, S, OutW.mono ?_ o1⟩
  rintro J H1 ⟨c1, h1, k, R1, E1, hit, o2⟩ p hp
  have S1 := S.ext E1
  refine ⟨fun i m H' => i ≤ k.xs.length ∧ m = k.xs.length - i ∧ ∃ c' h' acc vs, Rel (Wd.mk X.K T) c' h' H' ∧ RelS (Wd.mk X.K T) c' s σ ∧ Ext c1 H1 c' H' ∧ c'.G p = none ∧ H' p = some (.lst vs) ∧ RepL (Wd.mk X.K T) c' acc vs ∧ acc.length ≤ 100000 ∧
      Out (Wd.mk X.K T) c1 H1 (fun cls dd H' => W cls dd σ H') (Rep (Wd.mk X.K T)) Q ((compL k.ok own g mt me (k.xs.drop i) s h' acc).bind fin),
    ⟨_, Nat.zero_le _, rfl, c1, h1, [], [], R1.priv (R1.gfree hp), S1, (Ext.refl R1.sub).priv hp, R1.gfree hp, upd_same, .nil, Nat.zero_le _, by rw [List.drop_zero]; exact o2⟩, ?_⟩
  rintro i m H' ⟨hil, rfl, c', h', acc, vs, R', S', E', gp, hD, ra, la, o'⟩
  by_cases hlt : i < k.xs.length
  · right
    have hd : k.xs.drop i = k.xs[i] :: k.xs.drop (i + 1) := List.drop_eq_getElem_cons hlt
    rw [hd] at o'
    simp only [compL] at o'
    split at o'
    · rename_i hk
      have hi := (hit c' h' H' i R' E'.mo hk).2 k.xs[i] (by simp [hlt])
      refine ⟨hi.1, fun H2 => ∃ c' h' acc vs, Rel (Wd.mk X.K T) c' h' H2 ∧ RelS (Wd.mk X.K T) c' s σ ∧ Ext c1 H1 c' H2 ∧ c'.G p = none ∧ H2 p = some (.lst vs) ∧ RepL (Wd.mk X.K T) c' acc vs ∧ acc.length ≤ 100000 ∧
        Out (Wd.mk X.K T) c1 H1 (fun cls dd H' => W cls dd σ H') (Rep (Wd.mk X.K T)) Q ((compL k.ok own g mt me (k.xs.drop (i + 1)) s h' acc).bind fin), fun H2 q => ⟨_, Nat.sub_lt_sub_left hlt (Nat.lt_succ_self i), hlt, rfl, q⟩, fun x H2 y => ?_⟩
      obtain ⟨c2, R2, E2, r2⟩ := hi.2 x H2 y
      cases q : g.set k.xs[i] (wipeD s own) with
      | none => rw [q] at o'; exact o'.elim
      | some s1 =>
        rw [q] at o'
        dsimp only at o'
        refine ct_ok (w := (Wd.mk X.K T)) R2 (S'.ext E2) r2 q hs fun σ2 S2 hw => ⟨hw, ?_⟩
        have nid := R'.noidG gp
        have kp : ∀ {c3 H3}, Ext c' H' c3 H3 → c3.G p = none ∧ H3 p = some (.lst vs) := fun e => ⟨e.gnone gp (by rw [hD]; exact nofun), e.keep p _ hD nid⟩
        refine ⟨c2, s1, h', R2, S2, ?_⟩
        cases q2 : mt s1 h' with
        | ok bb h3 =>
          rw [q2] at o'
          dsimp only at o'
          intro c3 b3 H3 R3 E3 e3
          subst e3
          cases bb with
          | false =>
            rw [if_neg Bool.false_ne_true] at o' ⊢
            have E23 := E2.trans E3
            exact ⟨c3, h3, acc, vs, R3, S'.ext E23, E'.trans E23, (kp E23).1, (kp E23).2, ra.ext E23, la, o'⟩
          | true =>
            rw [if_pos rfl] at o' ⊢
            refine ⟨c3, s1, h3, R3, S2.ext E3, ?_⟩
            cases q4 : me s1 h3 with
            | ok y h4 =>
              rw [q4] at o'
              dsimp only at o'
              intro c4 v4 H4 R4 E4 r4
              have E24 := (E2.trans E3).trans E4
              split at o'
              · rename_i hl4
                have g4 := (kp E24).1
                exact ⟨vs, (kp E24).2, Nat.lt_of_lt_of_le (by rw [← ra.len]; exact hl4) (size5 (Nat.le_refl _)), c4, h4, acc ++ [y], vs ++ [v4], R4.priv g4, S'.ext E24, (E'.trans E24).priv hp, g4, upd_same, (ra.ext E24).append (.cons r4 .nil), by simp; omega, o'⟩
              · exact o'.elim
            | ex e h4 => rw [q4] at o'; exact o'.elim
            | st => rw [q4] at o'; exact o'.elim
        | ex e h4 => rw [q2] at o'; exact o'.elim
        | st => rw [q2] at o'; exact o'.elim
    · exact o'.elim
  · left
    have he : i = k.xs.length := by omega
    rw [List.drop_eq_nil_of_le (by omega)] at o'
    simp only [compL] at o'
    split at o'
    · rename_i hk
      exact ⟨(hit c' h' H' i R' E'.mo hk).1 he, hf c1 H1 c' h' H' acc vs p R' E' hp gp hD ra o'⟩
    · exact o'.elim
theorem fin_lst {σ : L2.St} {Q : VK} : ∀ c1 H1 c2 h2 H2 ys vs p, Rel (Wd.mk X.K T) c2 h2 H2 → Ext c1 H1 c2 H2 → H1 p = none → c2.G p = none → H2 p = some (.lst vs) → RepL (Wd.mk X.K T) c2 ys vs → Out (Wd.mk X.K T) c1 H1 (fun cls dd H' => W cls dd σ H') (Rep (Wd.mk X.K T)) Q (.ok (.lst ys) h2) → Q (.ref p) H2 := by
  intro c1 H1 c2 h2 H2 ys vs p R2 E2 hp gp hD r o
  obtain ⟨R3, M⟩ := R2.join gp hD
  refine o _ _ H2 R3 (E2.join hp) ?_
  simp only [Rep]
  exact ⟨p, vs, rfl, ⟨upd_same, R2.noidG gp⟩, r.mo M⟩
theorem fin_ref {σ : L2.St} {Q : VK} : ∀ c1 H1 c2 h2 H2 ys vs p, Rel (Wd.mk X.K T) c2 h2 H2 → Ext c1 H1 c2 H2 → H1 p = none → c2.G p = none → H2 p = some (.lst vs) → RepL (Wd.mk X.K T) c2 ys vs → Out (Wd.mk X.K T) c1 H1 (fun cls dd H' => W cls dd σ H') (Rep (Wd.mk X.K T)) Q (.ok (.ref h2.n) (h2.new (.lst ys))) → Q (.ref p) H2 := by
  intro c1 H1 c2 h2 H2 ys vs p R2 E2 hp gp hD r o
  obtain ⟨R3, M⟩ := R2.joinId gp hD (o := .lst ys) ⟨vs, rfl, r⟩
  refine o _ _ H2 R3 (E2.joinId hp) ?_
  simp only [Rep]
  exact ⟨by show V.ref p = V.ref (if h2.n = c2.n then p else _); rw [if_pos R2.n.symm], by show h2.n < c2.n + 1; rw [R2.n]; exact Nat.lt_succ_self _⟩
section
variable {elt : Expr} {ifs : List Expr} {scope : Scope} {own : List (Str × Nat)} {mi : MI} {g : CT} {mt : MT} {me : ME}
theorem r_comp (hc : X.calm = true) (hN : X.N.Nodup) (hi : PI X tg iter (tI (Wd.mk X.K T) W mi)) (ok : BlkOk X.N X.env.scope scope own)
    (hg : ∀ (s : Shared) (H : Hp) (C : Addr) (cl : List (Str × Addr)) (fp : List Addr), PG (X.blk s H scope (compEnvC scope cl C X.env) fp) tg (g.tgt X.K))
    (ht : ∀ (s : Shared) (H : Hp) (C : Addr) (cl : List (Str × Addr)) (fp : List Addr), PTs (X.blk s H scope (compEnvC scope cl C X.env) fp) ifs (tT (Wd.mk X.K T) (fun _ _ _ _ => False) mt))
    (he : ∀ (s : Shared) (H : Hp) (C : Addr) (cl : List (Str × Addr)) (fp : List Addr), PE (X.blk s H scope (compEnvC scope cl C X.env) fp) elt (tM (Wd.mk X.K T) (fun _ _ _ _ => False) me))
    (hs : g.sub (own.map (·.2)) = true := by rfl) (hs2 : ∀ x, foldedSetIterable iter X.env x = pure x := by intro _; rfl) :
    PE X (.ListComp elt [⟨tg, iter, ifs, 0⟩] scope pos) (tM (Wd.mk X.K T) W (eComp (own.map (·.2)) mi g mt me)) :=
  PEi (pe_lc hc hN hi ok hg ht he hs2) fun σ H Q ⟨c, s, h, R, S, o⟩ => lc_ok hs R S o fin_lst
theorem r_compN (hc : X.calm = true) (hN : X.N.Nodup) (hi : PI X tg iter (tI (Wd.mk X.K T) W mi)) (ok : BlkOk X.N X.env.scope scope own)
    (hg : ∀ (s : Shared) (H : Hp) (C : Addr) (cl : List (Str × Addr)) (fp : List Addr), PG (X.blk s H scope (compEnvC scope cl C X.env) fp) tg (g.tgt X.K))
    (ht : ∀ (s : Shared) (H : Hp) (C : Addr) (cl : List (Str × Addr)) (fp : List Addr), PTs (X.blk s H scope (compEnvC scope cl C X.env) fp) ifs (tT (Wd.mk X.K T) (fun _ _ _ _ => False) mt))
    (he : ∀ (s : Shared) (H : Hp) (C : Addr) (cl : List (Str × Addr)) (fp : List Addr), PE (X.blk s H scope (compEnvC scope cl C X.env) fp) elt (tM (Wd.mk X.K T) (fun _ _ _ _ => False) me))
    (hs : g.sub (own.map (·.2)) = true := by rfl) (hs2 : ∀ x, foldedSetIterable iter X.env x = pure x := by intro _; rfl) :
    PE X (.ListComp elt [⟨tg, iter, ifs, 0⟩] scope pos) (tM (Wd.mk X.K T) W (eCompN (own.map (·.2)) mi g mt me)) :=
  PEi (pe_lc hc hN hi ok hg ht he hs2) fun σ H Q ⟨c, s, h, R, S, o⟩ => lc_ok hs R S o fin_ref
/-- name = [..] -/
theorem s_comp {i : Nat} {y : Str} {py spos : Pos} (hc : X.calm = true) (hN : X.N.Nodup) (hi : PI X tg iter (tI (Wd.mk X.K T) W mi)) (ok : BlkOk X.N X.env.scope scope own)
    (hg : ∀ (s : Shared) (H : Hp) (C : Addr) (cl : List (Str × Addr)) (fp : List Addr), PG (X.blk s H scope (compEnvC scope cl C X.env) fp) tg (g.tgt X.K))
    (ht : ∀ (s : Shared) (H : Hp) (C : Addr) (cl : List (Str × Addr)) (fp : List Addr), PTs (X.blk s H scope (compEnvC scope cl C X.env) fp) ifs (tT (Wd.mk X.K T) (fun _ _ _ _ => False) mt))
    (he : ∀ (s : Shared) (H : Hp) (C : Addr) (cl : List (Str × Addr)) (fp : List Addr), PE (X.blk s H scope (compEnvC scope cl C X.env) fp) elt (tM (Wd.mk X.K T) (fun _ _ _ _ => False) me))
    (hsw : swapsWith (.ListComp elt [⟨tg, iter, ifs, 0⟩] scope pos) (some (.Name y py)) spos.line X.env = pure true) (hy : X.N[i]? = some y := by rfl) (hyl : X.env.scope.names.lookup y = some .local := by rfl)
    (hs : g.sub (own.map (·.2)) = true := by rfl) (hs2 : ∀ x, foldedSetIterable iter X.env x = pure x := by intro _; rfl) :
    PS X (.Assign [.Name y py] (.ListComp elt [⟨tg, iter, ifs, 0⟩] scope pos) spos) (tS (Wd.mk X.K T) W (sSet i (eComp (own.map (·.2)) mi g mt me))) :=
  PSi (ps_setLc hc hN hy hyl hsw hi ok hg ht he hs2) fun D σ H ⟨c, s, h, R, S, o⟩ => by
    have o2 := OutS.bind (A := Rep (Wd.mk X.K T)) S o
    refine lc_ok (W := W) (Q := fun x H1 => gName i x σ H1 D.nx) hs R S (fin := fun ys h2 => .ok (.lst ys) h2) (o2.mono ?_) fin_lst
    rintro v H1 ⟨c1, h1, d, R1, E1, r1, o1⟩
    exact o1 c1 _ H1 R1 (.refl R1.sub) ((S.ext E1).set r1)
theorem s_compN {i : Nat} {y : Str} {py spos : Pos} (hc : X.calm = true) (hN : X.N.Nodup) (hi : PI X tg iter (tI (Wd.mk X.K T) W mi)) (ok : BlkOk X.N X.env.scope scope own)
    (hg : ∀ (s : Shared) (H : Hp) (C : Addr) (cl : List (Str × Addr)) (fp : List Addr), PG (X.blk s H scope (compEnvC scope cl C X.env) fp) tg (g.tgt X.K))
    (ht : ∀ (s : Shared) (H : Hp) (C : Addr) (cl : List (Str × Addr)) (fp : List Addr), PTs (X.blk s H scope (compEnvC scope cl C X.env) fp) ifs (tT (Wd.mk X.K T) (fun _ _ _ _ => False) mt))
    (he : ∀ (s : Shared) (H : Hp) (C : Addr) (cl : List (Str × Addr)) (fp : List Addr), PE (X.blk s H scope (compEnvC scope cl C X.env) fp) elt (tM (Wd.mk X.K T) (fun _ _ _ _ => False) me))
    (hsw : swapsWith (.ListComp elt [⟨tg, iter, ifs, 0⟩] scope pos) (some (.Name y py)) spos.line X.env = pure true) (hy : X.N[i]? = some y := by rfl) (hyl : X.env.scope.names.lookup y = some .local := by rfl)
    (hs : g.sub (own.map (·.2)) = true := by rfl) (hs2 : ∀ x, foldedSetIterable iter X.env x = pure x := by intro _; rfl) :
    PS X (.Assign [.Name y py] (.ListComp elt [⟨tg, iter, ifs, 0⟩] scope pos) spos) (tS (Wd.mk X.K T) W (sSet i (eCompN (own.map (·.2)) mi g mt me))) :=
  PSi (ps_setLc hc hN hy hyl hsw hi ok hg ht he hs2) fun D σ H ⟨c, s, h, R, S, o⟩ => by
    have o2 := OutS.bind (A := Rep (Wd.mk X.K T)) S o
    refine lc_ok (W := W) (Q := fun x H1 => gName i x σ H1 D.nx) hs R S (fin := fun ys h2 => .ok (.ref h2.n) (h2.new (.lst ys))) (o2.mono ?_) fin_ref
    rintro v H1 ⟨c1, h1, d, R1, E1, r1, o1⟩
    exact o1 c1 _ H1 R1 (.refl R1.sub) ((S.ext E1).set r1)
end
theorem ts_nil : PTs X [] (tT (Wd.mk X.K T) W tYesD) := ⟨fun pins s σ H Q I ⟨c, sl, h, R, S, o⟩ => pts_nil.run pins s σ H Q I (o c true H R (.refl R.sub) rfl)⟩
theorem ts_one {e : Expr} {mt : MT} (h : PT X e (tT (Wd.mk X.K T) W mt)) : PTs X [e] (tT (Wd.mk X.K T) W mt) := pts_one h
end
end MP
set_option Elab.async false
set_option linter.all false
set_option maxRecDepth 100000
set_option maxHeartbeats 4000000
/-! mirrors: operations on values -/
namespace MP
open PySem PySem.Spec L2
open PyProof.Rows hiding St

/-! ### numbers, texts, tuples, lists -/
def pAdd (h : AH) : D → D → Option D
  | .int i, .int j => some (.int (i + j))
  | .str a, .str b => if a.length + b.length ≤ 100000 then some (.str (a ++ b)) else none
  | .tup xs, .tup ys => if xs.length + ys.length ≤ 100000 then some (.tup (xs ++ ys)) else none
  | x, y => match seqM h x, seqM h y with
    | some xs, some ys => if xs.length + ys.length ≤ 100000 then some (.lst (xs ++ ys)) else none
    | _, _ => none
def pSub (_ : AH) : D → D → Option D
  | .int i, .int j => some (.int (i - j))
  | _, _ => none
def pMul (_ : AH) : D → D → Option D
  | .int i, .int j => if (-(2 ^ 64) < i ∧ i < 2 ^ 64) ∨ (-(2 ^ 64) < j ∧ j < 2 ^ 64) then some (.int (i * j)) else none
  | _, _ => none
def pMulA (h : AH) (x y : D) : Option D := match x, y with
  | .lst xs, .int k => if -1000 ≤ k ∧ k ≤ 1000 ∧ xs.length ≤ 100 then some (.lst (List.replicate k.toNat xs).flatten) else none
  | .tup xs, .int k => if xs ≠ [] ∧ 2 ≤ k ∧ k ≤ 1000 ∧ xs.length ≤ 1000 then some (.tup (List.replicate k.toNat xs).flatten) else none
  | .str z, .int k => if k = 0 then some (.str Str.empty) else if k = 1 then some (.str z) else none
  | _, _ => pMul h x y
theorem pMulA_int (h : AH) (i j : Int) : pMulA h (.int i) (.int j) = pMul h (.int i) (.int j) := rfl
def pDiv (_ : AH) : D → D → Option D
  | .int i, .int j => if 0 < j ∧ j < 2 ^ 200 then some (.int (i / j)) else none
  | _, _ => none
def pMod (_ : AH) : D → D → Option D
  | .int i, .int j => if 0 < j then some (.int (i % j)) else none
  | _, _ => none
def pPow (_ : AH) : D → D → Option D
  | .int i, .int j => if 0 ≤ j ∧ j ≤ 1000 ∧ i.natAbs < 2 ^ 200 then some (.int (i ^ j.toNat)) else none
  | _, _ => none
def pNeg (_ : AH) : D → Option D
  | .int i => some (.int (-i))
  | _ => none
def pLt (_ : AH) : D → D → Option D
  | .int i, .int j => some (.bl (decide (i < j)))
  | _, _ => none
def pLe (_ : AH) : D → D → Option D
  | .int i, .int j => some (.bl (decide (i ≤ j)))
  | _, _ => none
def pGt (_ : AH) : D → D → Option D
  | .int i, .int j => some (.bl (decide (j < i)))
  | _, _ => none
def pGe (_ : AH) : D → D → Option D
  | .int i, .int j => some (.bl (decide (j ≤ i)))
  | _, _ => none
/-- data as the library's == and repr take it -/
def PyLst (ds : List PyData) : PyData := .list ds
mutual
def pdI : D → Option PyData
  | .non => some .none
  | .bl b => some (.bool b)
  | .int i => some (.int i)
  | .str x => some (.str x)
  | .tup ds => match pdL ds with
    | some l => some (.tuple l)
    | none => none
  | .lst ds => match pdL ds with
    | some l => some (.list l)
    | none => none
  | .fz ds => match pdL ds with
    | some l => some (.list l)
    | none => none
  | .ref _ => none
  | .cst _ => none
  | .obj _ _ _ => none
def pdL : List D → Option (List PyData)
  | [] => some []
  | d :: ds => match pdI d, pdL ds with
    | some x, some xs => some (x :: xs)
    | _, _ => none
end
def pd (h : AH) (d : D) : Option PyData := match d with
  | .ref k => match h.g k with
    | some (.lst xs) => match pdL xs with
      | some l => some (.list l)
      | none => none
    | _ => none
  | d => pdI d
def sEq : D → D → Option Bool
  | .non, .non => some true
  | .non, .int _ => some false
  | .int _, .non => some false
  | .non, .str _ => some false
  | .str _, .non => some false
  | .int i, .int j => some (i == j)
  | .bl i, .bl j => some (i == j)
  | .str i, .str j => some (decide (i = j))
  | .int _, .str _ => some false
  | .str _, .int _ => some false
  | _, _ => none
def pEqB (h : AH) (x y : D) : Option Bool := match sEq x y with
  | some b => some b
  | none => match pd h x, pd h y with
    | some a, some b => if SeqAt.shaped a = true ∧ SeqAt.shaped b = true then some (PyData.eqv a b) else none
    | _, _ => none
def pEq (h : AH) (x y : D) : Option D := match pEqB h x y with
  | some b => some (.bl b)
  | none => none
def pNe (h : AH) (x y : D) : Option D := match pEqB h x y with
  | some b => some (.bl (!b))
  | none => none
def isNon : D → Bool
  | .non => true
  | _ => false
def pIs (_ : AH) (x y : D) : Option D := match y with
  | .non => some (.bl (isNon x))
  | _ => none
def pIsNot (_ : AH) (x y : D) : Option D := match y with
  | .non => some (.bl (!isNon x))
  | _ => none
/-- an index, from behind too -/
def atD (xs : List D) (i : Int) : Option D := atI xs i
def pIx (h : AH) (x y : D) : Option D := match y with
  | .int i => match x with
    | .tup xs => atI xs i
    | .str z => if z.length ≤ 100000 then (atI z.cps.toList i).map fun c => .str ⟨#[c]⟩ else none
    | _ => match seqL h x with
      | some xs => atI xs i
      | none => none
  | _ => none

section
variable {w : Wd}
theorem rp_int {c : Cf} {i : Int} {v : V} (r : Rep w c (.int i) v) : v = .int i := by simpa [Rep] using r
theorem rp_bl {c : Cf} {i : Bool} {v : V} (r : Rep w c (.bl i) v) : v = .bl i := by simpa [Rep] using r
theorem rp_str {c : Cf} {i : Str} {v : V} (r : Rep w c (.str i) v) : v = .str i := by simpa [Rep] using r
theorem rp_non {c : Cf} {v : V} (r : Rep w c .non v) : v = .non := by simpa [Rep] using r
abbrev rAddA (K : PySem.W.Frag) : L2.R2 := fun x y H Q => rI0 (fun i j => .int (i + j)) x y H Q ∨ (∃ i j, x = .str i ∧ y = .str j ∧ i.length + j.length ≤ sizeLine ∧ Q (.str (i ++ j)) H) ∨ rCatA K x y H Q ∨ rCat x y H Q
theorem o_add {X : Cx} : OpR X (binaryOp .Add) (rAddA X.K) := op_add.or (op_add_str.or (op_catA.or op_cat))
theorem catL {c : Cf} {h : AH} {H : Hp} {x y z : D} {v u : V} {Q : VK} (R : Rel w c h H) (rx : Rep w c x v) (ry : Rep w c y u) (e : (match seqM h x, seqM h y with
    | some xs, some ys => if xs.length + ys.length ≤ 100000 then some (D.lst (xs ++ ys)) else none
    | _, _ => none) = some z) (G : Gives w c h H z Q) : rCat v u H Q := by
  split at e
  · rename_i xs ys e1 e2
    split at e
    · rename_i hl
      cases e
      obtain ⟨a, vs, rfl, ha, r1⟩ := seqM_ok R rx e1
      obtain ⟨b, us, rfl, hb, r2⟩ := seqM_ok R ry e2
      exact ⟨a, b, vs, us, rfl, rfl, ha, hb, by rw [← r1.len, ← r2.len]; exact size5 hl, fun p hp => G.lst R (r1.append r2) p hp⟩
    · cases e
  · cases e
theorem g_add : Op2 w (rAddA w.K) pAdd := by
  intro c h H x y z v u Q R rx ry e G
  unfold pAdd at e
  split at e
  · cases e
    exact .inl ⟨_, _, rp_int rx, rp_int ry, G.int R⟩
  · split at e
    · rename_i hl
      cases e
      exact .inr (.inl ⟨_, _, rp_str rx, rp_str ry, size5 hl, G.str R⟩)
    · cases e
  · split at e
    · rename_i xs ys hl
      cases e
      obtain ⟨a, vs, rfl, ha, r1⟩ := seqT_ok R rx rfl
      obtain ⟨b, us, rfl, hb, r2⟩ := seqT_ok R ry rfl
      refine .inr (.inr (.inl ⟨a, b, vs, us, rfl, rfl, ha, hb, by rw [← r1.len, ← r2.len]; exact size5 hl, fun q => ?_, fun _ q => ?_, fun _ _ p hp => G.tup R (r1.append r2) p hp⟩))
      · have e0 := r1.len
        rw [q] at e0
        have : xs = [] := List.length_eq_zero_iff.mp e0
        subst this
        rw [List.nil_append] at G
        exact G.same R ry
      · have e0 := r2.len
        rw [q] at e0
        have : ys = [] := List.length_eq_zero_iff.mp e0
        subst this
        rw [List.append_nil] at G
        exact G.same R rx
    · cases e
  · exact .inr (.inr (.inr (catL R rx ry e G)))
theorem g_sub : Op2 w (rI0 fun i j => .int (i - j)) pSub := by
  intro c h H x y z v u Q R rx ry e G
  unfold pSub at e
  split at e
  · cases e
    exact ⟨_, _, rp_int rx, rp_int ry, G.int R⟩
  · cases e
theorem g_mul : Op2 w (rI CMul fun i j => .int (i * j)) pMul := by
  intro c h H x y z v u Q R rx ry e G
  unfold pMul at e
  split at e
  · split at e
    · rename_i hc
      cases e
      exact ⟨_, _, rp_int rx, rp_int ry, hc, G.int R⟩
    · cases e
  · cases e
theorem div_ok {j : Int} (h : 0 < j ∧ j < 2 ^ 200) : CDivW i j := wide_div (b := 200) h.1 (by have := h.2; omega) (by decide) (by decide)
theorem g_div : Op2 w (rI CDivW fun i j => .int (i / j)) pDiv := by
  intro c h H x y z v u Q R rx ry e G
  unfold pDiv at e
  split at e
  · split at e
    · rename_i hc
      cases e
      exact ⟨_, _, rp_int rx, rp_int ry, div_ok hc, G.int R⟩
    · cases e
  · cases e
theorem g_mod : Op2 w (rI (fun _ j => 0 < j) fun i j => .int (i % j)) pMod := by
  intro c h H x y z v u Q R rx ry e G
  unfold pMod at e
  split at e
  · split at e
    · rename_i hc
      cases e
      exact ⟨_, _, rp_int rx, rp_int ry, hc, G.int R⟩
    · cases e
  · cases e
def CPow2 (i j : Int) : Prop := 0 ≤ j ∧ j ≤ 1000 ∧ i.natAbs < 2 ^ 200
theorem pow_bits {a n : Int} (ha : a.natAbs < 2 ^ 200) (h0 : 0 ≤ n) (hn : n ≤ 1000) : (Builtin.Int.intBits a : Int) * n ≤ 2 ^ 27 := by
  have hb : Builtin.Int.intBits a ≤ 201 := by
    have := PySem.Flt.log2_lt_of (by decide) ha
    unfold Builtin.Int.intBits
    split <;> omega
  have h1 : (Builtin.Int.intBits a : Int) * n ≤ 201 * n := Int.mul_le_mul_of_nonneg_right (by omega) h0
  omega
theorem op_pow2 {X : Cx} : OpR X (binaryOp .Pow) (rI CPow2 fun i j => .int (i ^ j.toNat)) := opI fun _ _ _ _ _ _ _ hc q => pow_int hc.1 (pow_bits hc.2.2 hc.1 hc.2.1) q
theorem g_pow : Op2 w (rI CPow2 fun i j => .int (i ^ j.toNat)) pPow := by
  intro c h H x y z v u Q R rx ry e G
  unfold pPow at e
  split at e
  · split at e
    · rename_i hc
      cases e
      exact ⟨_, _, rp_int rx, rp_int ry, hc, G.int R⟩
    · cases e
  · cases e
theorem g_neg : Op1 w (rU fun i => .int (-i)) pNeg := by
  intro c h H x z v Q R rx e G
  unfold pNeg at e
  split at e
  · cases e
    exact ⟨_, rp_int rx, G.int R⟩
  · cases e
theorem g_lt : Op2 w (rI0 fun i j => .bl (decide (i < j))) pLt := by
  intro c h H x y z v u Q R rx ry e G
  unfold pLt at e
  split at e
  · cases e
    exact ⟨_, _, rp_int rx, rp_int ry, G.bl R⟩
  · cases e
theorem g_le : Op2 w (rI0 fun i j => .bl (decide (i ≤ j))) pLe := by
  intro c h H x y z v u Q R rx ry e G
  unfold pLe at e
  split at e
  · cases e
    exact ⟨_, _, rp_int rx, rp_int ry, G.bl R⟩
  · cases e
theorem g_gt : Op2 w (rI0 fun i j => .bl (decide (j < i))) pGt := by
  intro c h H x y z v u Q R rx ry e G
  unfold pGt at e
  split at e
  · cases e
    exact ⟨_, _, rp_int rx, rp_int ry, G.bl R⟩
  · cases e
theorem g_ge : Op2 w (rI0 fun i j => .bl (decide (j ≤ i))) pGe := by
  intro c h H x y z v u Q R rx ry e G
  unfold pGe at e
  split at e
  · cases e
    exact ⟨_, _, rp_int rx, rp_int ry, G.bl R⟩
  · cases e
theorem non_iff {c : Cf} {x : D} {v : V} (r : Rep w c x v) : decide (v = .non) = isNon x := by
  cases x <;> simp only [Rep] at r
  case non => subst r; rfl
  case bl => subst r; rfl
  case int => subst r; rfl
  case str => subst r; rfl
  case tup => obtain ⟨a, vs, rfl, _⟩ := r; rfl
  case lst => obtain ⟨a, vs, rfl, _⟩ := r; rfl
  case fz => obtain ⟨a, vs, rfl, _⟩ := r; rfl
  case ref => obtain ⟨rfl, _⟩ := r; rfl
  case cst => subst r; rfl
  case obj => obtain ⟨a, dx, vs, rfl, _⟩ := r; rfl
theorem g_is : Op2 w (fun x y H Q => y = .non ∧ Q (.bl (decide (x = .non))) H) pIs := by
  intro c h H x y z v u Q R rx ry e G
  unfold pIs at e
  split at e
  · cases e
    exact ⟨rp_non ry, by rw [non_iff rx]; exact G.bl R⟩
  · cases e
theorem g_isNot : Op2 w (fun x y H Q => y = .non ∧ Q (.bl (!decide (x = .non))) H) pIsNot := by
  intro c h H x y z v u Q R rx ry e G
  unfold pIsNot at e
  split at e
  · cases e
    exact ⟨rp_non ry, by rw [non_iff rx]; exact G.bl R⟩
  · cases e
/-! ### == -/
mutual
theorem pdI_ok {c : Cf} {h : AH} {H : Hp} (R : Rel w c h H) : ∀ {d : D} {v : V} {p : PyData}, Rep w c d v → pdI d = some p → Dp w.K H v p
  | .non, v, p, r, e => by simp only [Rep] at r; simp only [pdI, Option.some.injEq] at e; subst r e; exact .non
  | .bl b, v, p, r, e => by simp only [Rep] at r; simp only [pdI, Option.some.injEq] at e; subst r e; exact .bl b
  | .int b, v, p, r, e => by simp only [Rep] at r; simp only [pdI, Option.some.injEq] at e; subst r e; exact .int b
  | .str b, v, p, r, e => by simp only [Rep] at r; simp only [pdI, Option.some.injEq] at e; subst r e; exact .str b
  | .tup ds, v, p, r, e => by
    simp only [Rep] at r
    obtain ⟨a, vs, rfl, t, rl⟩ := r
    simp only [pdI] at e
    split at e
    · rename_i l q
      cases e
      exact .tup (t.sq R.sub) (pdL_ok R rl q)
    · cases e
  | .lst ds, v, p, r, e => by
    simp only [Rep] at r
    obtain ⟨a, vs, rfl, t, rl⟩ := r
    simp only [pdI] at e
    split at e
    · rename_i l q
      cases e
      exact .lst (t.sq R.sub) (pdL_ok R rl q)
    · cases e
  | .fz ds, v, p, r, e => by
    simp only [Rep] at r
    obtain ⟨a, vs, rfl, t, rl⟩ := r
    simp only [pdI] at e
    split at e
    · rename_i l q
      cases e
      exact .lst (t.sq R.sub) (pdL_ok R rl q)
    · cases e
  | .ref _, _, _, _, e => by simp [pdI] at e
  | .cst _, _, _, _, e => by simp [pdI] at e
  | .obj _ _ _, _, _, _, e => by simp [pdI] at e
theorem pdL_ok {c : Cf} {h : AH} {H : Hp} (R : Rel w c h H) : ∀ {ds : List D} {vs : List V} {ps : List PyData}, RepL w c ds vs → pdL ds = some ps → DpAll w.K H vs ps
  | [], vs, ps, r, e => by
    simp only [RepL] at r
    simp only [pdL, Option.some.injEq] at e
    subst r e
    exact .nil
  | d :: ds, vs, ps, r, e => by
    simp only [RepL] at r
    obtain ⟨y, ys, rfl, r1, r2⟩ := r
    simp only [pdL] at e
    split at e
    · rename_i x xs q1 q2
      cases e
      exact .cons (pdI_ok R r1 q1) (pdL_ok R r2 q2)
    · cases e
end
theorem pd_ok {c : Cf} {h : AH} {H : Hp} (R : Rel w c h H) {d : D} {v : V} {p : PyData} (r : Rep w c d v) (e : pd h d = some p) : Dp w.K H v p := by
  cases d with
  | ref k =>
    simp only [pd] at e
    split at e
    · rename_i xs q
      split at e
      · rename_i l q2
        cases e
        obtain ⟨a, vs, rfl, sq, rl⟩ := seqL_ok R r (xs := xs) (by simp [seqL, q])
        exact .lst sq (pdL_ok R rl q2)
      · cases e
    · cases e
  | _ => exact pdI_ok R r e
abbrev rEqA (K : PySem.W.Frag) : L2.R2 := fun x y H Q => rEq x y H Q ∨ rEqD K x y H Q
abbrev rNeA (K : PySem.W.Frag) : L2.R2 := fun x y H Q => rNe x y H Q ∨ rNeD K x y H Q
theorem o_eq {X : Cx} {k : Nat} (hr : Rm k X.A) : OpR X (compareOp .Eq) (rEqA X.K) := op_eq.or (op_eqD hr.r.units)
theorem o_ne {X : Cx} {k : Nat} (hr : Rm k X.A) : OpR X (compareOp .NotEq) (rNeA X.K) := op_ne.or (op_neD hr.r.units)
theorem sEq_ok {c : Cf} {x y : D} {v u : V} {b : Bool} (rx : Rep w c x v) (ry : Rep w c y u) (e : sEq x y = some b) : scal v u = true ∧ decide (v = u) = b := by
  cases x <;> cases y <;> simp only [sEq, Option.some.injEq] at e <;> (first | (cases e; done) | skip) <;> simp only [Rep] at rx ry <;> subst rx ry <;> subst e <;> (first | exact ⟨rfl, rfl⟩ | exact ⟨rfl, dec_int⟩ | exact ⟨rfl, dec_bl⟩ | skip)
  case str.str i j =>
    refine ⟨rfl, ?_⟩
    by_cases q : i = j
    · subst q; simp
    · simp [q]
theorem g_eq : Op2 w (rEqA w.K) pEq := by
  intro c h H x y z v u Q R rx ry e G
  unfold pEq pEqB at e
  cases q : sEq x y with
  | some b =>
    rw [q] at e
    cases e
    obtain ⟨h1, h2⟩ := sEq_ok rx ry q
    exact .inl ⟨h1, by rw [h2]; exact G.bl R⟩
  | none =>
    rw [q] at e
    dsimp only at e
    cases q1 : pd h x with
    | none => rw [q1] at e; cases e
    | some a =>
      cases q2 : pd h y with
      | none => rw [q1, q2] at e; cases e
      | some b =>
        rw [q1, q2] at e
        dsimp only at e
        by_cases hs : SeqAt.shaped a = true ∧ SeqAt.shaped b = true
        · rw [if_pos hs] at e
          cases e
          exact .inr ⟨a, b, pd_ok R rx q1, pd_ok R ry q2, hs.1, hs.2, G.bl R⟩
        · rw [if_neg hs] at e
          cases e
theorem g_ne : Op2 w (rNeA w.K) pNe := by
  intro c h H x y z v u Q R rx ry e G
  unfold pNe pEqB at e
  cases q : sEq x y with
  | some b =>
    rw [q] at e
    cases e
    obtain ⟨h1, h2⟩ := sEq_ok rx ry q
    exact .inl ⟨h1, by rw [h2]; exact G.bl R⟩
  | none =>
    rw [q] at e
    dsimp only at e
    cases q1 : pd h x with
    | none => rw [q1] at e; cases e
    | some a =>
      cases q2 : pd h y with
      | none => rw [q1, q2] at e; cases e
      | some b =>
        rw [q1, q2] at e
        dsimp only at e
        by_cases hs : SeqAt.shaped a = true ∧ SeqAt.shaped b = true
        · rw [if_pos hs] at e
          cases e
          exact .inr ⟨a, b, pd_ok R rx q1, pd_ok R ry q2, hs.1, hs.2, G.bl R⟩
        · rw [if_neg hs] at e
          cases e
/-! ### items -/
theorem atI_rep {c : Cf} {xs : List D} {vs : List V} {i : Int} {d : D} (r : RepL w c xs vs) (e : atI xs i = some d) : ∃ v, atI vs i = some v ∧ Rep w c d v := by
  unfold atI at e ⊢
  rw [← r.len]
  cases q : ixN xs.length i with
  | none => rw [q] at e; cases e
  | some j =>
    rw [q] at e
    exact r.get e
theorem g_ix : Op2 w (rIx w.K) pIx := by
  intro c h H x y z v u Q R rx ry e G
  unfold pIx at e
  split at e
  · rename_i i
    have hu := rp_int ry
    subst hu
    split at e
    · obtain ⟨a, vs, rfl, sq, rl⟩ := seqT_ok R rx rfl
      obtain ⟨v, e2, rv⟩ := atI_rep rl e
      exact .inr (.inl ⟨a, vs, i, v, rfl, rfl, sq, e2, G.same R rv⟩)
    · rename_i zz
      split at e
      · rename_i hl
        have hv := rp_str rx
        subst hv
        cases q : atI zz.cps.toList i with
        | none => rw [q] at e; cases e
        | some cc =>
          rw [q] at e
          cases e
          exact .inr (.inr ⟨zz, i, cc, rfl, rfl, size5 hl, q, G.str R⟩)
      · cases e
    · split at e
      · rename_i xs q
        obtain ⟨a, vs, rfl, sq, rl⟩ := seqL_ok R rx q
        obtain ⟨v, e2, rv⟩ := atI_rep rl e
        exact .inl ⟨a, vs, i, v, rfl, rfl, sq, e2, G.same R rv⟩
      · cases e
  · cases e
end
section
variable {X : Cx} {T : Nat → Addr} {W : WX} {a b e : Expr} {es : List Expr} {ma mb : ME} {ms : MA} {pos p : Pos}
theorem r_ix (ha : PE X a (tM (Wd.mk X.K T) W ma)) (hb : PE X b (tM (Wd.mk X.K T) W mb)) (hs : PlainIx b := by intro _ _; rfl) : PE X (.Subscript a b pos) (tM (Wd.mk X.K T) W (eBin pIx ma mb)) :=
  PEi (pe_ix ix_seq ha hb hs) fun σ H Q z => two (f := fun _ x y h2 => optR (pIx h2 x y) h2) z fun c2 s h2 H2 x y v u R2 S2 r1 r2 o => by
    obtain ⟨d, e, G⟩ := optOut o
    exact g_ix c2 h2 H2 x y d v u Q R2 r1 r2 e G
/-! ### built-in functions -/
theorem r_fn {id : String} {x : Str} {r : List V → Hp → VK → Prop} {g : AH → List D → Option D} (hc : CallR X (.builtin id) r) (hr : OpN (Wd.mk X.K T) r g) (hm : X.mg x = none) (hv : bootBuiltins x = some (.builtin id)) (ha : PA X (e :: es) (tA (Wd.mk X.K T) W ms))
    (hg : Gl X x := by rfl) (hn : x ≠ "__name__" := by decide) (hdb : (x == ("__debug__" : Str)) = false := by decide)
    (he : starEach (e :: es) X.env = (false, eval e X.env) :: starEach es X.env := by rfl) (hpl : (backTo pos (starEach es X.env)).any (·.1) = false := by rfl) : PE X (.Call (.Name x p) (e :: es) [] pos) (tM (Wd.mk X.K T) W (eFn g ms)) :=
  PEi (pe_callB hc hg hm hv ha hn hdb he hpl) fun σ H Q z => oneA (f := fun _ xs h1 => optR (g h1 xs) h1) z fun c2 s h2 H2 x v R2 S2 r1 o => by
    obtain ⟨d, e, G⟩ := optOut o
    exact hr c2 h2 H2 x d v Q R2 r1 e G
theorem r_ty {id : String} {x : Str} {r : List V → Hp → VK → Prop} {g : AH → List D → Option D} (hc : CallR X (.type id) r) (hr : OpN (Wd.mk X.K T) r g) (hm : X.mg x = none) (hv : bootBuiltins x = some (.type id)) (ha : PA X (e :: es) (tA (Wd.mk X.K T) W ms))
    (hg : Gl X x := by rfl) (hn : x ≠ "__name__" := by decide) (hdb : (x == ("__debug__" : Str)) = false := by decide)
    (he : starEach (e :: es) X.env = (false, eval e X.env) :: starEach es X.env := by rfl) (hpl : (backTo pos (starEach es X.env)).any (·.1) = false := by rfl) : PE X (.Call (.Name x p) (e :: es) [] pos) (tM (Wd.mk X.K T) W (eFn g ms)) :=
  PEi (pe_callTy hc hg hm hv ha hn hdb he hpl) fun σ H Q z => oneA (f := fun _ xs h1 => optR (g h1 xs) h1) z fun c2 s h2 H2 x v R2 S2 r1 o => by
    obtain ⟨d, e, G⟩ := optOut o
    exact hr c2 h2 H2 x d v Q R2 r1 e G
end
def fAbs (_ : AH) : List D → Option D
  | [.int i] => some (.int (if i < 0 then -i else i))
  | _ => none
def fMax2 (_ : AH) : List D → Option D
  | [.int i, .int j] => some (.int (if j > i then j else i))
  | _ => none
def fMin2 (_ : AH) : List D → Option D
  | [.int i, .int j] => some (.int (if j < i then j else i))
  | _ => none
def fInt (_ : AH) : List D → Option D
  | [.int i] => some (.int i)
  | [.bl k] => some (.int (if k then 1 else 0))
  | _ => none
def fLen (h : AH) : List D → Option D
  | [x] => match seqX h x with
    | some xs => some (.int xs.length)
    | none => match x with
      | .str z => if z.length ≤ 100000 then some (.int z.length) else none
      | _ => none
  | _ => none
section
variable {w : Wd}
theorem rpl0 {c : Cf} {vs : List V} (r : RepL w c [] vs) : vs = [] := by simpa [RepL] using r
theorem rpl1 {c : Cf} {d : D} {vs : List V} (r : RepL w c [d] vs) : ∃ v, vs = [v] ∧ Rep w c d v := by
  simp only [RepL] at r
  obtain ⟨x, xs, rfl, r1, rfl⟩ := r
  exact ⟨x, rfl, r1⟩
theorem rpl2 {c : Cf} {d e : D} {vs : List V} (r : RepL w c [d, e] vs) : ∃ v u, vs = [v, u] ∧ Rep w c d v ∧ Rep w c e u := by
  simp only [RepL] at r
  obtain ⟨x, xs, rfl, r1, y, ys, rfl, r2, rfl⟩ := r
  exact ⟨x, y, rfl, r1, r2⟩
theorem n_abs : OpN w (fun xs H Q => ∃ i, xs = [.int i] ∧ Q (.int (if i < 0 then -i else i)) H) fAbs := by
  intro c h H xs z vs Q R r e G
  unfold fAbs at e
  split at e
  · cases e
    obtain ⟨v, rfl, rv⟩ := rpl1 r
    exact ⟨_, by rw [rp_int rv], G.int R⟩
  · cases e
theorem n_max2 : OpN w (fun xs H Q => ∃ i j, xs = [.int i, .int j] ∧ Q (.int (if j > i then j else i)) H) fMax2 := by
  intro c h H xs z vs Q R r e G
  unfold fMax2 at e
  split at e
  · cases e
    obtain ⟨v, u, rfl, rv, ru⟩ := rpl2 r
    exact ⟨_, _, by rw [rp_int rv, rp_int ru], G.int R⟩
  · cases e
theorem n_min2 : OpN w (fun xs H Q => ∃ i j, xs = [.int i, .int j] ∧ Q (.int (if j < i then j else i)) H) fMin2 := by
  intro c h H xs z vs Q R r e G
  unfold fMin2 at e
  split at e
  · cases e
    obtain ⟨v, u, rfl, rv, ru⟩ := rpl2 r
    exact ⟨_, _, by rw [rp_int rv, rp_int ru], G.int R⟩
  · cases e
theorem n_int : OpN w (fun xs H Q => (∃ i, xs = [.int i] ∧ Q (.int i) H) ∨ ∃ k, xs = [.bl k] ∧ Q (.int (if k then 1 else 0)) H) fInt := by
  intro c h H xs z vs Q R r e G
  unfold fInt at e
  split at e
  · cases e
    obtain ⟨v, rfl, rv⟩ := rpl1 r
    exact .inl ⟨_, by rw [rp_int rv], G.int R⟩
  · cases e
    obtain ⟨v, rfl, rv⟩ := rpl1 r
    exact .inr ⟨_, by rw [rp_bl rv], G.int R⟩
  · cases e
abbrev rLenA (K : PySem.W.Frag) : List V → Hp → VK → Prop := fun xs H Q => (∃ p ys, xs = [.ref p] ∧ (SqL K H p ys ∨ SqT K H p ys) ∧ Q (.int ys.length) H) ∨ ∃ z, xs = [.str z] ∧ z.length ≤ sizeLine ∧ Q (.int z.length) H
theorem c_len {X : Cx} : CallR X (.builtin "len") (rLenA X.K) := call_len_seq.or call_len_str
theorem n_len : OpN w (rLenA w.K) fLen := by
  intro c h H xs z vs Q R r e G
  unfold fLen at e
  split at e
  · obtain ⟨v, rfl, rv⟩ := rpl1 r
    split at e
    · rename_i ys q
      cases e
      unfold seqX at q
      split at q
      · rename_i zs q2
        cases q
        obtain ⟨a, us, rfl, t, rl⟩ := seqT_ok R rv q2
        exact .inl ⟨a, us, rfl, .inr t, by rw [← rl.len]; exact G.int R⟩
      · obtain ⟨a, us, rfl, t, rl⟩ := seqL_ok R rv q
        exact .inl ⟨a, us, rfl, .inl t, by rw [← rl.len]; exact G.int R⟩
    · split at e
      · split at e
        · rename_i hl
          cases e
          exact .inr ⟨_, by rw [rp_str rv], size5 hl, G.int R⟩
        · cases e
      · cases e
  · cases e
end

/-! ### repr -/
/-- a text by the data: what repr tells -/
def fRepr (h : AH) : List D → Option D
  | [x] => match pd h x with
    | some p => if p.showable = true ∧ p.hasDict = false ∧ p.shown.length ≤ 100000 ∧ p.depth ≤ 20 then some (.str p.shown) else none
    | none => none
  | _ => none
theorem depth_le {p : PyData} : p.depth ≤ 20 → p.depth + 1 ≤ 21 := fun h => by omega
def rRepr (K : PySem.W.Frag) : List V → Hp → VK → Prop := fun xs H Q => ∃ v p, xs = [v] ∧ Dp K H v p ∧ p.showable = true ∧ p.hasDict = false ∧ p.shown.length ≤ sizeLine ∧ p.depth ≤ 20 ∧ Q (.str p.shown) H
theorem c_repr {X : Cx} {k : Nat} (hr : Rm k X.A) : CallR X (.builtin "repr") (rRepr X.K) := by
  intro pins s σ H xs us Q I r h
  obtain ⟨v, p, rfl, hd, hs, hn, hz, hdep, q⟩ := h
  obtain ⟨u, rfl, ru⟩ := vals1 r
  obtain ⟨as, rd⟩ := Dp.reads I p v u hd ru
  have hu := hr.r.units
  cases hd with
  | non =>
    cases (show u = Value.none from ru)
    exact PySem.P.repr_of_none ⟨.str _, H, I.tok _, ⟨_, rfl⟩, q⟩
  | bl b =>
    cases (show u = Value.bool b from ru)
    exact PySem.P.repr_of_bool ⟨.str _, H, I.tok _, ⟨_, rfl⟩, q⟩
  | int i =>
    obtain ⟨t, rfl⟩ := (show ∃ t, u = Value.int i t from ru)
    exact PySem.P.repr_of_int (by simpa [PyData.showable] using hs) ⟨.str _, H, I.tok _, ⟨_, rfl⟩, q⟩
  | str x =>
    obtain ⟨t, rfl⟩ := (show ∃ t, u = Value.str x t from ru)
    exact PySem.P.repr_of_str ⟨.str _, H, I.tok _, ⟨_, rfl⟩, q⟩ hz
  | lst sq al =>
    cases ru
    exact repr_of_reads' rd hs (fun z => by rw [hn] at z; cases z) hr.g (by omega) (fun _ _ e => e) (fun h' u tk hk => ⟨.str _, H, I.kept hk, ⟨_, rfl⟩, q⟩) hz
  | tup sq al =>
    cases ru
    exact repr_of_reads' rd hs (fun z => by rw [hn] at z; cases z) hr.g (by omega) (fun _ _ e => e) (fun h' u tk hk => ⟨.str _, H, I.kept hk, ⟨_, rfl⟩, q⟩) hz
theorem n_repr {w : Wd} : OpN w (rRepr w.K) fRepr := by
  intro c h H xs z vs Q R r e G
  unfold fRepr at e
  split at e
  · split at e
    · rename_i p q
      split at e
      · rename_i hc
        cases e
        obtain ⟨v, rfl, rv⟩ := rpl1 r
        exact ⟨v, p, rfl, pd_ok R rv q, hc.1, hc.2.1, size5 hc.2.2.1, hc.2.2.2, G.str R⟩
      · cases e
    · cases e
  · cases e

/-! ### isinstance of a built-in type -/
def tyName (h : AH) : D → Option String
  | .non => some "NoneType"
  | .bl _ => some "bool"
  | .int _ => some "int"
  | .str _ => some "str"
  | .tup _ => some "tuple"
  | .lst _ => some "list"
  | .ref k => match h.g k with
    | some (.lst _) => some "list"
    | some (.dct _) => some "dict"
    | _ => none
  | _ => none
def isiB (t T : String) : Bool := t == T || (t == "bool" && T == "int")
def eIsi (T : String) (a : ME) : ME := fun s h => (a s h).bind fun d h1 => match tyName h1 d with
  | some t => .ok (.bl (isiB t T)) h1
  | none => .st
/-- a built-in type of which we know the answers -/
def IsiOk (T : String) : Prop := ∀ t, t ∈ ["NoneType", "bool", "int", "str", "tuple", "list", "dict"] → kitB t T = some (isiB t T)
theorem isiOk {T : String} (h : (["NoneType", "bool", "int", "str", "tuple", "list", "dict"].all fun t => kitB t T == some (isiB t T)) = true) : IsiOk T := fun t ht => by
  have := List.all_eq_true.mp h t ht
  simpa using this
theorem ii_int : IsiOk "int" := isiOk (by decide +kernel)
theorem ii_bool : IsiOk "bool" := isiOk (by decide +kernel)
theorem ii_str : IsiOk "str" := isiOk (by decide +kernel)
theorem ii_tuple : IsiOk "tuple" := isiOk (by decide +kernel)
theorem ii_list : IsiOk "list" := isiOk (by decide +kernel)
theorem ii_dict : IsiOk "dict" := isiOk (by decide +kernel)
theorem ty_ok {w : Wd} {c : Cf} {h : AH} {H : Hp} (R : Rel w c h H) {d : D} {v : V} {t : String} (r : Rep w c d v) (e : tyName h d = some t) : TyX w.K H v (.type t) ∧ t ∈ ["NoneType", "bool", "int", "str", "tuple", "list", "dict"] := by
  cases d with
  | non => cases e; rw [rp_non r]; exact ⟨.base .non, by decide⟩
  | bl b => cases e; rw [rp_bl r]; exact ⟨.base (.bl b), by decide⟩
  | int b => cases e; rw [rp_int r]; exact ⟨.base (.int b), by decide⟩
  | str b => cases e; rw [rp_str r]; exact ⟨.base (.str b), by decide⟩
  | tup xs =>
    cases e
    simp only [Rep] at r
    obtain ⟨a, vs, rfl, t, _⟩ := r
    rcases t with ⟨(t | ⟨o, t⟩), _⟩ | ((t | ⟨o, t⟩) | ⟨o, its, n, lk, cl, _⟩)
    · exact ⟨.base (.tup (R.sub _ _ t)), by decide⟩
    · exact ⟨.fTuple (R.sub _ _ t), by decide⟩
    · cases t
    · cases t
    · exact ⟨.kTuple lk cl, by decide⟩
  | lst xs =>
    cases e
    simp only [Rep] at r
    obtain ⟨a, vs, rfl, t, _⟩ := r
    exact ⟨.base (.lst (R.sub _ _ t.1)), by decide⟩
  | ref k =>
    simp only [tyName] at e
    simp only [Rep] at r
    obtain ⟨rfl, hk⟩ := r
    split at e
    · rename_i xs q
      cases e
      obtain ⟨u, e1, vs, rfl, _⟩ := R.at_ _ _ q
      exact ⟨.base (.lst (R.sub _ _ e1)), by decide⟩
    · rename_i xs q
      cases e
      obtain ⟨u, e1, vs, rfl, _⟩ := R.at_ _ _ q
      exact ⟨.base (.dK (R.sub _ _ e1)), by decide⟩
    · cases e
  | fz _ => cases e
  | cst _ => cases e
  | obj _ _ _ => cases e
section
variable {X : Cx} {T : Nat → Addr} {W : WX} {a b e o i : Expr} {es : List Expr} {ma mb mo mi : ME} {ms : MA} {pos p p2 : Pos}
theorem r_isi {N : Str} {S : String} (hS : IsiOk S) (hm : X.mg "isinstance" = none) (hmN : X.mg N = none) (hvN : bootBuiltins N = some (.type S)) (ha : PE X a (tM (Wd.mk X.K T) W ma)) (hg : Gl X "isinstance" := by rfl) (hgN : Gl X N := by rfl) (hn : N ≠ "__name__" := by decide) (hdb : (N == ("__debug__" : Str)) = false := by decide)
    (h1 : starEach [a, .Name N p2] X.env = (false, eval a X.env) :: starEach [.Name N p2] X.env := by rfl) (h2 : starEach [.Name N p2] X.env = (false, eval (.Name N p2) X.env) :: starEach [] X.env := by rfl)
    (hpl : (backTo pos (starEach [.Name N p2] X.env)).any (·.1) = false := by rfl) :
    PE X (.Call (.Name "isinstance" p) [a, .Name N p2] [] pos) (tM (Wd.mk X.K T) W (eIsi S ma)) :=
  PEi (pe_callB call_isi hg hm (by decide +kernel) (pa_cons ha (pa_cons (pe_bltn (v := .ty S) hgN hmN hvN rfl hn hdb) pa_nil h2) h1) (by decide) (by decide) h1 hpl) fun σ H Q z =>
    one (f := fun _ d h1 => match tyName h1 d with | some t => .ok (.bl (isiB t S)) h1 | none => .st) z fun c2 s h2 H2 x v R2 S2 r1 o => by
      split at o
      · rename_i t et
        obtain ⟨ty, hm⟩ := ty_ok R2 r1 et
        exact ⟨v, .ty S, _, _, isiB t S, rfl, .ty S, ty, kit_ty (hS t hm), o c2 _ H2 R2 (.refl R2.sub) (by simp [Rep])⟩
      · exact o.elim

/-! ### xs[i] = v -/
def setIx (o i v : D) (h : AH) : Option AH := match o, i with
  | .ref k, .int j => match h.g k with
    | some (.lst xs) => match ixN xs.length j with
      | some n => some (h.put k (.lst (xs.set n v)))
      | none => none
    | _ => none
  | _, _ => none
def gIx (o i : ME) : MG := fun v s h => match o s h with
  | .ok x h1 => match i s h1 with
    | .ok y h2 => match setIx x y v h2 with
      | some h3 => some (s, h3)
      | none => none
    | _ => none
  | _ => none
theorem setIx_ok {w : Wd} {c : Cf} {h h3 : AH} {H : Hp} (R : Rel w c h H) {o i d : D} {vo vi v : V} {Q : Hp → Prop} (ro : Rep w c o vo) (ri : Rep w c i vi) (rd : Rep w c d v) (e : setIx o i d h = some h3)
    (q : ∀ c' H', Rel w c' h3 H' → Ext c H c' H' → Q H') : rSetL vo vi v H Q := by
  unfold setIx at e
  split at e
  · rename_i k j
    split at e
    · rename_i xs q1
      split at e
      · rename_i n q2
        cases e
        simp only [Rep] at ro
        obtain ⟨rfl, hk⟩ := ro
        obtain ⟨u, e1, vs, rfl, rl⟩ := R.at_ _ _ q1
        obtain ⟨R', E'⟩ := R.put q1 e1 (o' := .lst (xs.set n d)) (u' := .lst (vs.set n v)) ⟨_, rfl, rl.set rd⟩
        exact ⟨_, vs, j, n, rfl, rp_int ri, R.sub _ _ e1, by rw [← rl.len]; exact q2, q _ _ R' E'⟩
      · cases e
    · cases e
  · cases e
theorem g_ixs (ho : PE X o (tM (Wd.mk X.K T) (fun _ _ _ _ => False) mo)) (hi : PE X i (tM (Wd.mk X.K T) (fun _ _ _ _ => False) mi)) (ha : ∀ v, assign (.Subscript o i pos) X.env v = (do
      let ov ← holding [v] (eval o X.env)
      let iv ← holding [v, ov] (eval i X.env)
      standAt pos
      holding [v, ov, iv] (setItem ov iv v)
      release [v, ov, iv] []) := by intro _; rfl) : PG X (.Subscript o i pos) (tG (Wd.mk X.K T) (gIx mo mi)) :=
  ⟨fun pins s σ H v u Q I r z => (pg_sub ho hi set_list ha).run pins s σ H v u Q I r (by
    obtain ⟨c, sl, h, d, R, S, r1, o1⟩ := z
    simp only [gIx] at o1
    refine ⟨c, sl, h, R, S, ?_⟩
    cases q : mo sl h with
    | ok x h1 =>
      rw [q] at o1
      intro c1 vo H1 R1 E1 ro
      refine ⟨c1, sl, h1, R1, S.ext E1, ?_⟩
      dsimp only at o1
      cases q2 : mi sl h1 with
      | ok y h2 =>
        rw [q2] at o1
        intro c2 vi H2 R2 E2 ri
        dsimp only at o1
        cases q3 : setIx x y d h2 with
        | none => rw [q3] at o1; exact o1.elim
        | some h3 =>
          rw [q3] at o1
          have E12 := E1.trans E2
          exact setIx_ok R2 (ro.ext E2) ri ((r1.ext E1).ext E2) q3 fun c3 H3 R3 E3 => o1 c3 σ H3 R3 (E12.trans E3) ((S.ext E12).ext E3)
      | ex e h' => rw [q2] at o1; exact o1.elim
      | st => rw [q2] at o1; exact o1.elim
    | ex e h' => rw [q] at o1; exact o1.elim
    | st => rw [q] at o1; exact o1.elim)⟩

/-! ### methods of built-in objects -/
/-- what a method does: its value, the heap behind it -/
abbrev PM := AH → D → List D → Option (D × AH)
def eBm (T : String) (g : PM) (o : ME) (a : MA) : ME := fun s h => (o s h).bind fun x h1 => if tyName h1 x = some T then (a s h1).bind fun xs h2 => match g h2 x xs with
    | some (z, h3) => .ok z h3
    | none => .st
  else .st
def OpM (w : Wd) (r : V → List V → Hp → VK → Prop) (g : PM) : Prop := ∀ c h H x xs z h' v vs Q, Rel w c h H → Rep w c x v → RepL w c xs vs → g h x xs = some (z, h') →
  (∀ c' v' H', Rel w c' h' H' → Ext c H c' H' → Rep w c' z v' → Q v' H') → r v vs H Q
def BmOk (T : String) : Prop := T = "str" ∨ T = "list" ∨ T = "dict"
theorem tyV_ok {w : Wd} {c : Cf} {h : AH} {H : Hp} (R : Rel w c h H) {d : D} {v : V} {t : String} (r : Rep w c d v) (e : tyName h d = some t) (ht : BmOk t) : tyV w.K t v H := by
  cases d with
  | non => cases e; exact absurd ht (by unfold BmOk; decide)
  | bl b => cases e; exact absurd ht (by unfold BmOk; decide)
  | int b => cases e; exact absurd ht (by unfold BmOk; decide)
  | str b => cases e; rw [rp_str r]; exact rfl
  | tup xs => cases e; exact absurd ht (by unfold BmOk; decide)
  | lst xs =>
    cases e
    obtain ⟨a, vs, rfl, sq, _⟩ := seqL_ok R r rfl
    exact .inl ⟨rfl, vs, sq⟩
  | ref k =>
    simp only [tyName] at e
    simp only [Rep] at r
    obtain ⟨rfl, hk⟩ := r
    split at e
    · rename_i xs q
      cases e
      obtain ⟨u, e1, vs, rfl, _⟩ := R.at_ _ _ q
      exact .inl ⟨rfl, vs, .of (R.sub _ _ e1)⟩
    · rename_i xs q
      cases e
      obtain ⟨u, e1, vs, rfl, _⟩ := R.at_ _ _ q
      exact .inr (.inr (.inl ⟨rfl, .inl ⟨vs, R.sub _ _ e1⟩⟩))
    · cases e
  | fz _ => cases e
  | cst _ => cases e
  | obj _ _ _ => cases e
theorem bm_aux {S : String} {r : V → List V → Hp → VK → Prop} {g : PM} (hS : BmOk S) (hg : OpM (Wd.mk X.K T) r g) {σ : L2.St} {H : Hp} {Q : VK} (z : tM (Wd.mk X.K T) W (eBm S g mo ms) σ H Q) : tBM X.K S r (tM (Wd.mk X.K T) W mo) (tA (Wd.mk X.K T) W ms) σ H Q := by
  obtain ⟨c, s, h, R, Sl, o⟩ := z
  refine ⟨c, s, h, R, Sl, (Out.bind (A := Rep (Wd.mk X.K T)) o).mono ?_⟩
  rintro v H1 ⟨c1, h1, x, R1, E1, r1, o1⟩
  split at o1
  · rename_i ht
    refine ⟨tyV_ok R1 r1 ht hS, c1, s, h1, R1, Sl.ext E1, (Out.bind (A := RepL (Wd.mk X.K T)) o1).mono ?_⟩
    rintro vs H2 ⟨c2, h2, xs, R2, E2, r2, o2⟩
    split at o2
    · rename_i zz h3 e
      exact hg c2 h2 H2 x xs zz h3 v vs Q R2 (r1.ext E2) r2 e o2
    · exact o2.elim
  · exact o1.elim
theorem r_bm {S id : String} {name : Str} {apos : Pos} {r : V → List V → Hp → VK → Prop} {g : PM} (pa : PlainAttrs S) (slot : Slot S name id) (hty : typeOf (.builtin id) = pure (.type "method_descriptor")) (hm : MtR X id r) (hS : BmOk S) (hg : OpM (Wd.mk X.K T) r g) (ho : PE X o (tM (Wd.mk X.K T) W mo)) (ha : PA X (e :: es) (tA (Wd.mk X.K T) W ms))
    (hbase : attributeBase o name X.env (eval o X.env) = eval o X.env := by rfl)
    (hfew : ((backTo pos (starEach (e :: es) X.env)).all (fun x => !x.1) && (backToKw pos (keywordEach [] X.env)).all (fun x => x.1.isSome)
      && decide ((e :: es).length + ([] : List Keyword).length + (if ([] : List Keyword).isEmpty then 0 else 1) < 30)) = true := by rfl)
    (hline : (apos.endLine == pos.line) = true := by rfl) (hs : starEach (e :: es) X.env = (false, eval e X.env) :: starEach es X.env := by rfl) (hplain : (backTo pos (starEach es X.env)).any (·.1) = false := by rfl) :
    PE X (.Call (.Attribute o name apos) (e :: es) [] pos) (tM (Wd.mk X.K T) W (eBm S g mo ms)) :=
  PEi (pe_bm pa slot hty hm ho ha hbase hfew hline hs hplain) fun σ H Q z => bm_aux hS hg z
theorem r_bm0 {S id : String} {name : Str} {apos : Pos} {r : V → List V → Hp → VK → Prop} {g : PM} (pa : PlainAttrs S) (slot : Slot S name id) (hty : typeOf (.builtin id) = pure (.type "method_descriptor")) (hm : MtR X id r) (hS : BmOk S) (hg : OpM (Wd.mk X.K T) r g) (ho : PE X o (tM (Wd.mk X.K T) W mo))
    (hbase : attributeBase o name X.env (eval o X.env) = eval o X.env := by rfl) (hline : (apos.endLine == pos.line) = true := by rfl) :
    PE X (.Call (.Attribute o name apos) [] [] pos) (tM (Wd.mk X.K T) W (eBm S g mo aNil)) :=
  PEi (pe_bm0 pa slot hty hm ho hbase hline) fun σ H Q z => by
    obtain ⟨c, s, h, R, Sl, o⟩ := z
    refine ⟨c, s, h, R, Sl, (Out.bind (A := Rep (Wd.mk X.K T)) o).mono ?_⟩
    rintro v H1 ⟨c1, h1, x, R1, E1, r1, o1⟩
    split at o1
    · rename_i ht
      refine ⟨tyV_ok R1 r1 ht hS, ?_⟩
      simp only [aNil, Res.bind] at o1
      split at o1
      · rename_i zz h3 e
        exact hg c1 h1 H1 x [] zz h3 v [] Q R1 r1 .nil e o1
      · exact o1.elim
    · exact o1.elim
end
def mAppend : PM := fun h x xs => match x, xs with
  | .ref k, [y] => match h.g k with
    | some (.lst ds) => if ds.length < 100000 then some (.non, h.put k (.lst (ds ++ [y]))) else none
    | _ => none
  | _, _ => none
theorem m_append {w : Wd} : OpM w rAppend mAppend := by
  intro c h H x xs z h' v vs Q R rx rs e q
  unfold mAppend at e
  split at e
  · rename_i k y
    split at e
    · rename_i ds e1
      split at e
      · rename_i hl
        cases e
        obtain ⟨u, rfl, ru⟩ := rpl1 rs
        simp only [Rep] at rx
        obtain ⟨rfl, hk⟩ := rx
        obtain ⟨o, e2, us, rfl, rl⟩ := R.at_ _ _ e1
        obtain ⟨R', E'⟩ := R.put e1 e2 (o' := .lst (ds ++ [y])) (u' := .lst (us ++ [u])) ⟨_, rfl, rl.append (.cons ru .nil)⟩
        exact ⟨_, us, u, rfl, rfl, R.sub _ _ e2, Nat.lt_of_lt_of_le (by rw [← rl.len]; exact hl) (size5 (Nat.le_refl _)), q _ _ _ R' E' (by simp [Rep])⟩
      · cases e
    · cases e
  · cases e
end MP
set_option Elab.async false
set_option linter.all false
set_option maxRecDepth 100000
/-! mirrors: how they are reckoned with -/
namespace MP
open PySem PySem.Spec L2

theorem AH.put_same {h : AH} {i : Nat} {o o0 : AO} (e : h.g i = some o0) : (h.put i o).g i = some o := by rw [AH.put_if e, if_pos rfl]
theorem AH.new_same (h : AH) (o : AO) : (h.new o).g h.n = some o := by rw [AH.new_g, if_pos rfl]
theorem AH.put_ne {h : AH} {i k : Nat} {o : AO} (e : k ≠ i) : (h.put i o).g k = h.g k := by rw [AH.put_g, if_neg e]
theorem AH.new_ne {h : AH} {k : Nat} {o : AO} (e : k ≠ h.n) : (h.new o).g k = h.g k := by rw [AH.new_g, if_neg e]
theorem AH.put_put (h : AH) (i : Nat) (o o' : AO) : (h.put i o).put i o' = h.put i o' := by
  unfold AH.put
  simp
theorem AH.new_put (h : AH) (o o' : AO) : (h.new o).put h.n o' = h.new o' := by
  unfold AH.put AH.new AH.n
  simp
theorem AH.new_put_lt {h : AH} {i : Nat} (hi : i < h.n) (o o' : AO) : (h.new o).put i o' = (h.put i o').new o := by
  unfold AH.put AH.new
  rw [List.set_append_left _ _ hi]
theorem AH.put_eq {h : AH} {i : Nat} {o : AO} (e : h.g i = some o) : h.put i o = h := AH.ext fun k => by
  rw [AH.put_if e]
  split
  · rename_i z; rw [z, e]
  · rfl
theorem AH.cut_new (h : AH) (o : AO) (m : Nat) (hm : m ≤ h.n) : (h.new o).cut m = h.cut m := by
  unfold AH.cut AH.new
  rw [List.take_append_of_le_length hm]
theorem AH.cut_put_lt {h : AH} {i m : Nat} (o : AO) (hi : i < m) : (h.put i o).cut m = (h.cut m).put i o := by
  unfold AH.cut AH.put
  rw [List.take_set]
theorem AH.cut_put_ge {h : AH} {i m : Nat} (o : AO) (hi : m ≤ i) : (h.put i o).cut m = h.cut m := by
  unfold AH.cut AH.put
  rw [List.take_set_of_le hi]
theorem AH.cut_n0 {h : AH} {m : Nat} (e : h.n = m) : h.cut m = h := by subst e; exact h.cut_all

/-! ### letting go, as it is reckoned -/
/-- h' is h but for what has been made since -/
def Old (h h' : AH) : Prop := h.n ≤ h'.n ∧ ∀ k, k < h.n → h'.g k = h.g k
theorem Old.refl {h : AH} : Old h h := ⟨Nat.le_refl _, fun _ _ => rfl⟩
theorem Old.new {h h' : AH} (a : Old h h') (o : AO) : Old h (h'.new o) := ⟨by rw [AH.new_n]; exact Nat.le_succ_of_le a.1, fun k hk => (AH.new_ne (by have := a.1; omega)).trans (a.2 k hk)⟩
theorem Old.put {h h' : AH} (a : Old h h') {i : Nat} (hi : h.n ≤ i) (o : AO) : Old h (h'.put i o) := ⟨by rw [AH.put_n]; exact a.1, fun k hk => (AH.put_ne (by omega)).trans (a.2 k hk)⟩
theorem Old.trans {h h1 h2 : AH} (a : Old h h1) (b : Old h1 h2) : Old h h2 := ⟨Nat.le_trans a.1 b.1, fun k hk => (b.2 k (Nat.lt_of_lt_of_le hk a.1)).trans (a.2 k hk)⟩
theorem Old.cut {h h' : AH} (a : Old h h') : h'.cut h.n = h := AH.ext fun k => by
  rw [AH.cut_g]
  split
  · rename_i hk; exact a.2 k hk
  · rename_i hk; exact (AH.g_none (by omega)).symm
theorem Old.tells {h h' : AH} (a : Old h h') : Tells h h' := ⟨a.1, fun k hk => .inl (a.2 k hk)⟩
/-- a result that tells of nothing new -/
theorem gc_old {h h' : AH} {d d' : D} (a : Old h h') (e : frz h h' d = some d') : gcR h (.ok d h') = .ok d' h := by
  unfold gcR
  simp only [if_pos a.tells, e, a.cut]
theorem gc_same {h : AH} {d : D} (e : d.und h.n = true) : gcR h (.ok d h) = .ok d h := by
  refine gc_old .refl ?_
  have other : ∀ {d : D}, d.und h.n = true → (if d.und h.n = true then some d else none) = some d := fun e => if_pos e
  cases d with
  | ref k =>
    have hk : k < h.n := by simpa only [D.und, decide_eq_true_eq] using e
    simp only [frz, if_neg (Nat.not_le.mpr hk)]
  | non => exact other e
  | bl _ => exact other e
  | int _ => exact other e
  | str _ => exact other e
  | tup _ => exact other e
  | lst _ => exact other e
  | fz _ => exact other e
  | cst _ => exact other e
  | obj _ _ _ => exact other e
theorem gc_st {h : AH} : gcR h .st = .st := rfl
/-- .. an object of the old ones written -/
theorem gc_put {h h' : AH} {d d' : D} {b : Nat} {o o0 : AO} (hb : h.g b = some o0) (ho : o.und h.n = true) (a : Old (h.put b o) h') (e : frz (h.put b o) h' d = some d') : gcR h (.ok d h') = .ok d' (h.put b o) := by
  have n0 : (h.put b o).n = h.n := AH.put_n ..
  have T : Tells h h' := by
    refine ⟨by rw [← n0]; exact a.1, fun k hk => ?_⟩
    have := a.2 k (by rw [n0]; exact hk)
    rw [AH.put_if hb] at this
    by_cases z : k = b
    · rw [if_pos z] at this; exact .inr ⟨o, this, ho⟩
    · rw [if_neg z] at this; exact .inl this
  have f : frz h h' d = frz (h.put b o) h' d := by
    cases d <;> simp only [frz, n0]
  unfold gcR
  simp only [if_pos T, f, e]
  rw [← n0, a.cut]
mutual
theorem und_mono {n m : Nat} (h : n ≤ m) : ∀ {d : D}, d.und n = true → d.und m = true
  | .tup xs, e => undL_mono h (by simpa only [D.und] using e)
  | .lst xs, e => undL_mono h (by simpa only [D.und] using e)
  | .fz xs, e => undL_mono h (by simpa only [D.und] using e)
  | .obj _ _ xs, e => undL_mono h (by simpa only [D.und] using e)
  | .ref k, e => by
    simp only [D.und, decide_eq_true_eq] at e ⊢
    omega
  | .non, _ => rfl
  | .bl _, _ => rfl
  | .int _, _ => rfl
  | .str _, _ => rfl
  | .cst _, _ => rfl
theorem undL_mono {n m : Nat} (h : n ≤ m) : ∀ {ds : List D}, D.undL n ds = true → D.undL m ds = true
  | [], _ => rfl
  | d :: ds, e => by
    simp only [D.undL, Bool.and_eq_true] at e ⊢
    exact ⟨und_mono h e.1, undL_mono h e.2⟩
end
theorem und0 {d : D} (h : d.und 0 = true) (n : Nat) : d.und n = true := und_mono (Nat.zero_le n) h
theorem undL_all {n : Nat} : ∀ {ds : List D}, (∀ d ∈ ds, d.und n = true) → D.undL n ds = true
  | [], _ => rfl
  | d :: ds, h => by
    simp only [D.undL, Bool.and_eq_true]
    exact ⟨h d List.mem_cons_self, undL_all fun x hx => h x (List.mem_cons_of_mem _ hx)⟩
theorem undL_map {α : Type} {n : Nat} {f : α → D} (h : ∀ a, (f a).und n = true) (l : List α) : D.undL n (l.map f) = true := undL_all fun d hd => by
  obtain ⟨a, _, rfl⟩ := List.mem_map.mp hd
  exact h a
theorem undL_mem {n : Nat} : ∀ {ds : List D}, D.undL n ds = true → ∀ d ∈ ds, d.und n = true
  | [], _, d, hd => by cases hd
  | x :: ds, h, d, hd => by
    simp only [D.undL, Bool.and_eq_true] at h
    rcases List.mem_cons.mp hd with rfl | hd
    · exact h.1
    · exact undL_mem h.2 d hd
theorem fnG_old {ar n : Nat} {b : MS} {ds : List D} {h h' : AH} {r r' : D} (e : fnM ar n b ds h = .ok r h') (a : Old h h') (f : frz h h' r = some r') : fnG ar n b ds h = .ok r' h := by
  unfold fnG
  rw [e]
  exact gc_old a f
theorem frz_und {h h' : AH} {d : D} (e : d.und h.n = true) : frz h h' d = some d := by
  have other : ∀ {d : D}, d.und h.n = true → (if d.und h.n = true then some d else none) = some d := fun e => if_pos e
  cases d with
  | ref k =>
    have hk : k < h.n := by simpa only [D.und, decide_eq_true_eq] using e
    simp only [frz, if_neg (Nat.not_le.mpr hk)]
  | non => exact other e
  | bl _ => exact other e
  | int _ => exact other e
  | str _ => exact other e
  | tup _ => exact other e
  | lst _ => exact other e
  | fz _ => exact other e
  | cst _ => exact other e
  | obj _ _ _ => exact other e
/-- a def that leaves the heap as it was -/
theorem fnG_pure {ar n : Nat} {b : MS} {ds : List D} {h h' : AH} {r : D} (e : fnM ar n b ds h = .ok r h') (a : Old h h') (u : r.und h.n = true) : fnG ar n b ds h = .ok r h := fnG_old e a (frz_und u)
theorem fnG_same {ar n : Nat} {b : MS} {ds : List D} {h : AH} {r : D} (e : fnM ar n b ds h = .ok r h) (u : r.und h.n = true) : fnG ar n b ds h = .ok r h := fnG_pure e .refl u
/-- a def that writes one object, ints or the like -/
theorem fnG_put {ar n : Nat} {b : MS} {ds : List D} {h h' : AH} {r : D} {i : Nat} {o o0 : AO} (e : fnM ar n b ds h = .ok r h') (hb : h.g i = some o0) (ho : o.und h.n = true) (a : Old (h.put i o) h') (u : r.und h.n = true) : fnG ar n b ds h = .ok r (h.put i o) := by
  unfold fnG
  rw [e]
  exact gc_put hb ho a (frz_und (by rw [AH.put_n]; exact u))
/-- a def that raises, nothing written -/
theorem fnG_ex {ar n : Nat} {b : MS} {ds : List D} {h h' : AH} {x : Ex} (e : fnM ar n b ds h = .ex x h') (a : Old h h') (u : undF h.n x.fs = true) : fnG ar n b ds h = .ex x h := by
  unfold fnG gcR
  rw [e]
  simp only [if_pos (And.intro a.tells u), a.cut]
/-- a new instance of a class that isn't written behind its making -/
theorem make_obj {h h' : AH} {c : Nat} {fs : List (Str × D)} (hi : h'.g h.n = some (.ins c fs)) (hc : immC c = true) (hf : undF h.n fs = true) (a : Old h h') : gcR h (.ok (.ref h.n) h') = .ok (.obj c (fs.map (·.1)) (fs.map (·.2))) h :=
  gc_old a (by simp only [frz, Nat.le_refl, if_true, hi, hc, hf, Bool.and_self])

/-- an index known to lie in a list of four, of three, .. -/
theorem atI_0 {α : Type} (a : α) (l : List α) : atI (a :: l) 0 = some a := atI_nat (j := 0) rfl
theorem atI_get {α : Type} {l : List α} {i : Nat} {a : α} (h : l[i]? = some a) : atI l (i : Int) = some a := atI_nat h

/-- a for loop that goes to its end -/
theorem forL_all {ok : AH → Bool} {g : MG} {b : MS} (P : Nat → Sl → AH → Prop) (hok : ∀ i s h, P i s h → ok h = true) :
    ∀ (xs : List D) (i : Nat) (s : Sl) (h : AH), P i s h → (∀ j x s h, xs[j]? = some x → P (i + j) s h → ∃ s1 h1 s2 h2, g x s h = some (s1, h1) ∧ (b s1 h1 = .nx s2 h2 ∨ b s1 h1 = .ct s2 h2) ∧ P (i + j + 1) s2 h2) →
      ∃ s' h', forL ok g b xs s h = .nx s' h' ∧ P (i + xs.length) s' h'
  | [], i, s, h, p, _ => ⟨s, h, by simp [forL, hok i s h p], p⟩
  | x :: xs, i, s, h, p, st => by
    obtain ⟨s1, h1, s2, h2, e1, e2, p2⟩ := st 0 x s h rfl p
    obtain ⟨s', h', e, q⟩ := forL_all P hok xs (i + 1) s2 h2 p2 (fun j y s h hy hp => by
      have := st (j + 1) y s h (by simpa using hy) (by rw [show i + (j + 1) = i + 1 + j by omega]; exact hp)
      rw [show i + (j + 1) + 1 = i + 1 + j + 1 by omega] at this
      exact this)
    refine ⟨s', h', ?_, by rw [List.length_cons, show i + (xs.length + 1) = i + 1 + xs.length by omega]; exact q⟩
    simp only [forL, hok i s h p, if_pos rfl, e1]
    rcases e2 with e2 | e2 <;> (rw [e2]; exact e)
theorem rng_len (lo hi : Int) : (rng lo hi).length = (hi - lo).toNat := by simp [rng]
theorem rng_get {lo hi : Int} {j : Nat} {x : D} (h : (rng lo hi)[j]? = some x) : x = .int (lo + (j : Nat)) ∧ (j : Int) < hi - lo := by
  have hj : j < (hi - lo).toNat := by
    rw [← rng_len lo hi]
    exact (List.getElem?_eq_some_iff.mp h).1
  simp only [rng, List.getElem?_map, List.getElem?_range hj, Option.map_some, Option.some.injEq] at h
  exact ⟨h.symm, by omega⟩
/-- a for loop over a range -/
theorem forR {g : MG} {b : MS} {lo hi : Int} (P : Int → Sl → AH → Prop) {s : Sl} {h : AH} (hl : lo ≤ hi) (p : P lo s h)
    (st : ∀ i s h, lo ≤ i → i < hi → P i s h → ∃ s1 h1 s2 h2, g (.int i) s h = some (s1, h1) ∧ (b s1 h1 = .nx s2 h2 ∨ b s1 h1 = .ct s2 h2) ∧ P (i + 1) s2 h2) :
    ∃ s' h', forL (fun _ => true) g b (rng lo hi) s h = .nx s' h' ∧ P hi s' h' := by
  obtain ⟨s', h', e, q⟩ := forL_all (ok := fun _ => true) (g := g) (b := b) (fun j s h => P (lo + (j : Nat)) s h) (fun _ _ _ _ => rfl) (rng lo hi) 0 s h (by simpa using p) (fun j x s h hx hp => by
    obtain ⟨rfl, hj⟩ := rng_get hx
    rw [Nat.zero_add] at hp
    obtain ⟨s1, h1, s2, h2, e1, e2, p2⟩ := st _ s h (by omega) (by omega) hp
    exact ⟨s1, h1, s2, h2, e1, e2, by rw [Nat.zero_add]; push_cast; rw [← Int.add_assoc]; exact p2⟩)
  refine ⟨s', h', e, ?_⟩
  rw [Nat.zero_add, rng_len] at q
  rw [show lo + ((hi - lo).toNat : Nat) = hi by omega] at q
  exact q

theorem ixN_0 (n : Nat) : ixN (n + 1) 0 = some 0 := by rw [ixN, if_pos (by omega), if_pos (by omega)]; rfl
theorem ixN_1 (n : Nat) : ixN (n + 2) 1 = some 1 := by rw [ixN, if_pos (by omega), if_pos (by omega)]; rfl
theorem ixN_2 (n : Nat) : ixN (n + 3) 2 = some 2 := by rw [ixN, if_pos (by omega), if_pos (by omega)]; rfl
theorem ixN_3 (n : Nat) : ixN (n + 4) 3 = some 3 := by rw [ixN, if_pos (by omega), if_pos (by omega)]; rfl
theorem ixN_4 (n : Nat) : ixN (n + 5) 4 = some 4 := by rw [ixN, if_pos (by omega), if_pos (by omega)]; rfl
theorem ixN_5 (n : Nat) : ixN (n + 6) 5 = some 5 := by rw [ixN, if_pos (by omega), if_pos (by omega)]; rfl
theorem ixN_6 (n : Nat) : ixN (n + 7) 6 = some 6 := by rw [ixN, if_pos (by omega), if_pos (by omega)]; rfl
theorem ixN_7 (n : Nat) : ixN (n + 8) 7 = some 7 := by rw [ixN, if_pos (by omega), if_pos (by omega)]; rfl
theorem ixN_8 (n : Nat) : ixN (n + 9) 8 = some 8 := by rw [ixN, if_pos (by omega), if_pos (by omega)]; rfl
theorem ixN_9 (n : Nat) : ixN (n + 10) 9 = some 9 := by rw [ixN, if_pos (by omega), if_pos (by omega)]; rfl
theorem ixN_10 (n : Nat) : ixN (n + 11) 10 = some 10 := by rw [ixN, if_pos (by omega), if_pos (by omega)]; rfl
theorem ixN_11 (n : Nat) : ixN (n + 12) 11 = some 11 := by rw [ixN, if_pos (by omega), if_pos (by omega)]; rfl
theorem ixN_12 (n : Nat) : ixN (n + 13) 12 = some 12 := by rw [ixN, if_pos (by omega), if_pos (by omega)]; rfl
theorem ixN_13 (n : Nat) : ixN (n + 14) 13 = some 13 := by rw [ixN, if_pos (by omega), if_pos (by omega)]; rfl
theorem ixN_m1 (n : Nat) : ixN (n + 1) (-1) = some n := by rw [ixN, if_neg (by omega), if_pos (by omega)]; congr 1; omega
theorem ixN_nat {n j : Nat} (h : j < n) : ixN n (j : Int) = some j := by simp [ixN, h]
theorem isi_ii : isiB "int" "int" = true := by decide
theorem isi_ib : isiB "int" "bool" = false := by decide
theorem isi_bi : isiB "bool" "int" = true := by decide
theorem isi_bb : isiB "bool" "bool" = true := by decide
theorem isi_ni : isiB "NoneType" "int" = false := by decide
theorem isi_si : isiB "str" "int" = false := by decide
theorem isi_ti : isiB "tuple" "int" = false := by decide
theorem isi_li : isiB "list" "int" = false := by decide
theorem isi_ss : isiB "str" "str" = true := by decide
theorem isi_is : isiB "int" "str" = false := by decide
theorem isi_tt : isiB "tuple" "tuple" = true := by decide
theorem ne_true_f : (false = true) = False := by simp
end MP
set_option Elab.async false
set_option linter.all false
set_option maxRecDepth 100000
set_option maxHeartbeats 4000000
/-! mirrors: the bag of numbers that the laws draw from -/
namespace MP
open PySem PySem.Spec L2
def b_take : MS := (sSeq (sIf (tstB (eBin pGt (eBin pIx (eVar 0) (eC (.int 0))) (eC (.int 0)))) (sSeq (sSet 2 (eBin pMod (eBin pIx (eVar 0) (eC (.int 0))) (eVar 1))) (sSeq (sAsg (eBin pDiv (eBin pIx (eVar 0) (eC (.int 0))) (eVar 1)) (gIx (eVar 0) (eC (.int 0)))) (sRet (eVar 2)))) (sNil)) (sSeq (sSet 3 (eTup (aCons (eC (.int 2147483647)) (aCons (eC (.int 2147483629)) (aCons (eC (.int 2147483587)) (aCons (eC (.int 2147483579)) (aCons (eC (.int 2147483563)) (aCons (eC (.int 2147483549)) (aCons (eC (.int 2147483543)) (aCons (eC (.int 2147483497)) (aNil))))))))))) (sSeq (sAsg (eBin pAdd (eBin pIx (eVar 0) (eC (.int 2))) (eC (.int 1))) (gIx (eVar 0) (eC (.int 2)))) (sSeq (sSet 4 (eBin pIx (eVar 0) (eC (.int 2)))) (sSeq (sSet 5 (eBin pAdd (eBin pMulA (eBin pAdd (eBin pIx (eVar 0) (eC (.int 1))) (eC (.int 1))) (eBin pAdd (eBin pMulA (eC (.int 2)) (eVar 4)) (eC (.int 3)))) (eBin pMulA (eBin pMulA (eC (.int 6007)) (eVar 4)) (eVar 4)))) (sSeq (sSet 6 (eBin pMod (eBin pPow (eVar 5) (eC (.int 3))) (eBin pIx (eVar 3) (eBin pMod (eVar 4) (eC (.int 8)))))) (sRet (eBin pMod (eBin pDiv (eBin pMod (eBin pMulA (eVar 6) (eBin pAdd (eBin pDiv (eVar 6) (eC (.int 8192))) (eC (.int 11)))) (eBin pIx (eVar 3) (eBin pMod (eBin pAdd (eVar 4) (eC (.int 3))) (eC (.int 8))))) (eC (.int 32))) (eVar 1)))))))))
def b_bagA : MS := (sSeq (sSet 2 (eBin pAdd (eBin pMulA (eC (.int 5081)) (eVar 1)) (eC (.int 3)))) (sSeq (sIf (tstB (eBin pLt (eVar 1) (eFn fLen (aCons (eVar 0) (aNil))))) (sSet 2 (eBin pIx (eVar 0) (eVar 1))) (sNil)) (sRet (eLstN (aCons (eBin pMulA (eFn fAbs (aCons (eVar 2) (aNil))) (eFn fInt (aCons (eBin pGe (eFn fAbs (aCons (eVar 2) (aNil))) (eBin pPow (eC (.int 10)) (eC (.int 18)))) (aNil)))) (aCons (eBin pAdd (eBin pMod (eVar 2) (eC (.int 2147483587))) (eBin pMulA (eC (.int 40009)) (eVar 1))) (aCons (eC (.int 0)) (aNil))))))))
def b_bagB : MS := (sSeq (sSet 2 (eBin pAdd (eBin pMulA (eC (.int 5081)) (eVar 1)) (eC (.int 3)))) (sSeq (sIf (tstB (eBin pLt (eVar 1) (eFn fLen (aCons (eVar 0) (aNil))))) (sSet 2 (eBin pIx (eVar 0) (eVar 1))) (sNil)) (sRet (eLstN (aCons (eBin pMulA (eFn fAbs (aCons (eVar 2) (aNil))) (eFn fInt (aCons (eBin pGe (eFn fAbs (aCons (eVar 2) (aNil))) (eBin pPow (eC (.int 10)) (eC (.int 18)))) (aNil)))) (aCons (eBin pAdd (eBin pMod (eVar 2) (eC (.int 1000000000000000003))) (eBin pMulA (eC (.int 40009)) (eVar 1))) (aCons (eC (.int 0)) (aNil))))))))

noncomputable def f_take : MF := fnG 2 7 b_take
noncomputable def f_bagA : MF := fnG 2 3 b_bagA
noncomputable def f_bagB : MF := fnG 2 3 b_bagB
theorem pMul_ok {h : AH} {i j : Int} (c : (-18446744073709551616 < i ∧ i < 18446744073709551616) ∨ (-18446744073709551616 < j ∧ j < 18446744073709551616)) : pMul h (.int i) (.int j) = some (.int (i * j)) := by
  unfold pMul
  dsimp only
  rw [if_pos (by simpa using c)]
theorem pDiv_ok {h : AH} {i j : Int} (c : 0 < j ∧ j < 2 ^ 200) : pDiv h (.int i) (.int j) = some (.int (i / j)) := by
  unfold pDiv
  dsimp only
  rw [if_pos c]
theorem pMod_ok {h : AH} {i j : Int} (c : 0 < j) : pMod h (.int i) (.int j) = some (.int (i % j)) := by
  unfold pMod
  dsimp only
  rw [if_pos c]
theorem pPow_ok {h : AH} {i j : Int} (c : 0 ≤ j ∧ j ≤ 1000) (d : i.natAbs < 2 ^ 200) : pPow h (.int i) (.int j) = some (.int (i ^ j.toNat)) := by
  unfold pPow
  dsimp only
  rw [if_pos ⟨c.1, c.2, d⟩]
/-- what a bag holds -/
abbrev BagC := Int × Int × Int
def bagO (β : BagC) : AO := .lst [.int β.1, .int β.2.1, .int β.2.2]
theorem bagO_und (n : Nat) (β : BagC) : (bagO β).und n = true := rfl
/-- so many were mixed at most -/
structure OkB (k : Int) (β : BagC) : Prop where
  a : 0 ≤ β.1
  b : 0 ≤ β.2.1
  c : β.2.1 < 2305843009213693952
  d : 0 ≤ β.2.2
  e : β.2.2 ≤ k
theorem OkB.mono {k k' : Int} {β : BagC} (B : OkB k β) (h : k ≤ k') : OkB k' β := ⟨B.a, B.b, B.c, B.d, Int.le_trans B.e h⟩
theorem base_le {y z : Int} (h2 : 0 ≤ y) (h3 : y < 2305843009213693952) (h4 : 0 ≤ z) (h5 : z < 1073741824) : ((y + 1) * (2 * z + 3) + 6007 * z * z).natAbs < 2 ^ 200 := by
  have a : (y + 1) * (2 * z + 3) ≤ 2305843009213693952 * (2 * 1073741824 + 3) := Int.mul_le_mul (by omega) (by omega) (by omega) (by omega)
  have a0 : 0 ≤ (y + 1) * (2 * z + 3) := Int.mul_nonneg (by omega) (by omega)
  have b : 6007 * z * z ≤ (6007 * 1073741824) * 1073741824 := Int.mul_le_mul (by omega) (by omega) (by omega) (by omega)
  have b0 : 0 ≤ 6007 * z * z := Int.mul_nonneg (by omega) (by omega)
  have e : (2:Nat) ^ 200 = 1606938044258990275541962092341162602522202993782792835301376 := by decide
  rw [e]
  omega
theorem atI_1 {α : Type} (a b : α) (l : List α) : atI (a :: b :: l) 1 = some b := atI_nat (j := 1) rfl
theorem atI_2 {α : Type} (a b c : α) (l : List α) : atI (a :: b :: c :: l) 2 = some c := atI_nat (j := 2) rfl
theorem atI_3 {α : Type} (a b c d : α) (l : List α) : atI (a :: b :: c :: d :: l) 3 = some d := atI_nat (j := 3) rfl
theorem primes_at (z : Int) : ∃ p : Int, atI [D.int 2147483647, .int 2147483629, .int 2147483587, .int 2147483579, .int 2147483563, .int 2147483549, .int 2147483543, .int 2147483497] (z % 8) = some (.int p) ∧ 2147483497 ≤ p ∧ p ≤ 2147483647 := by
  have h : z % 8 = 0 ∨ z % 8 = 1 ∨ z % 8 = 2 ∨ z % 8 = 3 ∨ z % 8 = 4 ∨ z % 8 = 5 ∨ z % 8 = 6 ∨ z % 8 = 7 := by omega
  rcases h with h | h | h | h | h | h | h | h <;> (rw [h]; exact ⟨_, rfl, by decide, by decide⟩)
theorem take_ok {β : BagC} {k n : Int} (B : OkB k β) (hk : k < 1000000000) (hn : 0 < n) (hn2 : n < 2 ^ 200) :
    ∃ r β', (∀ h b, h.g b = some (bagO β) → f_take [.ref b, .int n] h = .ok (.int r) (h.put b (bagO β'))) ∧ 0 ≤ r ∧ r < n ∧ OkB (k + 1) β' := by
  obtain ⟨x, y, z⟩ := β
  obtain ⟨h1, h2, h3, h4, h5⟩ := B
  dsimp only at h1 h2 h3 h4 h5
  by_cases hx : 0 < x
  · have hd : ∀ h, pDiv h (.int x) (.int n) = some (.int (x / n)) := fun h => pDiv_ok ⟨hn, hn2⟩
    have hm : ∀ h, pMod h (.int x) (.int n) = some (.int (x % n)) := fun h => pMod_ok hn
    refine ⟨x % n, (x / n, y, z), fun h b e1 => ?_, Int.emod_nonneg _ (by omega), Int.emod_lt_of_pos _ hn, ⟨Int.ediv_nonneg h1 (by omega), h2, h3, h4, Int.le_trans h5 (by omega)⟩⟩
    refine fnG_put ?_ e1 rfl .refl rfl
    unfold bagO at e1 ⊢
    simp (disch := omega) only [fnM, eVar, eC, eBin, eUn, aNil, aCons, eTup, eLst, eLstN, eFn, eIf, eFld, eCall, eMeth, eMake, insOf, tst, tstB, MP.tAnd, MP.tOr, MP.tNot, eAnd, eOr, eNot, eChain, truth, optR, Res.bind, Res.bindS, sNil, sSeq, sExp, sRet, sRetN, sIf, sAsg, sSet, sPar, MP.sFld, MP.sFldAug, sFor, nxO, gNm, gFld, gIx, setIx, setFld, gsNil, gsCons, gTp, gLs, MP.iRng1, MP.iRng2, iSeq, iLst, MP.iTup, seqL, seqM, seqT, seqX, eIsi, tyName, isi_ii, isi_ib, isi_bi, isi_bb, isi_ni, isi_si, isi_ss, isi_is, isi_tt, isi_ti, isi_li, pAdd, pSub, pMulA_int, pMul_ok, pDiv_ok, pMod_ok, pNeg, pLt, pLe, pGt, pGe, pEq, pNe, pEqB, sEq, pIs, pIsNot, MP.isNon, pIx, fAbs, fMax2, fMin2, fInt, fLen, gSel, pick, AH.put_g, AH.put_n, AH.new_g, AH.new_n, AH.put_put, AH.new_put, List.length_cons, List.length_nil, List.map_cons, List.map_nil, List.cons_append, List.nil_append, List.append_nil, List.replicate, List.getElem?_cons_zero, List.getElem?_cons_succ, List.getElem?_nil, List.set_cons_zero, List.set_cons_succ, List.flatMap_cons, List.flatMap_nil, List.drop_zero, List.drop_succ_cons, List.drop_nil, List.take_succ_cons, List.take_zero, List.take_nil, List.contains_cons, List.contains_nil, Bool.or_false, Bool.or_true, Bool.true_or, Bool.false_or, Bool.and_true, Bool.and_false, Bool.not_true, Bool.not_false, beq_self_eq_true, Nat.reduceAdd, Nat.reduceSub, Nat.reduceLeDiff, Nat.reduceLT, Nat.reduceEqDiff, Nat.reduceBEq, Int.reduceToNat, ↓reduceIte, reduceIte, Bool.false_eq_true, ne_true_f, decide_eq_true_eq, and_self, and_true, true_and, Nat.zero_le, Option.map_some, Option.map_none, Option.bind_some, Int.reduceLT, Int.reduceLE, Int.reduceNeg, decide_true, decide_false, ixN_0, ixN_1, ixN_2, ixN_3, ixN_m1, atI_1, atI_2, atI_3, eq_self, Option.some.injEq, false_and, atI_0, Nat.zero_add, Nat.add_zero, pMulA_int, b_take, e1, hx, hd, hm, atI, ixN_0, Option.bind_some]
  · obtain ⟨p, hp, p1, p2⟩ := primes_at (z + 1)
    obtain ⟨q, hq, q1, q2⟩ := primes_at (z + 1 + 3)
    have u0 := Int.emod_nonneg (((y + 1) * (2 * (z + 1) + 3) + 6007 * (z + 1) * (z + 1)) ^ 3) (show p ≠ 0 by omega)
    have u1 := Int.emod_lt_of_pos (((y + 1) * (2 * (z + 1) + 3) + 6007 * (z + 1) * (z + 1)) ^ 3) (show 0 < p by omega)
    generalize hB : ((y + 1) * (2 * (z + 1) + 3) + 6007 * (z + 1) * (z + 1)) ^ 3 % p = g at u0 u1
    have v0 := Int.emod_nonneg (g * (g / 8192 + 11)) (show q ≠ 0 by omega)
    have v1 := Int.emod_lt_of_pos (g * (g / 8192 + 11)) (show 0 < q by omega)
    have pw : ∀ h, pPow h (.int ((y + 1) * (2 * (z + 1) + 3) + 6007 * (z + 1) * (z + 1))) (.int 3) = some (.int (((y + 1) * (2 * (z + 1) + 3) + 6007 * (z + 1) * (z + 1)) ^ 3)) := fun h => pPow_ok (by decide) (base_le h2 h3 (by omega) (by omega))
    have m1 : ∀ h, pMul h (.int (y + 1)) (.int (2 * (z + 1) + 3)) = some (.int ((y + 1) * (2 * (z + 1) + 3))) := fun h => pMul_ok (by omega)
    have m2 : ∀ h, pMul h (.int (6007 * (z + 1))) (.int (z + 1)) = some (.int (6007 * (z + 1) * (z + 1))) := fun h => pMul_ok (by omega)
    have m3 : ∀ h, pMul h (.int g) (.int (g / 8192 + 11)) = some (.int (g * (g / 8192 + 11))) := fun h => pMul_ok (by omega)
    have m4 : ∀ h i, pMul h (.int 2) (.int i) = some (.int (2 * i)) := fun h i => pMul_ok (by omega)
    have m5 : ∀ h i, pMul h (.int 6007) (.int i) = some (.int (6007 * i)) := fun h i => pMul_ok (by omega)
    have e8 : ∀ h i, pMod h (.int i) (.int 8) = some (.int (i % 8)) := fun h i => pMod_ok (by decide)
    have ep : ∀ h i, pMod h (.int i) (.int p) = some (.int (i % p)) := fun h i => pMod_ok (by omega)
    have eq : ∀ h i, pMod h (.int i) (.int q) = some (.int (i % q)) := fun h i => pMod_ok (by omega)
    have en : ∀ h i, pMod h (.int i) (.int n) = some (.int (i % n)) := fun h i => pMod_ok hn
    have d1 : ∀ h i, pDiv h (.int i) (.int 8192) = some (.int (i / 8192)) := fun h i => pDiv_ok (by decide)
    have d2 : ∀ h i, pDiv h (.int i) (.int 32) = some (.int (i / 32)) := fun h i => pDiv_ok (by decide)
    refine ⟨g * (g / 8192 + 11) % q / 32 % n, (x, y, z + 1), fun h b e1 => ?_, Int.emod_nonneg _ (by omega), Int.emod_lt_of_pos _ hn, ⟨h1, h2, h3, by dsimp only; omega, by dsimp only; omega⟩⟩
    refine fnG_put ?_ e1 rfl .refl rfl
    unfold bagO at e1 ⊢
    simp (disch := omega) only [fnM, eVar, eC, eBin, eUn, aNil, aCons, eTup, eLst, eLstN, eFn, eIf, eFld, eCall, eMeth, eMake, insOf, tst, tstB, MP.tAnd, MP.tOr, MP.tNot, eAnd, eOr, eNot, eChain, truth, optR, Res.bind, Res.bindS, sNil, sSeq, sExp, sRet, sRetN, sIf, sAsg, sSet, sPar, MP.sFld, MP.sFldAug, sFor, nxO, gNm, gFld, gIx, setIx, setFld, gsNil, gsCons, gTp, gLs, MP.iRng1, MP.iRng2, iSeq, iLst, MP.iTup, seqL, seqM, seqT, seqX, eIsi, tyName, isi_ii, isi_ib, isi_bi, isi_bb, isi_ni, isi_si, isi_ss, isi_is, isi_tt, isi_ti, isi_li, pAdd, pSub, pMulA_int, pMul_ok, pDiv_ok, pMod_ok, pNeg, pLt, pLe, pGt, pGe, pEq, pNe, pEqB, sEq, pIs, pIsNot, MP.isNon, pIx, fAbs, fMax2, fMin2, fInt, fLen, gSel, pick, AH.put_g, AH.put_n, AH.new_g, AH.new_n, AH.put_put, AH.new_put, List.length_cons, List.length_nil, List.map_cons, List.map_nil, List.cons_append, List.nil_append, List.append_nil, List.replicate, List.getElem?_cons_zero, List.getElem?_cons_succ, List.getElem?_nil, List.set_cons_zero, List.set_cons_succ, List.flatMap_cons, List.flatMap_nil, List.drop_zero, List.drop_succ_cons, List.drop_nil, List.take_succ_cons, List.take_zero, List.take_nil, List.contains_cons, List.contains_nil, Bool.or_false, Bool.or_true, Bool.true_or, Bool.false_or, Bool.and_true, Bool.and_false, Bool.not_true, Bool.not_false, beq_self_eq_true, Nat.reduceAdd, Nat.reduceSub, Nat.reduceLeDiff, Nat.reduceLT, Nat.reduceEqDiff, Nat.reduceBEq, Int.reduceToNat, ↓reduceIte, reduceIte, Bool.false_eq_true, ne_true_f, decide_eq_true_eq, and_self, and_true, true_and, Nat.zero_le, Option.map_some, Option.map_none, Option.bind_some, Int.reduceLT, Int.reduceLE, Int.reduceNeg, decide_true, decide_false, ixN_0, ixN_1, ixN_2, ixN_3, ixN_m1, atI_1, atI_2, atI_3, eq_self, Option.some.injEq, false_and, atI_0, Nat.zero_add, Nat.add_zero, pMulA_int, b_take, e1, hx, ixN_0, ixN_1, ixN_2, atI_1, atI_2, hp, hq, hB, pw, m1, m2, m3, m4, m5, e8, ep, eq, en, d1, d2, decide_false]
theorem bagCore (c : Int) (a : Nat) (ha : a < 100000) {m : Int} (hm : 0 < m) (hm2 : m ≤ 1000000000000000003) :
    0 ≤ (if c < 0 then -c else c) * (if (1000000000000000000 ≤ (if c < 0 then -c else c)) then 1 else 0) ∧ 0 ≤ c % m + 40009 * (a : Int) ∧ c % m + 40009 * (a : Int) < 2305843009213693952 := by
  have u0 := Int.emod_nonneg c (show m ≠ 0 by omega)
  have u1 := Int.emod_lt_of_pos c hm
  refine ⟨?_, by omega, by omega⟩
  apply Int.mul_nonneg <;> split <;> omega
theorem pow10_18 (h : AH) : pPow h (.int 10) (.int 18) = some (.int 1000000000000000000) := by
  rw [pPow_ok (by decide) (by decide)]
  rfl
theorem bagMul (c : Int) (h : AH) (p : Prop) [Decidable p] : pMul h (.int c) (.int (if p then 1 else 0)) = some (.int (c * (if p then 1 else 0))) := pMul_ok (by split <;> omega)
def bagC (m c : Int) (a : Nat) : BagC := ((if c < 0 then -c else c) * (if 1000000000000000000 ≤ (if c < 0 then -c else c) then 1 else 0), c % m + 40009 * (a : Int), 0)
theorem bagC_ok {m c : Int} {a : Nat} (ha : a < 100000) (hm : 0 < m) (hm2 : m ≤ 1000000000000000003) : OkB 0 (bagC m c a) := by
  obtain ⟨b1, b2, b3⟩ := bagCore c a ha hm hm2
  exact ⟨b1, b2, b3, Int.le_refl _, Int.le_refl _⟩
theorem bag_new {b : MS} {ds : List D} {h : AH} {β : BagC} (e : fnM 2 3 b ds h = .ok (.ref h.n) (h.new (bagO β))) : fnG 2 3 b ds h = .ok (.ref h.n) (h.new (bagO β)) := by
  unfold fnG
  rw [e]
  unfold gcR
  have f : frz h (h.new (bagO β)) (.ref h.n) = none := by
    simp only [frz, Nat.le_refl, if_true, AH.new_g, bagO]
  simp only [f]
  split <;> rfl
theorem bagA_1 (c : Int) (ns : List Int) (a : Nat) (h : AH) (hc : atI (ns.map D.int) (a : Int) = some (.int c)) (hl2 : (a : Int) < (ns.length : Int)) : f_bagA [.fz (ns.map .int), .int a] h = .ok (.ref h.n) (h.new (bagO (bagC 2147483587 c a))) := by
  have m1 : ∀ h, pMul h (.int 5081) (.int a) = some (.int (5081 * (a : Int))) := fun h => pMul_ok (.inl (by decide))
  have m2 : ∀ h, pMul h (.int 40009) (.int a) = some (.int (40009 * (a : Int))) := fun h => pMul_ok (.inl (by decide))
  have m3 : ∀ h i, pMod h (.int i) (.int 2147483587) = some (.int (i % 2147483587)) := fun h i => pMod_ok (by decide)
  refine bag_new ?_
  unfold bagO bagC
  simp (disch := omega) only [fnM, eVar, eC, eBin, eUn, aNil, aCons, eTup, eLst, eLstN, eFn, eIf, eFld, eCall, eMeth, eMake, insOf, tst, tstB, MP.tAnd, MP.tOr, MP.tNot, eAnd, eOr, eNot, eChain, truth, optR, Res.bind, Res.bindS, sNil, sSeq, sExp, sRet, sRetN, sIf, sAsg, sSet, sPar, MP.sFld, MP.sFldAug, sFor, nxO, gNm, gFld, gIx, setIx, setFld, gsNil, gsCons, gTp, gLs, MP.iRng1, MP.iRng2, iSeq, iLst, MP.iTup, seqL, seqM, seqT, seqX, eIsi, tyName, isi_ii, isi_ib, isi_bi, isi_bb, isi_ni, isi_si, isi_ss, isi_is, isi_tt, isi_ti, isi_li, pAdd, pSub, pMulA_int, pDiv_ok, pNeg, pLt, pLe, pGt, pGe, pEq, pNe, pEqB, sEq, pIs, pIsNot, MP.isNon, pIx, fAbs, fMax2, fMin2, fInt, fLen, gSel, pick, AH.put_g, AH.put_n, AH.new_g, AH.new_n, AH.put_put, AH.new_put, List.length_cons, List.length_nil, List.map_cons, List.map_nil, List.cons_append, List.nil_append, List.append_nil, List.replicate, List.getElem?_cons_zero, List.getElem?_cons_succ, List.getElem?_nil, List.set_cons_zero, List.set_cons_succ, List.flatMap_cons, List.flatMap_nil, List.drop_zero, List.drop_succ_cons, List.drop_nil, List.take_succ_cons, List.take_zero, List.take_nil, List.contains_cons, List.contains_nil, Bool.or_false, Bool.or_true, Bool.true_or, Bool.false_or, Bool.and_true, Bool.and_false, Bool.not_true, Bool.not_false, beq_self_eq_true, Nat.reduceAdd, Nat.reduceSub, Nat.reduceLeDiff, Nat.reduceLT, Nat.reduceEqDiff, Nat.reduceBEq, Int.reduceToNat, ↓reduceIte, reduceIte, Bool.false_eq_true, ne_true_f, decide_eq_true_eq, and_self, and_true, true_and, Nat.zero_le, Option.map_some, Option.map_none, Option.bind_some, Int.reduceLT, Int.reduceLE, Int.reduceNeg, decide_true, decide_false, ixN_0, ixN_1, ixN_2, ixN_3, ixN_m1, atI_1, atI_2, atI_3, eq_self, Option.some.injEq, false_and, atI_0, Nat.zero_add, Nat.add_zero, pMulA_int, b_bagA, hc, hl2, List.length_map, bagMul, pow10_18, m1, m2, m3]
theorem bagA_2 (c : Int) (ns : List Int) (a : Nat) (h : AH) (hc : 5081 * (a : Int) + 3 = c) (hl2 : ¬ (a : Int) < (ns.length : Int)) : f_bagA [.fz (ns.map .int), .int a] h = .ok (.ref h.n) (h.new (bagO (bagC 2147483587 c a))) := by
  have m1 : ∀ h, pMul h (.int 5081) (.int a) = some (.int (5081 * (a : Int))) := fun h => pMul_ok (.inl (by decide))
  have m2 : ∀ h, pMul h (.int 40009) (.int a) = some (.int (40009 * (a : Int))) := fun h => pMul_ok (.inl (by decide))
  have m3 : ∀ h i, pMod h (.int i) (.int 2147483587) = some (.int (i % 2147483587)) := fun h i => pMod_ok (by decide)
  refine bag_new ?_
  unfold bagO bagC
  simp (disch := omega) only [fnM, eVar, eC, eBin, eUn, aNil, aCons, eTup, eLst, eLstN, eFn, eIf, eFld, eCall, eMeth, eMake, insOf, tst, tstB, MP.tAnd, MP.tOr, MP.tNot, eAnd, eOr, eNot, eChain, truth, optR, Res.bind, Res.bindS, sNil, sSeq, sExp, sRet, sRetN, sIf, sAsg, sSet, sPar, MP.sFld, MP.sFldAug, sFor, nxO, gNm, gFld, gIx, setIx, setFld, gsNil, gsCons, gTp, gLs, MP.iRng1, MP.iRng2, iSeq, iLst, MP.iTup, seqL, seqM, seqT, seqX, eIsi, tyName, isi_ii, isi_ib, isi_bi, isi_bb, isi_ni, isi_si, isi_ss, isi_is, isi_tt, isi_ti, isi_li, pAdd, pSub, pMulA_int, pDiv_ok, pNeg, pLt, pLe, pGt, pGe, pEq, pNe, pEqB, sEq, pIs, pIsNot, MP.isNon, pIx, fAbs, fMax2, fMin2, fInt, fLen, gSel, pick, AH.put_g, AH.put_n, AH.new_g, AH.new_n, AH.put_put, AH.new_put, List.length_cons, List.length_nil, List.map_cons, List.map_nil, List.cons_append, List.nil_append, List.append_nil, List.replicate, List.getElem?_cons_zero, List.getElem?_cons_succ, List.getElem?_nil, List.set_cons_zero, List.set_cons_succ, List.flatMap_cons, List.flatMap_nil, List.drop_zero, List.drop_succ_cons, List.drop_nil, List.take_succ_cons, List.take_zero, List.take_nil, List.contains_cons, List.contains_nil, Bool.or_false, Bool.or_true, Bool.true_or, Bool.false_or, Bool.and_true, Bool.and_false, Bool.not_true, Bool.not_false, beq_self_eq_true, Nat.reduceAdd, Nat.reduceSub, Nat.reduceLeDiff, Nat.reduceLT, Nat.reduceEqDiff, Nat.reduceBEq, Int.reduceToNat, ↓reduceIte, reduceIte, Bool.false_eq_true, ne_true_f, decide_eq_true_eq, and_self, and_true, true_and, Nat.zero_le, Option.map_some, Option.map_none, Option.bind_some, Int.reduceLT, Int.reduceLE, Int.reduceNeg, decide_true, decide_false, ixN_0, ixN_1, ixN_2, ixN_3, ixN_m1, atI_1, atI_2, atI_3, eq_self, Option.some.injEq, false_and, atI_0, Nat.zero_add, Nat.add_zero, pMulA_int, b_bagA, hc, hl2, List.length_map, bagMul, pow10_18, m1, m2, m3]
theorem bagA_ok (ns : List Int) (a : Nat) (ha : a < 100000) : ∃ β, (∀ h, f_bagA [.fz (ns.map .int), .int a] h = .ok (.ref h.n) (h.new (bagO β))) ∧ OkB 0 β := by
  by_cases hl : a < ns.length
  · have hg : (ns.map D.int)[a]? = some (.int ns[a]) := by simp [List.getElem?_eq_getElem hl]
    exact ⟨_, fun h => bagA_1 _ ns a h (atI_nat hg) (by omega), bagC_ok ha (by decide) (by decide)⟩
  · exact ⟨_, fun h => bagA_2 _ ns a h rfl (by omega), bagC_ok ha (by decide) (by decide)⟩
theorem bagB_1 (c : Int) (ns : List Int) (a : Nat) (h : AH) (hc : atI (ns.map D.int) (a : Int) = some (.int c)) (hl2 : (a : Int) < (ns.length : Int)) : f_bagB [.fz (ns.map .int), .int a] h = .ok (.ref h.n) (h.new (bagO (bagC 1000000000000000003 c a))) := by
  have m1 : ∀ h, pMul h (.int 5081) (.int a) = some (.int (5081 * (a : Int))) := fun h => pMul_ok (.inl (by decide))
  have m2 : ∀ h, pMul h (.int 40009) (.int a) = some (.int (40009 * (a : Int))) := fun h => pMul_ok (.inl (by decide))
  have m3 : ∀ h i, pMod h (.int i) (.int 1000000000000000003) = some (.int (i % 1000000000000000003)) := fun h i => pMod_ok (by decide)
  refine bag_new ?_
  unfold bagO bagC
  simp (disch := omega) only [fnM, eVar, eC, eBin, eUn, aNil, aCons, eTup, eLst, eLstN, eFn, eIf, eFld, eCall, eMeth, eMake, insOf, tst, tstB, MP.tAnd, MP.tOr, MP.tNot, eAnd, eOr, eNot, eChain, truth, optR, Res.bind, Res.bindS, sNil, sSeq, sExp, sRet, sRetN, sIf, sAsg, sSet, sPar, MP.sFld, MP.sFldAug, sFor, nxO, gNm, gFld, gIx, setIx, setFld, gsNil, gsCons, gTp, gLs, MP.iRng1, MP.iRng2, iSeq, iLst, MP.iTup, seqL, seqM, seqT, seqX, eIsi, tyName, isi_ii, isi_ib, isi_bi, isi_bb, isi_ni, isi_si, isi_ss, isi_is, isi_tt, isi_ti, isi_li, pAdd, pSub, pMulA_int, pDiv_ok, pNeg, pLt, pLe, pGt, pGe, pEq, pNe, pEqB, sEq, pIs, pIsNot, MP.isNon, pIx, fAbs, fMax2, fMin2, fInt, fLen, gSel, pick, AH.put_g, AH.put_n, AH.new_g, AH.new_n, AH.put_put, AH.new_put, List.length_cons, List.length_nil, List.map_cons, List.map_nil, List.cons_append, List.nil_append, List.append_nil, List.replicate, List.getElem?_cons_zero, List.getElem?_cons_succ, List.getElem?_nil, List.set_cons_zero, List.set_cons_succ, List.flatMap_cons, List.flatMap_nil, List.drop_zero, List.drop_succ_cons, List.drop_nil, List.take_succ_cons, List.take_zero, List.take_nil, List.contains_cons, List.contains_nil, Bool.or_false, Bool.or_true, Bool.true_or, Bool.false_or, Bool.and_true, Bool.and_false, Bool.not_true, Bool.not_false, beq_self_eq_true, Nat.reduceAdd, Nat.reduceSub, Nat.reduceLeDiff, Nat.reduceLT, Nat.reduceEqDiff, Nat.reduceBEq, Int.reduceToNat, ↓reduceIte, reduceIte, Bool.false_eq_true, ne_true_f, decide_eq_true_eq, and_self, and_true, true_and, Nat.zero_le, Option.map_some, Option.map_none, Option.bind_some, Int.reduceLT, Int.reduceLE, Int.reduceNeg, decide_true, decide_false, ixN_0, ixN_1, ixN_2, ixN_3, ixN_m1, atI_1, atI_2, atI_3, eq_self, Option.some.injEq, false_and, atI_0, Nat.zero_add, Nat.add_zero, pMulA_int, b_bagB, hc, hl2, List.length_map, bagMul, pow10_18, m1, m2, m3]
theorem bagB_2 (c : Int) (ns : List Int) (a : Nat) (h : AH) (hc : 5081 * (a : Int) + 3 = c) (hl2 : ¬ (a : Int) < (ns.length : Int)) : f_bagB [.fz (ns.map .int), .int a] h = .ok (.ref h.n) (h.new (bagO (bagC 1000000000000000003 c a))) := by
  have m1 : ∀ h, pMul h (.int 5081) (.int a) = some (.int (5081 * (a : Int))) := fun h => pMul_ok (.inl (by decide))
  have m2 : ∀ h, pMul h (.int 40009) (.int a) = some (.int (40009 * (a : Int))) := fun h => pMul_ok (.inl (by decide))
  have m3 : ∀ h i, pMod h (.int i) (.int 1000000000000000003) = some (.int (i % 1000000000000000003)) := fun h i => pMod_ok (by decide)
  refine bag_new ?_
  unfold bagO bagC
  simp (disch := omega) only [fnM, eVar, eC, eBin, eUn, aNil, aCons, eTup, eLst, eLstN, eFn, eIf, eFld, eCall, eMeth, eMake, insOf, tst, tstB, MP.tAnd, MP.tOr, MP.tNot, eAnd, eOr, eNot, eChain, truth, optR, Res.bind, Res.bindS, sNil, sSeq, sExp, sRet, sRetN, sIf, sAsg, sSet, sPar, MP.sFld, MP.sFldAug, sFor, nxO, gNm, gFld, gIx, setIx, setFld, gsNil, gsCons, gTp, gLs, MP.iRng1, MP.iRng2, iSeq, iLst, MP.iTup, seqL, seqM, seqT, seqX, eIsi, tyName, isi_ii, isi_ib, isi_bi, isi_bb, isi_ni, isi_si, isi_ss, isi_is, isi_tt, isi_ti, isi_li, pAdd, pSub, pMulA_int, pDiv_ok, pNeg, pLt, pLe, pGt, pGe, pEq, pNe, pEqB, sEq, pIs, pIsNot, MP.isNon, pIx, fAbs, fMax2, fMin2, fInt, fLen, gSel, pick, AH.put_g, AH.put_n, AH.new_g, AH.new_n, AH.put_put, AH.new_put, List.length_cons, List.length_nil, List.map_cons, List.map_nil, List.cons_append, List.nil_append, List.append_nil, List.replicate, List.getElem?_cons_zero, List.getElem?_cons_succ, List.getElem?_nil, List.set_cons_zero, List.set_cons_succ, List.flatMap_cons, List.flatMap_nil, List.drop_zero, List.drop_succ_cons, List.drop_nil, List.take_succ_cons, List.take_zero, List.take_nil, List.contains_cons, List.contains_nil, Bool.or_false, Bool.or_true, Bool.true_or, Bool.false_or, Bool.and_true, Bool.and_false, Bool.not_true, Bool.not_false, beq_self_eq_true, Nat.reduceAdd, Nat.reduceSub, Nat.reduceLeDiff, Nat.reduceLT, Nat.reduceEqDiff, Nat.reduceBEq, Int.reduceToNat, ↓reduceIte, reduceIte, Bool.false_eq_true, ne_true_f, decide_eq_true_eq, and_self, and_true, true_and, Nat.zero_le, Option.map_some, Option.map_none, Option.bind_some, Int.reduceLT, Int.reduceLE, Int.reduceNeg, decide_true, decide_false, ixN_0, ixN_1, ixN_2, ixN_3, ixN_m1, atI_1, atI_2, atI_3, eq_self, Option.some.injEq, false_and, atI_0, Nat.zero_add, Nat.add_zero, pMulA_int, b_bagB, hc, hl2, List.length_map, bagMul, pow10_18, m1, m2, m3]
theorem bagB_ok (ns : List Int) (a : Nat) (ha : a < 100000) : ∃ β, (∀ h, f_bagB [.fz (ns.map .int), .int a] h = .ok (.ref h.n) (h.new (bagO β))) ∧ OkB 0 β := by
  by_cases hl : a < ns.length
  · have hg : (ns.map D.int)[a]? = some (.int ns[a]) := by simp [List.getElem?_eq_getElem hl]
    exact ⟨_, fun h => bagB_1 _ ns a h (atI_nat hg) (by omega), bagC_ok ha (by decide) (by decide)⟩
  · exact ⟨_, fun h => bagB_2 _ ns a h rfl (by omega), bagC_ok ha (by decide) (by decide)⟩
end MP
set_option Elab.async false
set_option linter.all false
set_option maxRecDepth 100000
/-! mirrors: what repr can tell -/
namespace MP
open PySem PySem.Spec L2
/-- repr tells it: a text of so many signs at most, nested so deep at most -/
structure Sh (p : PyData) (n d : Nat) : Prop where
  s : p.showable = true
  k : p.hasDict = false
  l : p.shown.length ≤ n
  d : p.depth ≤ d
structure ShL (p : List PyData) (n d : Nat) : Prop where
  s : PyData.showableAll p = true
  k : PyData.hasDictAll p = false
  l : ((PyData.shownAll p).map (·.length)).sum + 2 * p.length ≤ n
  d : PyData.depthAll p ≤ d
theorem Sh.mono {p : PyData} {n d n' d' : Nat} (s : Sh p n d) (h : n ≤ n') (e : d ≤ d') : Sh p n' d' := ⟨s.s, s.k, Nat.le_trans s.l h, Nat.le_trans s.d e⟩
theorem ShL.mono {p : List PyData} {n d n' d' : Nat} (s : ShL p n d) (h : n ≤ n') (e : d ≤ d') : ShL p n' d' := ⟨s.s, s.k, Nat.le_trans s.l h, Nat.le_trans s.d e⟩
theorem Sh.int {i : Int} (h : i.natAbs < 100000000000000000000) : Sh (.int i) 21 0 := by
  refine ⟨?_, by simp [PyData.hasDict], ?_, by simp [PyData.depth]⟩
  · simp only [PyData.showable, decide_eq_true_eq]
    have : i.natAbs.log2 < 67 := PySem.Flt.log2_lt_of (by decide) (Nat.lt_trans h (by decide))
    omega
  · have e := int_text_length_le10 (a := i) (k := 20) (by decide) (Nat.lt_of_lt_of_le h (by decide))
    show (Str.ofString (toString i)).length ≤ 21
    rw [ofString_length]
    omega
theorem Sh.non : Sh .none 4 0 := ⟨by simp [PyData.showable], by simp [PyData.hasDict], by decide, by simp [PyData.depth]⟩
theorem Sh.bl (b : Bool) : Sh (.bool b) 5 0 := ⟨by simp [PyData.showable], by simp [PyData.hasDict], by cases b <;> decide, by simp [PyData.depth]⟩
theorem Sh.str {x : Str} {n : Nat} (h : ∀ c ∈ x.cps.toList, c < 16 ^ 8) (hn : x.length ≤ n) : Sh (.str x) (10 * n + 2) 0 := by
  refine ⟨by simp [PyData.showable], by simp [PyData.hasDict], ?_, by simp [PyData.depth]⟩
  have e := StrLaws.reprText_len x h
  simp only [PyData.shown]
  have : x.length = x.cps.size := rfl
  omega
theorem ShL.nil : ShL [] 0 0 := ⟨by simp [PyData.showableAll], by simp [PyData.hasDictAll], by simp [PyData.shownAll], by simp [PyData.depthAll]⟩
theorem ShL.cons {p : PyData} {ps : List PyData} {n d m e : Nat} (a : Sh p n d) (b : ShL ps m e) : ShL (p :: ps) (n + 2 + m) (max d e) := by
  refine ⟨by simp [PyData.showableAll, a.s, b.s], by simp [PyData.hasDictAll, a.k, b.k], ?_, ?_⟩
  · have := a.l
    have := b.l
    simp only [PyData.shownAll, List.map_cons, List.sum_cons, List.length_cons]
    omega
  · have := a.d
    have := b.d
    simp only [PyData.depthAll]
    omega
theorem ShL.all {ps : List PyData} {n d : Nat} (h : ∀ p ∈ ps, Sh p n d) : ShL ps ((n + 2) * ps.length) d := by
  induction ps with
  | nil => exact ShL.nil.mono (by omega) (by omega)
  | cons p ps ih =>
    exact (ShL.cons (h p List.mem_cons_self) (ih fun q hq => h q (List.mem_cons_of_mem _ hq))).mono (by rw [List.length_cons, Nat.mul_add]; omega) (by omega)
theorem Sh.lst {ps : List PyData} {n d : Nat} (a : ShL ps n d) : Sh (.list ps) (n + 3) (d + 1) := by
  refine ⟨by simp [PyData.showable, a.s], by simp [PyData.hasDict, a.k], ?_, ?_⟩
  · have := a.l
    have h2 := listText_len_le (PyData.shownAll ps)
    have h3 := PyData.shownAll_length ps
    simp only [PyData.shown]
    omega
  · have := a.d
    simp only [PyData.depth]
    omega
theorem Sh.tup {ps : List PyData} {n d : Nat} (a : ShL ps n d) : Sh (.tuple ps) (n + 3) (d + 1) := by
  refine ⟨by simp [PyData.showable, a.s], by simp [PyData.hasDict, a.k], ?_, ?_⟩
  · have := a.l
    have h2 := tupleText_len_le (PyData.shownAll ps)
    have h3 := PyData.shownAll_length ps
    simp only [PyData.shown]
    omega
  · have := a.d
    simp only [PyData.depth]
    omega
theorem repr_of {h : AH} {x : D} {p : PyData} {n d : Nat} (e : pd h x = some p) (a : Sh p n d) (hn : n ≤ 100000) (hd : d ≤ 20) : fRepr h [x] = some (.str p.shown) := by
  have := a.l
  have := a.d
  unfold fRepr
  simp only [e]
  rw [if_pos ⟨a.s, a.k, by omega, by omega⟩]
theorem eqb_self {h : AH} {x : D} {p : PyData} (e0 : sEq x x = none) (e : pd h x = some p) (a : SeqAt.shaped p = true) : pEqB h x x = some true := by
  unfold pEqB
  rw [e0]
  simp only [e]
  rw [if_pos ⟨a, a⟩]
  have hl : p.canLay0 = true := by
    unfold SeqAt.shaped at a
    exact (Bool.and_eq_true_iff.mp a).1
  rw [SeqAt.eqv_refl p hl]
theorem eqb_int (h : AH) (i j : Int) : pEqB h (.int i) (.int j) = some (i == j) := rfl
theorem eqb_str (h : AH) (i j : Str) : pEqB h (.str i) (.str j) = some (decide (i = j)) := rfl
theorem eqb_bl (h : AH) (i j : Bool) : pEqB h (.bl i) (.bl j) = some (i == j) := rfl
theorem eqb_ints2 (h : AH) (a b : Int) : pEqB h (.lst [.int a, .int b]) (.lst [.int a, .int b]) = some true :=
  eqb_self rfl (p := .list [.int a, .int b]) rfl (by simp [SeqAt.shaped, PyData.canLay0, PyData.canLayAll0, PyData.depth, PyData.depthAll])
theorem menu4 {α : Type} (a b c d : α) {r : Int} (h0 : 0 ≤ r) (h1 : r < 4) : ∃ x, atI [a, b, c, d] r = some x ∧ (x = a ∨ x = b ∨ x = c ∨ x = d) := by
  have h : r = 0 ∨ r = 1 ∨ r = 2 ∨ r = 3 := by omega
  rcases h with h | h | h | h <;> rw [h]
  · exact ⟨_, atI_0 .., by simp⟩
  · exact ⟨_, atI_1 .., by simp⟩
  · exact ⟨_, atI_2 .., by simp⟩
  · exact ⟨_, atI_3 .., by simp⟩
theorem menu3 {α : Type} (a b c : α) {r : Int} (h0 : 0 ≤ r) (h1 : r < 3) : ∃ x, atI [a, b, c] r = some x ∧ (x = a ∨ x = b ∨ x = c) := by
  have h : r = 0 ∨ r = 1 ∨ r = 2 := by omega
  rcases h with h | h | h <;> rw [h]
  · exact ⟨_, atI_0 .., by simp⟩
  · exact ⟨_, atI_1 .., by simp⟩
  · exact ⟨_, atI_2 .., by simp⟩
theorem menu2 {α : Type} (a b : α) {r : Int} (h0 : 0 ≤ r) (h1 : r < 2) : ∃ x, atI [a, b] r = some x ∧ (x = a ∨ x = b) := by
  have h : r = 0 ∨ r = 1 := by omega
  rcases h with h | h <;> rw [h]
  · exact ⟨_, atI_0 .., by simp⟩
  · exact ⟨_, atI_1 .., by simp⟩
theorem menu4i (a b c d : Int) {r : Int} (h0 : 0 ≤ r) (h1 : r < 4) : ∃ x : Int, atI [D.int a, .int b, .int c, .int d] r = some (.int x) ∧ (x = a ∨ x = b ∨ x = c ∨ x = d) := by
  obtain ⟨x, e, z⟩ := menu4 (D.int a) (.int b) (.int c) (.int d) h0 h1
  rcases z with rfl | rfl | rfl | rfl
  · exact ⟨_, e, by simp⟩
  · exact ⟨_, e, by simp⟩
  · exact ⟨_, e, by simp⟩
  · exact ⟨_, e, by simp⟩
theorem menu3i (a b c : Int) {r : Int} (h0 : 0 ≤ r) (h1 : r < 3) : ∃ x : Int, atI [D.int a, .int b, .int c] r = some (.int x) ∧ (x = a ∨ x = b ∨ x = c) := by
  obtain ⟨x, e, z⟩ := menu3 (D.int a) (.int b) (.int c) h0 h1
  rcases z with rfl | rfl | rfl
  · exact ⟨_, e, by simp⟩
  · exact ⟨_, e, by simp⟩
  · exact ⟨_, e, by simp⟩
theorem rngG {n : Int} (h : 0 ≤ n) (h2 : n < 1000000) : -2 ^ 62 ≤ n ∧ n < 2 ^ 62 := by omega
theorem pow10_10 (h : AH) : pPow h (.int 10) (.int 10) = some (.int 10000000000) := by
  rw [pPow_ok (by decide) (by decide)]
  rfl
theorem pow10_11 (h : AH) : pPow h (.int 10) (.int 11) = some (.int 100000000000) := by
  rw [pPow_ok (by decide) (by decide)]
  rfl
theorem pow10_6 (h : AH) : pPow h (.int 10) (.int 6) = some (.int 1000000) := by
  rw [pPow_ok (by decide) (by decide)]
  rfl
end MP
set_option Elab.async false
set_option linter.all false
set_option maxRecDepth 100000
set_option maxHeartbeats 4000000
/-! mirrors: the law's call -/
namespace MP
open PySem PySem.Spec L2
open PyProof.Rows hiding St

section
variable {X : Cx} {T : Nat → Addr} {W : WX} {e : Expr} {kws : List Keyword} {ma : ME} {ms : MA} {kpos : Pos} {nm : Option Str}
theorem k_nil : PK X [] (tA (Wd.mk X.K T) W aNil) := PKi pk_nil fun σ H Q ⟨c, s, h, R, S, o⟩ => o c [] H R (.refl R.sub) .nil
theorem k_cons (ha : PE X e (tM (Wd.mk X.K T) W ma)) (hr : PK X kws (tA (Wd.mk X.K T) W ms)) : PK X (⟨nm, e, kpos⟩ :: kws) (tA (Wd.mk X.K T) W (aCons ma ms)) :=
  PKi (pk_cons ha hr) fun σ H Q z => by
    obtain ⟨c, s, h, R, S, o⟩ := z
    refine ⟨c, s, h, R, S, (Out.bind (A := Rep (Wd.mk X.K T)) o).mono ?_⟩
    rintro v H1 ⟨c1, h1, x, R1, E1, r1, o1⟩
    refine ⟨c1, s, h1, R1, S.ext E1, (Out.bind (A := RepL (Wd.mk X.K T)) o1).mono ?_⟩
    rintro vs H2 ⟨c2, h2, xs, R2, E2, r2, o2⟩
    exact o2 c2 (v :: vs) H2 R2 (.refl R2.sub) (.cons (r1.ext E2) r2)
end
theorem rc_int {w : Wd} (i : Int) (c : Cf) : Rep w c (.int i) (.int i) := by simp [Rep]
theorem rc_str {w : Wd} (i : Str) (c : Cf) : Rep w c (.str i) (.str i) := by simp [Rep]
theorem rc_bl {w : Wd} (i : Bool) (c : Cf) : Rep w c (.bl i) (.bl i) := by simp [Rep]
theorem rc_non {w : Wd} (c : Cf) : Rep w c .non .non := by simp [Rep]
theorem rl0 {w : Wd} (c : Cf) : RepL w c [] [] := .nil
theorem rl_cons {w : Wd} {d : D} {v : V} {ds : List D} {vs : List V} (h : ∀ c, Rep w c d v) (hs : ∀ c, RepL w c ds vs) (c : Cf) : RepL w c (d :: ds) (v :: vs) := .cons (h c) (hs c)
theorem glob_int {X : Cx} {T : Nat → Addr} {W : WX} {x : Str} {i : Int} {pos : Pos} (hm : ∃ t, X.mg x = some (.int i t)) (hg : Gl X x := by rfl) (hd : (x == ("__debug__" : Str)) = false := by decide) : PE X (.Name x pos) (tM ⟨X.K, T⟩ W (eC (.int i))) := by
  obtain ⟨t, hm⟩ := hm
  exact r_glob (v := .int i) hm (rc_int i) ⟨t, rfl⟩ hg hd
theorem glob_str {X : Cx} {T : Nat → Addr} {W : WX} {x i : Str} {pos : Pos} (hm : ∃ t, X.mg x = some (.str i t)) (hg : Gl X x := by rfl) (hd : (x == ("__debug__" : Str)) = false := by decide) : PE X (.Name x pos) (tM ⟨X.K, T⟩ W (eC (.str i))) := by
  obtain ⟨t, hm⟩ := hm
  exact r_glob (v := .str i) hm (rc_str i) ⟨t, rfl⟩ hg hd

/-- the heap of the mirrors ahead of the law: nothing -/
def ah0 : AH := ⟨[]⟩
/-- where the script alone is told of -/
def cf0 (H : Hp) : Cf := ⟨0, fun _ => 0, H⟩
theorem rel0 (w : Wd) (H : Hp) : Rel w (cf0 H) ah0 H :=
  ⟨rfl, fun _ _ => by simp [AH.g, ah0], fun k hk => absurd (show k < 0 from hk) (Nat.not_lt_zero k), fun _ _ hj => absurd (show _ < 0 from hj) (Nat.not_lt_zero _), fun k o h => by simp [AH.g, ah0] at h, fun _ _ e => e⟩
theorem ints_rep {w : Wd} {c : Cf} : ∀ ns : List Int, RepL w c (ns.map D.int) (ns.map V.int)
  | [] => .nil
  | n :: ns => .cons (rc_int n c) (ints_rep ns)
theorem script_rep {w : Wd} {H : Hp} {a : Addr} {ns : List Int} (h : SqL w.K H a (ns.map V.int)) : Rep w (cf0 H) (.fz (ns.map .int)) (.ref a) := by
  simp only [Rep]
  refine ⟨a, _, rfl, ?_, ints_rep ns⟩
  rcases h with h | h
  · exact .inl ⟨h, fun k hk => absurd hk (Nat.not_lt_zero k)⟩
  · exact .inr (.inr h)
/-- the law's mirror is True -/
def LawTrue (m : MF) : Prop := ∀ ns : List Int, ns.length ≤ 63 → ∃ h, m [.fz (ns.map .int)] ah0 = .ok (.bl true) h

theorem run_law {P : Program} {w : World} {K : PySem.W.Frag} {T : Nat → Addr} {mg mb : Str → Option Value} {k : Nat} {fa a : Addr} {fd : FuncData} {x : Str} {m : MF} {s₁ : Shared} {vs : List Value} {ns : List Int}
    (KX : K.In s₁.heap) (hns : s₁.heap.Ns mainGlobals mg) (hb : s₁.heap.Ns builtinsNs mb) (hbb : ∀ x : Str, x ≠ "__name__" → mb x = bootBuiltins x) (hlim : s₁.heap.NoLimit) (hg : s₁.gens = #[])
    (ha : s₁.heap.get? a = some { cls := .type "list", data := .seq vs.toArray }) (hi : IntsAre vs ns) (hl : ns.length ≤ 63) (hr : Rm k callerA)
    (F : ∀ base : Heap, K.In base → base.Ns mainGlobals mg → Fn P w K T mg base k fa fd [x] m) (hbind : ∀ (s : Shared) (u : Value), BindsTo s fd ⟨[u], []⟩ [(x, u)]) (hm : LawTrue m) :
    codeAny (model P w) callerA (.call (.ref fa) ⟨[.ref a], []⟩) (fun r s' => r = .ok (.ret (.bool true)) ∧ OldK s₁.heap s'.heap ∧ s'.os = s₁.os ∧ AllBare s'.gens) s₁ := by
  have rv := vals_ints hi
  have hl2 : ns.length ≤ sizeLine := Nat.le_trans hl (by rw [sizeLine_eq]; decide)
  -- the abstract heap: the script, where it isn't the top's own
  have go : ∀ H : Hp, SqL K H a (ns.map V.int) → HOk P w H s₁.heap → (∀ b, H b ≠ none → b = a ∧ K.lookup a = none ∧ H b = some (.frz { cls := .type "list", data := .seq vs.toArray } (.lst (ns.map V.int)))) →
      codeAny (model P w) callerA (.call (.ref fa) ⟨[.ref a], []⟩) (fun r s' => r = .ok (.ret (.bool true)) ∧ OldK s₁.heap s'.heap ∧ s'.os = s₁.os ∧ AllBare s'.gens) s₁ := by
    intro H hS hok hA
    have off : ∀ b, b ≠ a → H b = none := fun b hb => Classical.byContradiction fun z => hb (hA b z).1
    have dict : ∀ {b : Addr} {mm : Str → Option Value}, s₁.heap.Ns b mm → (hidT s₁.heap H).Ns b mm := by
      rintro b mm ⟨o, es, ep, e, d, r⟩
      refine ⟨o, es, ep, hidT_get e (off b fun z => ?_), d, r⟩
      rw [z, ha] at e
      cases e
      cases d
    have hKb : K.In (hidT s₁.heap H) := fun b o e => hidT_get (KX b o e) (Classical.byContradiction fun z => by
      obtain ⟨e1, e2, _⟩ := hA b z
      rw [e1, e2] at e
      cases e)
    have e0 : Env0 P w K mg (hidT s₁.heap H) callerA [] s₁ H :=
      ⟨rfl, ⟨hKb, dict hns, ⟨mb, dict hb, hbb⟩, hlim.elim fun mc hc => ⟨mc, dict hc.1, hc.2⟩⟩, fun b o e => of_hidT e, Nat.le_of_eq (hidT_size _ _), trivial, fun b hb => (nomatch hb), hok, .of_eq hg⟩
    obtain ⟨hh, eh⟩ := hm ns hl
    have sp : spM ⟨K, T⟩ m [.ref a] H (fun v _ => v = .bl true) fun _ _ _ => False := by
      refine ⟨cf0 H, [.fz (ns.map .int)], ah0, rel0 _ H, .cons (script_rep hS) .nil, ?_⟩
      rw [eh]
      intro c' v H' _ _ r
      exact rp_bl r
    refine codeAny_mono ((F _ hKb (dict hns)).run callerA [] s₁ H ⟨[.ref a], []⟩ [.ref a] [.ref a] _ _ hr e0 (hbind s₁ (.ref a)) (.cons rfl .nil) sp) fun r s' h => ?_
    cases r with
    | error e =>
      obtain ⟨_, _, _, _, _, _, _, _, _, _, _, _, z⟩ := h
      exact z.elim
    | ok fl =>
      cases fl with
      | ret u =>
        obtain ⟨v, H', os, bare, un, hok', ru, rfl⟩ := h
        cases (show u = Value.bool true from ru)
        refine ⟨rfl, OldK.of_keep fun b o e => ?_, os, bare⟩
        cases q : H b with
        | none => exact un.keep b o e q (fun z => (nomatch z)) (fun z => (nomatch z))
        | some y =>
          obtain ⟨_, _, eb⟩ := hA b (by rw [q]; exact nofun)
          have o1 := (hok b _ eb).1
          have o2 := (hok' b _ (un.frzs b _ _ eb)).1
          rw [e] at o1
          cases o1
          exact o2
      | next => exact False.elim h
      | brk => exact False.elim h
      | cont => exact False.elim h
  cases hk : K.lookup a with
  | some o =>
    have e := KX a o hk
    rw [ha] at e
    cases e
    exact go (fun _ => none) (.inr ⟨_, vs.toArray, _, hk, rfl, rfl, rfl, by rw [List.size_toArray, hi.length]; exact hl2, by simpa using rv⟩) (fun b u z => (nomatch z)) fun b z => absurd rfl z
  | none =>
    refine go (fun b => if b = a then some (.frz { cls := .type "list", data := .seq vs.toArray } (.lst (ns.map V.int))) else none) (.inl (.inr ⟨_, if_pos rfl⟩)) (fun b u z => ?_) fun b z => ?_
    · have z : (if b = a then some _ else none) = some u := z
      by_cases hb : b = a
      · subst hb
        rw [if_pos rfl] at z
        cases z
        exact ⟨ha, by rw [List.length_map]; exact hl2, vs, _, rv, ha⟩
      · rw [if_neg hb] at z
        cases z
    · by_cases hb : b = a
      · exact ⟨hb, hk, if_pos hb⟩
      · exact absurd (if_neg hb) z
/-- the law's row, from its mirror -/
theorem walk_law {l : PySem.W.OpenLaw} {k : Nat} {q : Program} {loose : List Str} {XP : (Str → Option Value) → Heap → Prop} {YP : World → Heap → Prop} {d : DefRec} {x : Str} {m : MF}
    (hn : l.most = some 63) (hdf : d.params.defaults = []) (hr : Rm k callerA)
    (F : ∀ (w : World) (mg : Str → Option Value) (fa : Addr) (h : Heap), YP w h → h.Ns mainGlobals mg → mg d.name = some (.ref fa) →
      ∃ (K : PySem.W.Frag) (T : Nat → Addr) (fd : FuncData), K.In h ∧ (∀ (s : Shared) (u : Value), BindsTo s fd ⟨[u], []⟩ [(x, u)]) ∧ ∀ base : Heap, K.In base → base.Ns mainGlobals mg → Fn l.prog w K T mg base k fa fd [x] m)
    (hm : LawTrue m) : PySem.W.WalkO q loose XP YP l.row.toRowW d [] (fun f vs => PySem.call f vs) := by
  refine Att.attach_call hn hdf fun w s₀ s₁ mg mb fa o pm cd doc a vs ns G Y ho hd hcd hmg hobj hints hlen hg => ?_
  obtain ⟨K, T, fd, KX, hb, hF⟩ := F w mg fa _ Y G.T.g hmg
  exact run_law KX G.T.g G.T.b G.T.builtins G.T.nolimit hg hobj hints hlen hr hF hb hm
end MP
set_option Elab.async false
set_option linter.all false
set_option maxRecDepth 100000
set_option maxHeartbeats 4000000
/-! mirrors: own exceptions that bear fields, over any of Python's: made, raised, caught -/
namespace MP
open PySem PySem.Spec L2
open PyProof.Rows hiding St

/-- what is to be known of an own exception class at C over the built-in B -/
structure Xk (K : PySem.W.Frag) (C : Addr) (newId : String) (bmB : List Value) : Prop where
  ini : PySem.W.excInitIn K C bmB newId = true
  ovr : PySem.W.excOver K C bmB = true
  sa : PySem.W.findIn K (.ref C) "__setattr__" = some (some (.builtin "object.__setattr__"))
  dct : PySem.W.hasDictIn K C = true
  exC : PySem.W.subIn K (.ref C) (.type "BaseException") = some true
  tyC : PySem.W.typeIn K (.ref C) = some (.type "type")
  kC : PySem.W.keepIn K (.ref C) = true

section
variable {X : Cx} {pins : List (Addr × Obj)} {σ : L2.St} {H : Hp} {s : Shared} {a C dx : Addr} {f : Str} {y : V} {u : Value} {fs : List (Str × V)} {Q : Unit → Shared → Prop} {E : Value → Shared → Prop} {A : Around}
  {B newId : String} {bmB : List Value}
/-- the first field -/
theorem st_first (SF : StoreFacts B bmB "object.__setattr__" "object") (Z : Xk X.K C newId bmB) (I : Inv X pins σ H s) (e : H a = some (exo a C none)) (ht : PySem.W.takerIn X.K C f = some none) (ry : RelV y u)
    (h : ∀ d s', H d = none → d ≠ a → Inv X pins σ (upd (upd H d (exd d [(f, y)])) a (exo a C (some d))) s' → Q () s') : wpAny (model X.prog X.w) A (setAttr (.ref a) f u) Q E s := by
  obtain ⟨t1, ho⟩ := exo_at I.hok e
  obtain ⟨cd, hc, hd⟩ := PySem.W.any_some Z.dct
  obtain ⟨hp, g, dr, t, os⟩ := s
  refine PySem.W.set_plain I.kIn (ox := PySem.W.excObj C t1 none .none) (od := none) ⟨ho, rfl, rfl, trivial⟩ Z.sa ?_
  refine PySem.W.osa_openX (od := none) SF I.kIn ⟨ho, rfl, rfl, trivial⟩ Z.ovr ht fun b => ?_
  dsimp only
  unfold Builtin.ObjectAttr.storeInOwnDict Builtin.ObjectAttr.ownDictForStores
  refine wpAny_bind (wpAny_pure (wpAny_bind (PySem.W.instanceDict_exc ho (PySem.W.looks_clsIn I.kIn hc) hd ?_)))
  dsimp only
  have hxs : a ≠ hp.objs.size := Nat.ne_of_lt (Heap.lt_size ho)
  have ho1 : (hp.push (PySem.W.dictOf [] 0)).get? a = some (PySem.W.excObj C t1 none .none) := Heap.get?_push_of_some _ ho
  refine PySem.HandSPX.store_in_new ?_ fun h' tk' hn hs => ?_
  · exact ⟨_, #[], _, (Heap.get?_update_ne _ _ _ _ hxs.symm).trans (Heap.get?_push_at rfl rfl), rfl, fun e he => absurd he (by simp), fun _ => rfl⟩
  have hnd : H hp.objs.size = none := I.hok.fresh (Nat.le_refl _)
  have hna : ∀ {b : Addr}, H b = none → b ≠ a := fun {b} n z => by rw [z, e] at n; cases n
  have hxx : h'.get? a = some (PySem.W.excObj C t1 (some hp.objs.size) .none) := (hs.2 a hxs).trans (Heap.get?_update_self _ ho1 rfl)
  have keep : ∀ b o, b ≠ a → hp.get? b = some o → h'.get? b = some o := fun b o hb q =>
    (hs.2 b (Nat.ne_of_lt (Heap.lt_size q))).trans ((Heap.get?_update_ne _ _ _ _ hb).trans (Heap.get?_push_of_some _ q))
  have nd : ∀ {b : Addr} {o : Obj}, hp.get? b = some o → b ≠ hp.objs.size := fun {b o} q => Nat.ne_of_lt (Heap.lt_size q)
  refine h hp.objs.size _ hnd hxs.symm (I.un (t' := tk') {
    keep := fun b o q n _ _ => keep b o (hna n) q
    slot := fun b o q n _ _ => ⟨o.slots, keep b o (hna n) q⟩
    free := fun b o q n _ => (upd_ne (hna n)).trans ((upd_ne (nd q)).trans n)
    there := fun b o q _ => if z : b = a then ⟨_, z ▸ hxx⟩ else ⟨o, keep b o z q⟩
    tups := fun b xs q => (upd_ne (at_ne e q exo_tup)).trans ((upd_ne (ne_of_none q hnd)).trans q)
    frzs := fun b o v q => (upd_ne (at_ne e q exo_frz)).trans ((upd_ne (ne_of_none q hnd)).trans q)
    tbls := fun b ps q => ⟨#[], by rw [upd_ne (at_ne e q exo_tbl), upd_ne (ne_of_none q hnd), q]; simp⟩ } fun b o q => ?_)
  by_cases hb : b = a
  · rw [hb, upd_same] at q
    cases q
    rw [hb]
    exact exo_ok hxx
  rw [upd_ne hb] at q
  by_cases hbd : b = hp.objs.size
  · rw [hbd, upd_same] at q
    cases q
    rw [hbd]
    exact exd_ok hn (relO_put (fs := []) ry fun _ => True.intro)
  rw [upd_ne hbd] at q
  refine (I.hok b o q).stay (fun c v hc z => keep c v ?_ z) (fun c hc => ?_) fun c xs hc => ?_
  · rcases hc with hc | hc
    · exact hc ▸ hb
    · exact at_ne e hc exo_own
  · rw [upd_ne (at_ne e hc exo_own), upd_ne (ne_of_none hc hnd)]
    exact hc
  · rw [upd_ne (at_ne e hc exo_tup), upd_ne (ne_of_none hc hnd)]
    exact hc
/-- a further field -/
theorem st_next (SF : StoreFacts B bmB "object.__setattr__" "object") (Z : Xk X.K C newId bmB) (I : Inv X pins σ H s) (e : H a = some (exo a C (some dx))) (ed : H dx = some (exd dx fs)) (hl : fs.length ≤ 900) (ht : PySem.W.takerIn X.K C f = some none)
    (ry : RelV y u) (h : ∀ s', Inv X pins σ (upd H dx (exd dx ((f, y) :: fs))) s' → Q () s') : wpAny (model X.prog X.w) A (setAttr (.ref a) f u) Q E s := by
  obtain ⟨t1, ho⟩ := exo_at I.hok e
  obtain ⟨mA, hns, rel⟩ := exd_at I.hok ed
  have hw := within_of rel
  obtain ⟨cd, hc, hd⟩ := PySem.W.any_some Z.dct
  obtain ⟨hp, g, dr, t, os⟩ := s
  obtain ⟨oD, _, _, hoD, _, _⟩ := hns.count hw
  have J : PySem.W.InstAt hp a (PySem.W.excObj C t1 (some dx) .none) C (some oD) := ⟨ho, rfl, rfl, hoD⟩
  refine PySem.W.set_plain I.kIn J Z.sa ?_
  refine PySem.W.osa_openX SF I.kIn J Z.ovr ht fun b => ?_
  dsimp only
  unfold Builtin.ObjectAttr.storeInOwnDict Builtin.ObjectAttr.ownDictForStores
  unfold instanceDict
  refine wpAny_bind (wpAny_pure (wpAny_bind (wpAny_bind (wpAny_loadPart ho ?_))))
  dsimp only
  refine wpAny_bind ((PySem.W.looks_clsIn I.kIn hc).at ?_)
  rw [hd]
  refine wpAny_pure (a := some dx) ?_
  dsimp only
  refine PySem.OEX.store_in_old hns hw (by rw [List.length_map]; omega) fun h' tk' hn hs => ?_
  have there : ∃ o, h'.get? dx = some o := by
    obtain ⟨o, _, _, z, _⟩ := hn
    exact ⟨o, z⟩
  exact h _ (I.write (t' := tk') (x := dx) (e := dx) (o := exd dx ((f, y) :: fs)) (by rw [ed]; exact True.intro) (.inl rfl) (fun b o hb q => (hs.2 b hb).trans q) there (exd_ok hn (relO_put ry rel)))
end

/-- self.f = e, self the exception under way of the class C -/
def tXst (C : Addr) (f : Str) (to te : TE) : TS := fun D σ H => te σ H fun y H1 => to σ H1 fun x H2 => ∃ a, x = .ref a ∧
  ((H2 a = some (exo a C none) ∧ ∀ d, H2 d = none → d ≠ a → D.nx σ (upd (upd H2 d (exd d [(f, y)])) a (exo a C (some d)))) ∨
    ∃ dx fs, H2 a = some (exo a C (some dx)) ∧ H2 dx = some (exd dx fs) ∧ fs.length ≤ 900 ∧ D.nx σ (upd H2 dx (exd dx ((f, y) :: fs))))
theorem ps_xst {X : Cx} {B newId : String} {bmB : List Value} {C : Addr} {f : Str} {o e : Expr} {to te : TE} {p' pos : Pos} (SF : StoreFacts B bmB "object.__setattr__" "object") (Z : Xk X.K C newId bmB) (ht : PySem.W.takerIn X.K C f = some none)
    (ho : PE X o to) (he : PE X e te) (hs : swapsWith e (some (.Attribute o f p')) pos.line X.env = pure false := by rfl) : PS X (.Assign [.Attribute o f p'] e pos) (tXst C f to te) :=
  ⟨fun pins s σ H D I h => plainObj_wpAny_Assign_Attribute (thn (he.run pins s σ H _ I h) fun _ s1 ⟨y, H1, I1, r1, q1⟩ => thn (ho.run pins s1 σ H1 _ I1 q1) fun u s2 ⟨x, H2, I2, r2, a, ex, q⟩ => by
    subst ex
    obtain rfl : u = Value.ref a := r2
    rcases q with ⟨ea, q⟩ | ⟨dx, fs, ea, ed, hl, q⟩
    · exact st_first SF Z I2 ea ht r1 fun d s' n ne J => ⟨σ, _, J, q d n ne⟩
    · exact st_next SF Z I2 ea ed hl ht r1 fun s' J => ⟨σ, _, J, q⟩) hs⟩
/-- what such a class's __init__ does: its fields fs are set to the arguments, one by one -/
def spXi (C : Addr) (fs : List Str) : Sp := fun vs H Q _ => ∃ a ws, vs = .ref a :: ws ∧ ws.length = fs.length ∧ H a = some (exo a C none) ∧
  ∀ d, H d = none → d ≠ a → Q .non (upd (upd H d (exd d (fs.zip ws).reverse)) a (exo a C (some d)))
section
variable {P : Program} {w : World} {K : PySem.W.Frag} {mg : Str → Option Value} {base : Heap} {B newId : String} {bmB : List Value} {C f : Addr} {fd : FuncData} {params : Arguments} {scope : Scope} {dvs : List V} {kws : List (Str × V)} {a1 a2 a3 a4 b1 b2 b3 b4 : Pos} {S P1 P2 f1 f2 : Str} {x ql : Str}
theorem init1_ok (SF : StoreFacts B bmB "object.__setattr__" "object") (Z : Xk K C newId bmB) (h1 : PySem.W.takerIn K C f1 = some none)
    (F : FunD K x ql params [.Assign [.Attribute (.Name S a1) f1 a2] (.Name P1 a3) a4] scope dvs kws f fd) (sc : FnScope [S, P1] [S, P1] scope) (vS : Vis scope S) (v1 : Vis scope P1)
    (dS : (S == ("__debug__" : Str)) = false := by decide) (cS : (S == ("__classdict__" : Str)) = false := by decide) (d1 : (P1 == ("__debug__" : Str)) = false := by decide) (c1 : (P1 == ("__classdict__" : Str)) = false := by decide)
    (hs : ∀ env, swapsWith (.Name P1 a3) (some (.Attribute (.Name S a1) f1 a2)) a4.line env = pure false := by intro _; rfl) :
    FnOk P w K mg base (L2.CX P w) 1 f fd [S, P1] (spXi C [f1]) :=
  F.ok sc (fun vs H Q E ⟨a, ws, e1, e2, _⟩ => by rw [e1, List.length_cons, e2]; rfl) fun cdv A outer s H vs Q E hr ⟨a, ws, e1, e2, ea, q⟩ => by
    subst e1
    match ws, e2 with
    | [y], _ =>
      refine ⟨_, pss_one (ps_xst (X := cxOf (L2.CX P w) P w K mg base [S, P1] ql scope f cdv A outer s H E) SF Z h1 (pe_var (i := 0) rfl vS dS cS) (pe_var (i := 1) rfl v1 d1 c1) (hs _)), ?_⟩
      exact ⟨y, rfl, .ref a, rfl, a, rfl, .inl ⟨ea, fun d n ne => q d n ne⟩⟩
theorem init2_ok (SF : StoreFacts B bmB "object.__setattr__" "object") (Z : Xk K C newId bmB) (h1 : PySem.W.takerIn K C f1 = some none) (h2 : PySem.W.takerIn K C f2 = some none)
    (F : FunD K x ql params [.Assign [.Attribute (.Name S a1) f1 a2] (.Name P1 a3) a4, .Assign [.Attribute (.Name S b1) f2 b2] (.Name P2 b3) b4] scope dvs kws f fd) (sc : FnScope [S, P1, P2] [S, P1, P2] scope) (vS : Vis scope S) (v1 : Vis scope P1) (v2 : Vis scope P2)
    (dS : (S == ("__debug__" : Str)) = false := by decide) (cS : (S == ("__classdict__" : Str)) = false := by decide) (d1 : (P1 == ("__debug__" : Str)) = false := by decide) (c1 : (P1 == ("__classdict__" : Str)) = false := by decide)
    (d2 : (P2 == ("__debug__" : Str)) = false := by decide) (c2 : (P2 == ("__classdict__" : Str)) = false := by decide)
    (hs : ∀ env, swapsWith (.Name P1 a3) (some (.Attribute (.Name S a1) f1 a2)) a4.line env = pure false := by intro _; rfl)
    (hs2 : ∀ env, swapsWith (.Name P2 b3) (some (.Attribute (.Name S b1) f2 b2)) b4.line env = pure false := by intro _; rfl) :
    FnOk P w K mg base (L2.CX P w) 1 f fd [S, P1, P2] (spXi C [f1, f2]) :=
  F.ok sc (fun vs H Q E ⟨a, ws, e1, e2, _⟩ => by rw [e1, List.length_cons, e2]; rfl) fun cdv A outer s H vs Q E hr ⟨a, ws, e1, e2, ea, q⟩ => by
    subst e1
    match ws, e2 with
    | [y, z], _ =>
      refine ⟨_, pss_cons (ps_xst (X := cxOf (L2.CX P w) P w K mg base [S, P1, P2] ql scope f cdv A outer s H E) SF Z h1 (pe_var (i := 0) rfl vS dS cS) (pe_var (i := 1) rfl v1 d1 c1) (hs _)) (pss_one
        (ps_xst (X := cxOf (L2.CX P w) P w K mg base [S, P1, P2] ql scope f cdv A outer s H E) SF Z h2 (pe_var (i := 0) rfl vS dS cS) (pe_var (i := 2) rfl v2 d2 c2) (hs2 _))), ?_⟩
      refine ⟨y, rfl, .ref a, rfl, a, rfl, .inl ⟨ea, fun d n ne => ?_⟩⟩
      refine ⟨z, rfl, .ref a, rfl, a, rfl, .inr ⟨d, [(f1, y)], upd_same, ?_, by show 1 ≤ 900; decide, ?_⟩⟩
      · rw [upd_ne ne, upd_same]
      · have e : upd (upd (upd H d (exd d [(f1, y)])) a (exo a C (some d))) d (exd d [(f2, z), (f1, y)]) = upd (upd H d (exd d [(f2, z), (f1, y)])) a (exo a C (some d)) := by
          funext b
          by_cases hb : b = d
          · rw [hb, upd_same, upd_ne ne, upd_same]
          · rw [upd_ne hb]
            by_cases ha : b = a
            · rw [ha, upd_same, upd_same]
            · rw [upd_ne ha, upd_ne ha, upd_ne hb, upd_ne hb]
        rw [e]
        exact q d n ne
end

/-- C(e, ..): the exception with its fields -/
def tXmk (C : Addr) (fs : List Str) (ta : TA) : L2.St → Hp → XK → Prop := fun σ H Q => ta σ H fun vs H1 => vs.length = fs.length ∧ ∀ d, H1 d = none → Q (.ref C) (some d) (upd H1 d (.xd (fs.zip vs).reverse))
section
variable {X : Cx} {B newId initId : String} {bmB : List Value} {C fI : Addr} {k : Nat} {fd : FuncData} {ps fs : List Str} {x : Str} {p pos : Pos} {e : Expr} {es : List Expr} {ta : TA}
theorem pmk_x (FB : ExcBaseFacts B newId initId bmB) (Z : Xk X.K C newId bmB) (iC : PySem.W.findIn X.K (.ref C) "__init__" = some (some (.ref fI))) (tI : PySem.W.typeIn X.K (.ref fI) = some (.type "function"))
    (F1 : FnOk X.prog X.w X.K X.mg X.base (L2.CX X.prog X.w) k fI fd ps (spXi C fs)) (hr : Room (k + 1) X.A) (hps : ps.length = fs.length + 1) (hfs : fs.length ≤ 900) (hb : Binds X.K fd ps []) (hg : Gl X x) (hm : X.mg x = some (.ref C)) (ha : PA X (e :: es) ta)
    (hdb : (x == ("__debug__" : Str)) = false := by decide) (he : starEach (e :: es) X.env = (false, eval e X.env) :: starEach es X.env := by rfl) (hpl : (backTo pos (starEach es X.env)).any (·.1) = false := by rfl) :
    PMk X (.Call (.Name x p) (e :: es) [] pos) (tXmk C fs ta) := fun pins s σ H Q I h => by
  refine wpAny_Call_Name_kw (ld_glob I hg hm ?_ hdb)
  refine PySem.W.callWith_K (h₀ := X.base) I.ok.mod.kin Z.kC (thn (ha.run pos pins s σ H _ I h) fun us s1 ⟨vs, H1, I1, r1, hl, q1⟩ => ⟨I1.kIn, ?_⟩) he hpl
  obtain ⟨nm, N', qn, bs, bm, hdct, sn, sub, ab, col, dd, k0, k1, k2, k3, k5, hC, hT⟩ := PySem.W.excInit_of I1.kIn Z.ini
  show wpAny _ _ (call (.ref C) us) _ _ _
  obtain ⟨hp, g, dr, tk, os⟩ := s1
  have hsz : hp.objs.size ≤ hp.objs.size + 1 := Nat.le_succ _
  have n1 : H1 (hp.objs.size + 1) = none := I1.hok.fresh hsz
  have grow : ∀ b o, hp.get? b = some o → ((hp.push (PySem.W.kdv_tup us)).push (PySem.HandSPX.excO C hp.objs.size)).get? b = some o := fun b o z => Heap.get?_push_of_some _ (Heap.get?_push_of_some _ z)
  have new : ((hp.push (PySem.W.kdv_tup us)).push (PySem.HandSPX.excO C hp.objs.size)).get? (hp.objs.size + 1) = some (PySem.HandSPX.excO C hp.objs.size) := by heap_get
  have I2 := I1.laid (t' := tk) (a := hp.objs.size + 1) (o := exo (hp.objs.size + 1) C none) (h' := (hp.push (PySem.W.kdv_tup us)).push (PySem.HandSPX.excO C hp.objs.size)) grow hsz (exo_ok new)
  have lus : us.length = fs.length := (Paired.length r1).symm.trans hl
  have sz : us.length ≤ sizeLine := by rw [lus, sizeLine_eq]; omega
  have r2 : Vals (V.ref (hp.objs.size + 1) :: vs) (Value.ref (hp.objs.size + 1) :: us) := .cons rfl r1
  have bnd := hb ⟨(hp.push (PySem.W.kdv_tup us)).push (PySem.HandSPX.excO C hp.objs.size), g, dr, tk, os⟩ (Value.ref (hp.objs.size + 1) :: us) I2.kIn (by rw [List.append_nil, List.length_cons, lus, hps])
  rw [List.append_nil] at bnd
  refine wpAny_call (PySem.HandSPX.call_own FB hT hC (PySem.W.looks_findIn I1.kIn iC) (fun self => PySem.W.bind_fn I1.kIn self tI) sz (codeAny_mono (F1.run _ X.stack _ _ ⟨Value.ref (hp.objs.size + 1) :: us, []⟩ _ _
    (fun v H2 => v = .non ∧ ∃ d, H1 d = none ∧ d ≠ hp.objs.size + 1 ∧ H2 = upd (upd (upd H1 (hp.objs.size + 1) (exo (hp.objs.size + 1) C none)) d (exd d (fs.zip vs).reverse)) (hp.objs.size + 1) (exo (hp.objs.size + 1) C (some d)))
    (fun _ _ _ => False) (hr.make C us []) (I2.env0.make C us []) bnd r2 ⟨_, vs, rfl, hl, upd_same, fun d n ne => ⟨rfl, d, by rw [upd_ne ne] at n; exact n, ne, rfl⟩⟩) fun r s' z => ?_))
  cases r with
  | error er =>
    obtain ⟨_, _, _, _, _, _, _, _, _, _, _, _, bad⟩ := z
    exact bad.elim
  | ok fl =>
    cases fl with
    | ret u =>
      obtain ⟨v, H2, os2, bare2, un2, hok2, rv, ev, d, hd1, dne, rfl⟩ := z
      subst ev
      obtain ⟨h2, g2, d2, t2, os'⟩ := s'
      have ed : upd (upd (upd H1 (hp.objs.size + 1) (exo (hp.objs.size + 1) C none)) d (exd d (fs.zip vs).reverse)) (hp.objs.size + 1) (exo (hp.objs.size + 1) C (some d)) d = some (exd d (fs.zip vs).reverse) := by rw [upd_ne dne, upd_same]
      have heq : upd (del (upd (upd (upd H1 (hp.objs.size + 1) (exo (hp.objs.size + 1) C none)) d (exd d (fs.zip vs).reverse)) (hp.objs.size + 1) (exo (hp.objs.size + 1) C (some d))) (hp.objs.size + 1)) d (.xd (fs.zip vs).reverse) = upd H1 d (.xd (fs.zip vs).reverse) := by
        funext b
        by_cases hb : b = d
        · rw [hb, upd_same, upd_same]
        · rw [upd_ne hb, upd_ne hb]
          by_cases hb2 : b = hp.objs.size + 1
          · rw [hb2, del_same, n1]
          · rw [del_ne hb2, upd_ne hb2, upd_ne hb, upd_ne hb2]
      exact ⟨rv, mk_end (raises_own Z.exC Z.tyC) I1 hsz grow un2 hok2 os2 bare2 upd_same ed hd1 (by rw [heq]; exact q1 d hd1)⟩
    | next => exact False.elim z
    | brk => exact False.elim z
    | cont => exact False.elim z
end
/-- raise C(e, ..) -/
def sRaise (cl : Nat) (fs : List Str) (a : MA) : MS := fun s h => (a s h).bindS s fun xs h1 => if xs.length = fs.length then .ex ⟨cl, (fs.zip xs).reverse⟩ s h1 else .st
/-- raise C('..'), C without own __init__ -/
def sRaise0 (cl : Nat) : MS := fun s h => .ex ⟨cl, []⟩ s h
theorem repKV_append {w : Wd} {c : Cf} {κ : Type} : ∀ {l1 l2 : List (κ × D)} {v1 v2 : List (κ × V)}, RepKV w c l1 v1 → RepKV w c l2 v2 → RepKV w c (l1 ++ l2) (v1 ++ v2)
  | [], l2, v1, v2, r1, r2 => by
    obtain rfl : v1 = [] := by simpa [RepKV] using r1
    exact r2
  | d :: l1, l2, v1, v2, r1, r2 => by
    simp only [RepKV] at r1
    obtain ⟨x, xs, rfl, a, b⟩ := r1
    exact ⟨x, _, rfl, a, repKV_append b r2⟩
theorem repKV_zip {w : Wd} {c : Cf} : ∀ {fs : List Str} {xs : List D} {vs : List V}, RepL w c xs vs → xs.length = fs.length → RepKV w c (fs.zip xs).reverse (fs.zip vs).reverse
  | [], xs, vs, r, h => by simp [RepKV]
  | f :: fs, [], vs, r, h => by simp at h
  | f :: fs, d :: xs, vs, r, h => by
    simp only [RepL] at r
    obtain ⟨x, ys, rfl, a, b⟩ := r
    simp only [List.zip_cons_cons, List.reverse_cons]
    exact repKV_append (repKV_zip b (by simpa using h)) ⟨x, [], rfl, a, rfl⟩
section
variable {X : Cx} {W : WX} {T : Nat → Addr} {B newId initId : String} {bmB : List Value} {fI : Addr} {k cl : Nat} {fd : FuncData} {ps fs : List Str} {x m : Str} {p p2 pos pos2 : Pos} {e : Expr} {es : List Expr} {ma : MA} {j : Nat}
theorem s_raise (tn : T cl ≠ 0 ∧ cl < 18) (hc : X.calm = true) (tk : Takes X W) (hm : PMk X e (tXmk (T cl) fs (tA (Wd.mk X.K T) W ma))) : PS X (.Raise (some e) none pos) (tS (Wd.mk X.K T) W (sRaise cl fs ma)) :=
  PSi (ps_raise hc tk hm) fun D σ H ⟨c, s, h, R, S, o⟩ => ⟨c, s, h, R, S, (by
    simp only [sRaise] at o
    cases q : ma s h with
    | ok xs h1 =>
      rw [q] at o
      refine fun c1 vs H1 R1 E1 r1 => ?_
      by_cases hl : xs.length = fs.length
      · have o' : OutS (Wd.mk X.K T) c H W D (.ex ⟨cl, (fs.zip xs).reverse⟩ s h1) := by simpa only [Res.bindS, if_pos hl] using o
        refine ⟨r1.len.symm.trans hl, fun d hd => ?_⟩
        obtain ⟨R2, E2⟩ := R1.lay (u := .xd (fs.zip vs).reverse) hd (fun a v z => (upd_ne (ne_of_none z hd)).trans z) upd_same
        exact o' _ _ _ σ _ R2 (E1.trans E2) ((S.ext E1).ext E2) ⟨⟨rfl, tn⟩, .inr ⟨d, _, rfl, upd_same, R1.noidNew hd, repKV_zip (r1.ext E2) hl⟩⟩
      · have o' : OutS (Wd.mk X.K T) c H W D .st := by simpa only [Res.bindS, if_neg hl] using o
        exact o'.elim
    | ex e h' =>
      rw [q] at o
      exact fun c' cls dd H' R' E' r' => o c' cls dd σ H' R' E' (S.ext E') r'
    | st => rw [q] at o; exact o.elim)⟩
theorem s_raise0 (tn : T cl ≠ 0 ∧ cl < 18) (hc : X.calm = true) (tk : Takes X W) (F : ExcBaseFacts B newId initId bmB) (q : PySem.W.excIn X.K (T cl) bmB newId = true) (gC : X.mg x = some (.ref (T cl))) (kC : PySem.W.keepIn X.K (.ref (T cl)) = true)
    (h1 : PySem.W.subIn X.K (.ref (T cl)) (.type "BaseException") = some true) (h2 : PySem.W.typeIn X.K (.ref (T cl)) = some (.type "type")) (hg : Gl X x) (hdb : (x == ("__debug__" : Str)) = false := by decide) :
    PS X (.Raise (some (.Call (.Name x p) [.Constant (.str m) j p2] [] pos)) none pos2) (tS (Wd.mk X.K T) W (sRaise0 cl)) :=
  PSi (ps_raise hc tk (pmk_own F q gC kC (raises_own h1 h2) hg hdb)) fun D σ H ⟨c, s, h, R, S, o⟩ => o c _ none σ H R (.refl R.sub) S ⟨⟨rfl, tn⟩, .inl rfl⟩
end
end MP
set_option Elab.async false
set_option linter.all false
set_option maxRecDepth 100000
set_option maxHeartbeats 4000000
/-! mirrors: further facts of the head; try -/
namespace MP
open PySem PySem.Spec L2
open PyProof.Rows hiding St

/-! ### the head's hook with one more Bool -/
def hookE (n : Nat) (fa : List He.Fa) (fn : List He.DefD) (ex : PySem.W.Frag → Bool) : PySem.W.Hook where
  α := He.AlD × Bool
  obs := fun s => (He.obsDG n fa fn s.heap.get?, ex (He.frG s.heap.get? (He.asD s.heap.get? n)))
  val := fun _ => (He.valD fn, true)
  says := fun _ h => ∃ K : PySem.W.Frag, K.In h ∧ He.SaysD fa fn K ∧ ex K = true
  of := fun _ _ e => ⟨_, He.frG_in, congrArg (fun z : He.AlD × Bool => z.1) e, congrArg (fun z : He.AlD × Bool => z.2) e⟩
  keeps := fun _ _ _ ⟨K, hK, c⟩ k => ⟨K, PySem.W.Frag.In.keeps hK k, c⟩
def obsE (n : Nat) (fa : List He.Fa) (fn : List He.DefD) (ex : PySem.W.Frag → Bool) (g : Addr → Option Obj) : He.AlD × Bool := (He.obsDG n fa fn g, ex (He.frG g (He.asD g n)))
theorem obsE_eq {n : Nat} {fa : List He.Fa} {fn : List He.DefD} {ex : PySem.W.Frag → Bool} {g : Addr → Option Obj} {s : Shared} (h : ∀ a, g a = s.heap.get? a) : obsE n fa fn ex g = (hookE n fa fn ex).obs s := by
  obtain rfl : g = s.heap.get? := funext h
  rfl
def tup0B (K : PySem.W.Frag) (a : Addr) : Bool := match K.lookup a with
  | some ⟨.type c, _, .seq its _, _⟩ => decide (c = "tuple") && its.isEmpty
  | _ => false
/-- what else is to be told -/
inductive XFa where
  | xk (x : Str) (newId : String) (bmB : List Value)
  | nox (x : Str) (newId : String) (bmB : List Value)
  | tk (x f : Str)
  | ini (x : Str)
  | tup0 (p : PySem.W.Frag → Addr)
  | any (f : PySem.W.Frag → Bool)
def XFa.ok (K : PySem.W.Frag) : XFa → Bool
  | .xk x newId bmB => PySem.W.excInitIn K (He.ga K x) bmB newId && (PySem.W.excOver K (He.ga K x) bmB && (decide (PySem.W.findIn K (.ref (He.ga K x)) "__setattr__" = some (some (.builtin "object.__setattr__"))) && (PySem.W.hasDictIn K (He.ga K x) &&
      (decide (PySem.W.subIn K (.ref (He.ga K x)) (.type "BaseException") = some true) && (decide (PySem.W.typeIn K (.ref (He.ga K x)) = some (.type "type")) && PySem.W.keepIn K (.ref (He.ga K x)))))))
  | .nox x newId bmB => PySem.W.excIn K (He.ga K x) bmB newId && (PySem.W.keepIn K (.ref (He.ga K x)) && (decide (PySem.W.subIn K (.ref (He.ga K x)) (.type "BaseException") = some true) && decide (PySem.W.typeIn K (.ref (He.ga K x)) = some (.type "type"))))
  | .tk x f => decide (PySem.W.takerIn K (He.ga K x) f = some none)
  | .ini x => decide (PySem.W.findIn K (.ref (He.ga K x)) "__init__" = some (some (.ref (He.fAd K (x, some "__init__"))))) && decide (PySem.W.typeIn K (.ref (He.fAd K (x, some "__init__"))) = some (.type "function"))
  | .tup0 p => tup0B K (p K)
  | .any f => f K
def xAll (xs : List XFa) (K : PySem.W.Frag) : Bool := xs.all fun f => f.ok K
section
variable {K : PySem.W.Frag} {x f : Str} {newId : String} {bmB : List Value} {xs : List XFa}
theorem xAll_at (h : xAll xs K = true) (i : Nat) {f : XFa} (e : xs[i]? = some f := by rfl) : f.ok K = true := List.all_eq_true.mp h f (List.mem_of_getElem? e)
theorem xk_ok (h : (XFa.xk x newId bmB).ok K = true) : Xk K (He.ga K x) newId bmB := by
  simp only [XFa.ok, Bool.and_eq_true, decide_eq_true_eq] at h
  obtain ⟨h1, h2, h3, h4, h5, h6, h7⟩ := h
  exact ⟨h1, h2, h3, h4, h5, h6, h7⟩
theorem tk_ok (h : (XFa.tk x f).ok K = true) : PySem.W.takerIn K (He.ga K x) f = some none := of_decide_eq_true h
theorem ini_ok1 (h : (XFa.ini x).ok K = true) : PySem.W.findIn K (.ref (He.ga K x)) "__init__" = some (some (.ref (He.fAd K (x, some "__init__")))) := of_decide_eq_true (Bool.and_eq_true_iff.mp h).1
theorem ini_ok2 (h : (XFa.ini x).ok K = true) : PySem.W.typeIn K (.ref (He.fAd K (x, some "__init__"))) = some (.type "function") := of_decide_eq_true (Bool.and_eq_true_iff.mp h).2
structure Nox (K : PySem.W.Frag) (C : Addr) (newId : String) (bmB : List Value) : Prop where
  q : PySem.W.excIn K C bmB newId = true
  kC : PySem.W.keepIn K (.ref C) = true
  h1 : PySem.W.subIn K (.ref C) (.type "BaseException") = some true
  h2 : PySem.W.typeIn K (.ref C) = some (.type "type")
theorem nox_ok (h : (XFa.nox x newId bmB).ok K = true) : Nox K (He.ga K x) newId bmB := by
  simp only [XFa.ok, Bool.and_eq_true, decide_eq_true_eq] at h
  obtain ⟨h1, h2, h3, h4⟩ := h
  exact ⟨h1, h2, h3, h4⟩
end

/-! ### try: body, except x: suite -/
/-- a suite lets nothing out -/
def noEx : RS → RS
  | .ex _ _ _ => .st
  | r => r
theorem OutS.noEx {w : Wd} {c : Cf} {H : Hp} {W W' : WX} {D : Ends} {r : RS} (o : OutS w c H W D (noEx r)) : OutS w c H W' D r := by
  cases r with
  | ex e s h => exact o.elim
  | nx s h => exact o
  | rt d h => exact o
  | bk s h => exact o
  | ct s h => exact o
  | st => exact o
theorem OutS.shift' {w : Wd} {c c' : Cf} {H H' : Hp} {W : WX} {D : Ends} {r : RS} (o : OutS w c H W D r) (e : Ext c H c' H') : OutS w c' H' W D r := OutS.shift e o
/-- a handler's classes: xs -/
def sTryO (xs : List Nat) (b hnd : MS) : MS := fun s h => match b s h with
  | .ex e s' h' => if xs.contains e.c = true then noEx (hnd s' h') else .ex e s' h'
  | r => r
/-- which of the own errors are caught by the class at cx -/
def Cat (K : PySem.W.Frag) (T : Nat → Addr) (cx : Addr) (xs : List Nat) : Prop := ∀ j, j < 18 → T j ≠ 0 → PySem.W.exmOne K (.ref (T j)) (.ref cx) = some (xs.contains j)
section
variable {X : Cx} {W : WX} {T : Nat → Addr} {x : Str} {cx : Addr} {body suite : List Stmt} {b₀ : Stmt} {np pos pos' : Pos} {mb mh : MS} {xs : List Nat}
theorem s_tryO (hs : X.stack = X.env :: X.outer) (hf : X.env.frame = some X.env.locals) (hc : Names X x (.ref cx)) (tk : Takes X W) (he : Cat X.K T cx xs)
    (hb : ∀ (W' : WX) (pn : List (Addr × Obj)) (xe : Value → Shared → Prop), Takes (X.tr pn xe) W' → PassesOwn (model X.prog X.w) X.A X.env xe → PSs (X.tr pn xe) body (tS (Wd.mk X.K T) W' mb))
    (hsu : ∀ (a : Addr) (oe : Obj) (pn : List (Addr × Obj)), PSs (X.suite a ((a, oe) :: pn)) (b₀ :: suite) (tS (Wd.mk X.K T) (fun _ _ _ _ => False) mh)) :
    PS X (.Try body [.ExceptHandler (some (.Name x np)) none (b₀ :: suite) pos'] [] [] pos) (tS (Wd.mk X.K T) W (sTryO xs mb mh)) :=
  PSi (ps_try_only (tb := fun W' => tS (Wd.mk X.K T) W' mb) (ts := fun _ _ _ => tS (Wd.mk X.K T) (fun _ _ _ _ => False) mh) (Wout := W) hs hf hc tk hb (fun a oe cls d pn _ _ => hsu a oe pn)) fun D σ H ⟨c, s, h, R, S, o⟩ => ⟨c, s, h, R, S, (by
    simp only [sTryO] at o
    cases q : mb s h with
    | ex e s' h' =>
      rw [q] at o
      dsimp only at o
      intro c' cls dd σ' H' R' E' S' r'
      obtain ⟨⟨rfl, tn, lt⟩, r2⟩ := r'
      refine ⟨_, he e.c lt tn, fun hb1 a ha => ?_, fun hb0 => ?_⟩
      · rw [if_pos hb1] at o
        exact ⟨c', s', h', R', S', o.noEx.shift' E'⟩
      · rw [if_neg (by rw [hb0]; exact Bool.false_ne_true)] at o
        exact o c' _ dd σ' H' R' E' S' ⟨⟨rfl, tn, lt⟩, r2⟩
    | nx s' h' => rw [q] at o; exact o
    | rt d h' => rw [q] at o; exact o
    | bk s' h' => rw [q] at o; exact o
    | ct s' h' => rw [q] at o; exact o
    | st => rw [q] at o; exact o)⟩
end

/-! ### any, all of a list of truths -/
def blsL : List D → Option (List Bool)
  | [] => some []
  | .bl b :: r => (match blsL r with
    | some l => some (b :: l)
    | none => none)
  | _ => none
def fAny (h : AH) : List D → Option D
  | [x] => match seqL h x with
    | some xs => (match blsL xs with
      | some bs => some (.bl (bs.any id))
      | none => none)
    | none => none
  | _ => none
def fAll (h : AH) : List D → Option D
  | [x] => match seqL h x with
    | some xs => (match blsL xs with
      | some bs => some (.bl (bs.all id))
      | none => none)
    | none => none
  | _ => none
theorem blsL_ok {w : Wd} {c : Cf} : ∀ {xs : List D} {vs : List V} {bs : List Bool}, RepL w c xs vs → blsL xs = some bs → vs = bs.map V.bl
  | [], vs, bs, r, e => by
    cases e
    simpa [RepL] using r
  | d :: xs, vs, bs, r, e => by
    cases d with
    | bl b =>
      simp only [blsL] at e
      split at e
      · rename_i l e2
        cases e
        simp only [RepL] at r
        obtain ⟨x, ys, rfl, r1, r2⟩ := r
        rw [rp_bl r1, blsL_ok r2 e2]
        rfl
      · cases e
    | _ => cases e
section
variable {w : Wd}
theorem n_any : OpN w (rAny w.K) fAny := by
  intro c h H xs z vs Q R r e G
  unfold fAny at e
  split at e
  · obtain ⟨v, rfl, rv⟩ := rpl1 r
    split at e
    · rename_i ys q
      split at e
      · rename_i bs q2
        cases e
        obtain ⟨a, us, rfl, t, rl⟩ := seqL_ok R rv q
        exact ⟨a, bs, rfl, by rw [← blsL_ok rl q2]; exact t, G.bl R⟩
      · cases e
    · cases e
  · cases e
theorem n_all : OpN w (rAll w.K) fAll := by
  intro c h H xs z vs Q R r e G
  unfold fAll at e
  split at e
  · obtain ⟨v, rfl, rv⟩ := rpl1 r
    split at e
    · rename_i ys q
      split at e
      · rename_i bs q2
        cases e
        obtain ⟨a, us, rfl, t, rl⟩ := seqL_ok R rv q
        exact ⟨a, bs, rfl, by rw [← blsL_ok rl q2]; exact t, G.bl R⟩
      · cases e
    · cases e
  · cases e
end
end MP
set_option Elab.async false
set_option linter.all false
set_option maxRecDepth 100000
set_option maxHeartbeats 4000000
/-! mirrors: further builtins and operators: in, sum, tuple, list, slices, += -/
namespace MP
open PySem PySem.Spec L2
open PyProof.Rows hiding St

/-! ### x in a row of numbers, of texts -/
def intsL : List D → Option (List Int)
  | [] => some []
  | .int b :: r => (match intsL r with
    | some l => some (b :: l)
    | none => none)
  | _ => none
def strsL : List D → Option (List Str)
  | [] => some []
  | .str b :: r => (match strsL r with
    | some l => some (b :: l)
    | none => none)
  | _ => none
theorem intsL_ok {w : Wd} {c : Cf} : ∀ {xs : List D} {vs : List V} {bs : List Int}, RepL w c xs vs → intsL xs = some bs → vs = bs.map V.int
  | [], vs, bs, r, e => by
    cases e
    simpa [RepL] using r
  | d :: xs, vs, bs, r, e => by
    cases d with
    | int b =>
      simp only [intsL] at e
      split at e
      · rename_i l e2
        cases e
        simp only [RepL] at r
        obtain ⟨x, ys, rfl, r1, r2⟩ := r
        rw [rp_int r1, intsL_ok r2 e2]
        rfl
      · cases e
    | _ => cases e
theorem strsL_ok {w : Wd} {c : Cf} : ∀ {xs : List D} {vs : List V} {bs : List Str}, RepL w c xs vs → strsL xs = some bs → vs = bs.map V.str
  | [], vs, bs, r, e => by
    cases e
    simpa [RepL] using r
  | d :: xs, vs, bs, r, e => by
    cases d with
    | str b =>
      simp only [strsL] at e
      split at e
      · rename_i l e2
        cases e
        simp only [RepL] at r
        obtain ⟨x, ys, rfl, r1, r2⟩ := r
        rw [rp_str r1, strsL_ok r2 e2]
        rfl
      · cases e
    | _ => cases e
theorem intsL_map (ns : List Int) : intsL (ns.map .int) = some ns := by
  induction ns with
  | nil => rfl
  | cons n ns ih => simp only [List.map_cons, intsL, ih]
theorem strsL_map (ns : List Str) : strsL (ns.map .str) = some ns := by
  induction ns with
  | nil => rfl
  | cons n ns ih => simp only [List.map_cons, strsL, ih]
def inB (h : AH) (x y : D) : Option Bool := match seqX h y with
  | some xs => (match x with
    | .int i => (match intsL xs with
      | some ns => some (decide (i ∈ ns))
      | none => none)
    | .str z => (match strsL xs with
      | some ns => some (decide (z ∈ ns))
      | none => none)
    | _ => none)
  | none => none
def pIn (h : AH) (x y : D) : Option D := match inB h x y with
  | some b => some (.bl b)
  | none => none
def pNotIn (h : AH) (x y : D) : Option D := match inB h x y with
  | some b => some (.bl (!b))
  | none => none
theorem inV_int (i : Int) (ns : List Int) : inV (.int i) (ns.map V.int) = decide (i ∈ ns) := by
  induction ns with
  | nil => rfl
  | cons n ns ih =>
    have e : inV (.int i) (V.int n :: ns.map V.int) = (n == i || inV (.int i) (ns.map V.int)) := rfl
    rw [List.map_cons, e, ih]
    by_cases h : i = n
    · simp [h]
    · have : (n == i) = false := by simp; omega
      simp [h, this]
theorem inV_str (i : Str) (ns : List Str) : inV (.str i) (ns.map V.str) = decide (i ∈ ns) := by
  induction ns with
  | nil => rfl
  | cons n ns ih =>
    have e : inV (.str i) (V.str n :: ns.map V.str) = (n == i || inV (.str i) (ns.map V.str)) := rfl
    rw [List.map_cons, e, ih]
    by_cases h : i = n
    · simp [h]
    · have : (n == i) = false := by simpa using fun z : n = i => h z.symm
      simp [h, this]
section
variable {w : Wd}
theorem inB_ok {c : Cf} {h : AH} {H : Hp} {x y : D} {v u : V} {b : Bool} (R : Rel w c h H) (rx : Rep w c x v) (ry : Rep w c y u) (e : inB h x y = some b) :
    ∃ p vs, u = .ref p ∧ (SqL w.K H p vs ∨ SqT w.K H p vs) ∧ flatV v = true ∧ vs.all flatV = true ∧ inV v vs = b := by
  unfold inB at e
  split at e
  · rename_i xs q
    have sq : ∃ p vs, u = .ref p ∧ (SqL w.K H p vs ∨ SqT w.K H p vs) ∧ RepL w c xs vs := by
      unfold seqX at q
      split at q
      · rename_i zs q2
        cases q
        obtain ⟨a, us, rfl, t, rl⟩ := seqT_ok R ry q2
        exact ⟨a, us, rfl, .inr t, rl⟩
      · obtain ⟨a, us, rfl, t, rl⟩ := seqL_ok R ry q
        exact ⟨a, us, rfl, .inl t, rl⟩
    obtain ⟨p, vs, rfl, t, rl⟩ := sq
    split at e
    · split at e
      · rename_i ns q2
        cases e
        obtain rfl := rp_int rx
        obtain rfl := intsL_ok rl q2
        exact ⟨p, _, rfl, t, rfl, by simp [flatV], inV_int _ _⟩
      · cases e
    · split at e
      · rename_i ns q2
        cases e
        obtain rfl := rp_str rx
        obtain rfl := strsL_ok rl q2
        exact ⟨p, _, rfl, t, rfl, by simp [flatV], inV_str _ _⟩
      · cases e
    · cases e
  · cases e
theorem g_in : Op2 w (rIn w.K false) pIn := by
  intro c h H x y z v u Q R rx ry e G
  unfold pIn at e
  split at e
  · rename_i b q
    cases e
    obtain ⟨p, vs, rfl, t, f1, f2, rfl⟩ := inB_ok R rx ry q
    exact ⟨p, vs, rfl, t, f1, f2, G.bl R⟩
  · cases e
theorem g_notIn : Op2 w (rIn w.K true) pNotIn := by
  intro c h H x y z v u Q R rx ry e G
  unfold pNotIn at e
  split at e
  · rename_i b q
    cases e
    obtain ⟨p, vs, rfl, t, f1, f2, rfl⟩ := inB_ok R rx ry q
    exact ⟨p, vs, rfl, t, f1, f2, G.bl R⟩
  · cases e
/-! ### sum, tuple, list -/
def fSum (h : AH) : List D → Option D
  | [x] => match seqL h x with
    | some xs => (match intsL xs with
      | some ns => some (.int ns.sum)
      | none => none)
    | none => none
  | _ => none
def fTuple (h : AH) : List D → Option D
  | [x] => match seqT x with
    | some _ => some x
    | none => (match seqL h x with
      | some xs => some (.tup xs)
      | none => none)
  | _ => none
def fList (h : AH) : List D → Option D
  | [x] => match seqX h x with
    | some xs => some (.lst xs)
    | none => none
  | _ => none
theorem n_sum : OpN w (rSum w.K) fSum := by
  intro c h H xs z vs Q R r e G
  unfold fSum at e
  split at e
  · obtain ⟨v, rfl, rv⟩ := rpl1 r
    split at e
    · rename_i ys q
      split at e
      · rename_i ns q2
        cases e
        obtain ⟨a, us, rfl, t, rl⟩ := seqL_ok R rv q
        exact ⟨a, ns, rfl, by rw [← intsL_ok rl q2]; exact t, G.int R⟩
      · cases e
    · cases e
  · cases e
theorem n_tuple : OpN w (fun xs H Q => ∃ p ys, xs = [.ref p] ∧ ((SqL w.K H p ys ∧ ∀ l, H l = none → Q (.ref l) (upd H l (.tup ys))) ∨ (SqT w.K H p ys ∧ Q (.ref p) H))) fTuple := by
  intro c h H xs z vs Q R r e G
  unfold fTuple at e
  split at e
  · obtain ⟨v, rfl, rv⟩ := rpl1 r
    split at e
    · rename_i ys q
      cases e
      obtain ⟨a, us, rfl, t, rl⟩ := seqT_ok R rv q
      exact ⟨a, us, rfl, .inr ⟨t, G.same R rv⟩⟩
    · split at e
      · rename_i ys q
        cases e
        obtain ⟨a, us, rfl, t, rl⟩ := seqL_ok R rv q
        exact ⟨a, us, rfl, .inl ⟨t, fun l hl => G.tup R rl l hl⟩⟩
      · cases e
  · cases e
theorem n_list : OpN w (fun xs H Q => ∃ p ys, xs = [.ref p] ∧ (SqL w.K H p ys ∨ SqT w.K H p ys) ∧ ∀ l, H l = none → Q (.ref l) (upd H l (.lst ys))) fList := by
  intro c h H xs z vs Q R r e G
  unfold fList at e
  split at e
  · obtain ⟨v, rfl, rv⟩ := rpl1 r
    split at e
    · rename_i ys q
      cases e
      unfold seqX at q
      split at q
      · rename_i zs q2
        cases q
        obtain ⟨a, us, rfl, t, rl⟩ := seqT_ok R rv q2
        exact ⟨a, us, rfl, .inr t, fun l hl => G.lst R rl l hl⟩
      · obtain ⟨a, us, rfl, t, rl⟩ := seqL_ok R rv q
        exact ⟨a, us, rfl, .inl t, fun l hl => G.lst R rl l hl⟩
    · cases e
  · cases e
end
/-! ### x += e -/
def sAug (i : Nat) (g : AH → D → D → Option D) (e : ME) : MS := fun s h => match s[i]? with
  | some (some x) => (e s h).bindS s fun y h1 => match g h1 x y with
    | some z => .nx (s.set i (some z)) h1
    | none => .st
  | _ => .st
def pAddI (_ : AH) : D → D → Option D
  | .int i, .int j => some (.int (i + j))
  | _, _ => none
def pSubI (_ : AH) : D → D → Option D
  | .int i, .int j => some (.int (i - j))
  | _, _ => none
section
variable {w : Wd}
theorem g_addI : Op2 w (fun x y H Q => ipI (fun i j => i + j) x y H Q) pAddI := by
  intro c h H x y z v u Q R rx ry e G
  unfold pAddI at e
  split at e
  · cases e
    exact ⟨_, _, rp_int rx, rp_int ry, G.int R⟩
  · cases e
theorem g_subI : Op2 w (fun x y H Q => ipI (fun i j => i - j) x y H Q) pSubI := by
  intro c h H x y z v u Q R rx ry e G
  unfold pSubI at e
  split at e
  · cases e
    exact ⟨_, _, rp_int rx, rp_int ry, G.int R⟩
  · cases e
end
section
variable {X : Cx} {T : Nat → Addr} {W : WX} {e : Expr} {ma : ME} {pos pos' : Pos}
theorem s_aug {i : Nat} {x : Str} {op : Operator} {ti : TIp} {g : AH → D → D → Option D} (hN : X.N.Nodup) (ho : PIp X op ti) (hg : Op2 (Wd.mk X.K T) (fun x y H Q => ti x y H Q) g) (he : PE X e (tM (Wd.mk X.K T) W ma)) (hi : X.N[i]? = some x := by rfl)
    (hx : Loc X.env.scope x := by first | exact .inl rfl | exact .inr rfl) (hf : X.fn x = true ∨ X.env.scope.names.lookup x = some .local := by first | exact .inl rfl | exact .inr rfl) :
    PS X (.AugAssign (.Name x pos') op e pos) (tS (Wd.mk X.K T) W (sAug i g ma)) :=
  PSi (ps_aug hN hi hx he ho hf) fun D σ H ⟨c, s, h, R, S, o⟩ => by
    simp only [sAug] at o
    split at o
    · rename_i x0 ex
      obtain ⟨v, e1, r1⟩ := S.get ex
      refine ⟨v, e1, c, s, h, R, S, (OutS.bind (A := Rep (Wd.mk X.K T)) S o).mono ?_⟩
      rintro u H1 ⟨c1, h1, y, R1, E1, r2, o2⟩
      split at o2
      · rename_i z q
        exact hg c1 h1 H1 _ _ z v u _ R1 (r1.ext E1) r2 q fun c2 w2 H2 R2 E2 r3 => o2 c2 _ H2 R2 E2 (((S.ext E1).ext E2).set r3)
      · exact o2.elim
    · exact o.elim
end
/-! ### slices -/
def cutD (xs : List D) (lo hi : Option Int) : List D := (xs.drop (HT.sIx xs.length 0 lo)).take (HT.sIx xs.length xs.length hi - HT.sIx xs.length 0 lo)
def partD (e : Option ME) : Sl → AH → Res (Option Int) := fun s h => match e with
  | none => .ok none h
  | some m => (m s h).bind fun x h1 => match x with
    | .int i => .ok (some i) h1
    | _ => .st
def eSl (a : ME) (lo hi : Option ME) : ME := fun s h => (a s h).bind fun x h1 => (partD lo s h1).bind fun l h2 => (partD hi s h2).bind fun u h3 => match seqT x with
  | some xs => if HT.sIx xs.length 0 l = 0 ∧ HT.sIx xs.length xs.length u = xs.length then .ok x h3 else .ok (.tup (cutD xs l u)) h3
  | none => match seqL h3 x with
    | some xs => .ok (.lst (cutD xs l u)) h3
    | none => .st
theorem repL_drop {w : Wd} {c : Cf} : ∀ {xs : List D} {vs : List V} (n : Nat), RepL w c xs vs → RepL w c (xs.drop n) (vs.drop n)
  | [], vs, n, r => by
    obtain rfl : vs = [] := by simpa [RepL] using r
    simp [RepL]
  | d :: xs, vs, 0, r => r
  | d :: xs, vs, n + 1, r => by
    simp only [RepL] at r
    obtain ⟨x, ys, rfl, r1, r2⟩ := r
    exact repL_drop n r2
theorem repL_take {w : Wd} {c : Cf} : ∀ {xs : List D} {vs : List V} (n : Nat), RepL w c xs vs → RepL w c (xs.take n) (vs.take n)
  | [], vs, n, r => by
    obtain rfl : vs = [] := by simpa [RepL] using r
    simp [RepL]
  | d :: xs, vs, 0, r => by simp [RepL]
  | d :: xs, vs, n + 1, r => by
    simp only [RepL] at r
    obtain ⟨x, ys, rfl, r1, r2⟩ := r
    exact ⟨x, _, rfl, r1, repL_take n r2⟩
theorem repL_cut {w : Wd} {c : Cf} {xs : List D} {vs : List V} {lo hi : Option Int} (r : RepL w c xs vs) : RepL w c (cutD xs lo hi) (cutV vs lo hi) := by
  unfold cutD cutV
  rw [r.len]
  exact repL_take _ (repL_drop _ r)
abbrev tO (w : Wd) (W : WX) (m : Sl → AH → Res (Option Int)) : TO := fun σ H Q => ∃ c s h, Rel w c h H ∧ RelS w c s σ ∧ Out w c H (fun cls dd H' => W cls dd σ H') (fun _ a b => a = b) Q (m s h)
section
variable {X : Cx} {T : Nat → Addr} {W : WX} {e : Expr} {ma ml mu : ME} {pos p2 : Pos} {lo hi : Option Expr}
theorem POi {o : Option Expr} {t t' : TO} (h : PO X o t) (q : ∀ σ H Q, t' σ H Q → t σ H Q) : PO X o t' := ⟨fun pins s σ H Q I z => h.run pins s σ H Q I (q σ H Q z)⟩
theorem o_none : PO X none (tO (Wd.mk X.K T) W (partD none)) := POi po_none fun σ H Q ⟨c, s, h, R, S, o⟩ => o c none H R (.refl R.sub) rfl
theorem o_some {a : Expr} {m : ME} (ha : PE X a (tM (Wd.mk X.K T) W m)) : PO X (some a) (tO (Wd.mk X.K T) W (partD (some m))) := POi (po_some ha) fun σ H Q z => by
  obtain ⟨c, s, h, R, S, o⟩ := z
  refine ⟨c, s, h, R, S, (Out.bind (A := Rep (Wd.mk X.K T)) (show Out (Wd.mk X.K T) c H _ _ Q ((m s h).bind fun x h1 => match x with | .int i => .ok (some i) h1 | _ => .st) from o)).mono ?_⟩
  rintro v H1 ⟨c1, h1, d, R1, E1, r1, o1⟩
  split at o1
  · exact ⟨_, rp_int r1, o1 c1 _ H1 R1 (.refl R1.sub) rfl⟩
  · exact o1.elim
theorem r_sl {l u : Option ME} (he : PE X e (tM (Wd.mk X.K T) W ma)) (hl : PO X lo (tO (Wd.mk X.K T) W (partD l))) (hu : PO X hi (tO (Wd.mk X.K T) W (partD u))) : PE X (.Subscript e (.Slice lo hi none p2) pos) (tM (Wd.mk X.K T) W (eSl ma l u)) :=
  PEi (pe_slice (sl_tupA.or sl_list) he hl hu) fun σ H Q z => by
    obtain ⟨c, s, h, R, S, o⟩ := z
    refine ⟨c, s, h, R, S, (Out.bind (A := Rep (Wd.mk X.K T)) o).mono ?_⟩
    rintro v H1 ⟨c1, h1, d, R1, E1, r1, o1⟩
    refine ⟨c1, s, h1, R1, S.ext E1, (Out.bind (A := fun _ a b => a = b) o1).mono ?_⟩
    rintro vl H2 ⟨c2, h2, dl, R2, E2, rfl, o2⟩
    refine ⟨c2, s, h2, R2, (S.ext E1).ext E2, (Out.bind (A := fun _ a b => a = b) o2).mono ?_⟩
    rintro vu H3 ⟨c3, h3, du, R3, E3, rfl, o3⟩
    have r3 := (r1.ext E2).ext E3
    split at o3
    · rename_i xs q
      obtain ⟨a, vs, rfl, t, rl⟩ := seqT_ok R3 r3 q
      refine .inl ⟨a, vs, rfl, t, fun hw => ?_, fun hw => ?_⟩
      · rw [← rl.len] at hw
        rw [if_pos hw] at o3
        exact o3 c3 _ H3 R3 (.refl R3.sub) r3
      · rw [← rl.len] at hw
        rw [if_neg hw] at o3
        exact fun p hp => Gives.tup (h := h3) o3 R3 (repL_cut rl) p hp
    · split at o3
      · rename_i xs q
        obtain ⟨a, vs, rfl, t, rl⟩ := seqL_ok R3 r3 q
        exact .inr ⟨a, vs, rfl, t, fun p hp => Gives.lst (h := h3) o3 R3 (repL_cut rl) p hp⟩
      · exact o3.elim
end
end MP
set_option Elab.async false
set_option linter.all false
set_option maxRecDepth 100000
set_option maxHeartbeats 4000000
/-! mirrors: zip, enumerate -/
namespace MP
open PySem PySem.Spec L2
open PyProof.Rows hiding St

def zipD (xs ys : List D) : List D := (xs.zip ys).map fun p => .tup [p.1, p.2]
def iZip (as : MA) : MI := fun s h => (as s h).bind fun ds h1 => match ds with
  | [x, y] => match seqL h1 x, seqL h1 y with
    | some xs, some ys => .ok ⟨zipD xs ys, fun h => lstOk x xs h && lstOk y ys h⟩ h1
    | _, _ => .st
  | _ => .st
theorem zipD_get {xs ys : List D} {i : Nat} {d : D} (h : (zipD xs ys)[i]? = some d) : ∃ x y, xs[i]? = some x ∧ ys[i]? = some y ∧ d = .tup [x, y] := by
  unfold zipD at h
  rw [List.getElem?_map] at h
  cases q : (xs.zip ys)[i]? with
  | none => rw [q] at h; cases h
  | some p =>
    rw [q] at h
    cases h
    obtain ⟨h1, h2⟩ := List.getElem?_zip_eq_some.mp q
    exact ⟨p.1, p.2, h1, h2, rfl⟩
theorem layTup {w : Wd} {c : Cf} {h : AH} {H : Hp} (R : Rel w c h H) {ds : List D} {vs : List V} (r : RepL w c ds vs) {T : Addr} (hT : H T = none) : ∃ c', Rel w c' h (upd H T (.tup vs)) ∧ Ext c H c' (upd H T (.tup vs)) ∧ Rep w c' (.tup ds) (.ref T) := by
  obtain ⟨R', E⟩ := R.lay (H' := upd H T (.tup vs)) (u := .tup vs) hT (fun a v e => (upd_ne (ne_of_none e hT)).trans e) upd_same
  exact ⟨_, R', E, by simp only [Rep]; exact ⟨T, vs, rfl, .inl ⟨.inl upd_same, R.noidNew hT⟩, r.ext E⟩⟩
theorem sqL_inj {w : Wd} {c : Cf} {h : AH} {H : Hp} {a : Addr} {vs us : List V} (R : Rel w c h H) (x : SqL w.K H a vs) (y : SqL w.K H a us) (same : ∀ vs us, SqL w.K H a vs → SqL w.K H a us → vs = us) : vs = us := same _ _ x y
section
variable {X : Cx} {T : Nat → Addr} {W : WX} {e e2 : Expr} {ms : MA} {pos p tpos : Pos} {elts : List Expr} {kk : Nat}
theorem i_zip (hm : X.mg "zip" = none) (ha : PA X [e, e2] (tA (Wd.mk X.K T) W ms)) (hg : Gl X "zip" := by rfl)
    (hs : starEach [e, e2] X.env = (false, eval e X.env) :: starEach [e2] X.env := by rfl) (hpl : (backTo pos (starEach [e2] X.env)).any (·.1) = false := by rfl) :
    PI X (.Tuple elts kk tpos) (.Call (.Name "zip" p) [e, e2] [] pos) (tI (Wd.mk X.K T) W (iZip ms)) :=
  PIi (pi_zip hg hm ha hs hpl) fun σ H R ⟨c, s, h, R0, S, z⟩ => ⟨c, s, h, R0, S, (OutW.bind (A := RepL (Wd.mk X.K T)) z).mono (by
    rintro vs H1 ⟨c1, h1, ds, R1, E1, r1, o⟩
    split at o
    · rename_i x y
      obtain ⟨v, u, rfl, rx, ry⟩ := rpl2 r1
      split at o
      · rename_i xs ys q1 q2
        obtain ⟨a, as, rfl, sa, ra⟩ := seqL_ok R1 rx q1
        obtain ⟨b, bs, rfl, sb, rb⟩ := seqL_ok R1 ry q2
        refine ⟨a, b, as, bs, rfl, sa, sb, o c1 _ H1 R1 (.refl R1.sub) ?_⟩
        intro c2 h2 H2 i R2 E2 hk
        have hk := Bool.and_eq_true_iff.mp hk
        obtain ⟨a2, vs2, ea, sa2, ra2⟩ := lst_at R1 R2 E2 rx q1 hk.1
        obtain ⟨b2, us2, eb, sb2, rb2⟩ := lst_at R1 R2 E2 ry q2 hk.2
        cases ea
        cases eb
        refine ⟨fun hi => ⟨vs2, us2, sa2, sb2, ?_⟩, fun d hd => ?_⟩
        · have hl : (zipD xs ys).length = min xs.length ys.length := by simp [zipD]
          have hi' : i = (zipD xs ys).length := hi
          rw [hl, ra2.len, rb2.len] at hi'
          omega
        · obtain ⟨dx, dy, g1, g2, rfl⟩ := zipD_get hd
          obtain ⟨vx, e1, r3⟩ := ra2.get g1
          obtain ⟨vy, e3, r4⟩ := rb2.get g2
          refine ⟨⟨vs2, us2, vx, vy, sa2, sb2, e1, e3⟩, ?_⟩
          rintro v H' ⟨T', x', y', rfl, hT, rfl, k1, k2⟩
          have z1 := k1 _ sa2
          have z2 := k2 _ sb2
          rw [e1] at z1
          rw [e3] at z2
          cases z1
          cases z2
          exact layTup R2 (ds := [dx, dy]) (vs := [vx, vy]) ⟨_, _, rfl, r3, _, _, rfl, r4, rfl⟩ hT
      · exact o.elim
    · exact o.elim)⟩
/-- enumerate of a list -/
def numD (xs : List D) : List D := xs.zipIdx.map fun p => .tup [.int (p.2 : Nat), p.1]
theorem numD_get {xs : List D} {i : Nat} {d : D} (h : (numD xs)[i]? = some d) : ∃ x, xs[i]? = some x ∧ d = .tup [.int (i : Nat), x] := by
  unfold numD at h
  rw [List.getElem?_map, List.getElem?_zipIdx] at h
  cases q : xs[i]? with
  | none => rw [q] at h; cases h
  | some x =>
    rw [q] at h
    cases h
    exact ⟨x, rfl, by simp⟩
def iEnum (as : MA) : MI := fun s h => (as s h).bind fun ds h1 => match ds with
  | [x] => match seqL h1 x with
    | some xs => .ok ⟨numD xs, lstOk x xs⟩ h1
    | none => .st
  | _ => .st
theorem i_enum (hm : X.mg "enumerate" = none) (ha : PA X [e] (tA (Wd.mk X.K T) W ms)) (hg : Gl X "enumerate" := by rfl) (hs : starEach [e] X.env = [(false, eval e X.env)] := by rfl) :
    PI X (.Tuple elts kk tpos) (.Call (.Name "enumerate" p) [e] [] pos) (tI (Wd.mk X.K T) W (iEnum ms)) :=
  PIi (pi_enum hg hm ha hs) fun σ H R ⟨c, s, h, R0, S, z⟩ => ⟨c, s, h, R0, S, (OutW.bind (A := RepL (Wd.mk X.K T)) z).mono (by
    rintro vs H1 ⟨c1, h1, ds, R1, E1, r1, o⟩
    split at o
    · rename_i x
      obtain ⟨v, rfl, rx⟩ := rpl1 r1
      split at o
      · rename_i xs q1
        obtain ⟨a, as, rfl, sa, ra⟩ := seqL_ok R1 rx q1
        refine ⟨a, as, rfl, sa, o c1 _ H1 R1 (.refl R1.sub) ?_⟩
        intro c2 h2 H2 i R2 E2 hk
        obtain ⟨a2, vs2, ea, sa2, ra2⟩ := lst_at R1 R2 E2 rx q1 hk
        cases ea
        refine ⟨fun hi => ⟨vs2, sa2, ?_⟩, fun d hd => ?_⟩
        · have hl : (numD xs).length = xs.length := by simp [numD]
          have hi' : i = (numD xs).length := hi
          rw [hl, ra2.len] at hi'
          omega
        · obtain ⟨dx, g1, rfl⟩ := numD_get hd
          obtain ⟨vx, e1, r3⟩ := ra2.get g1
          refine ⟨⟨vs2, vx, sa2, e1⟩, ?_⟩
          rintro v H' ⟨T', x', rfl, hT, rfl, k1⟩
          have z1 := k1 _ sa2
          rw [e1] at z1
          cases z1
          exact layTup R2 (ds := [.int (i : Nat), dx]) (vs := [.int (i : Nat), vx]) ⟨_, _, rfl, by simp [Rep], _, _, rfl, r3, rfl⟩ hT
      · exact o.elim
    · exact o.elim)⟩
end
end MP
set_option Elab.async false
set_option linter.all false
set_option maxRecDepth 100000
set_option maxHeartbeats 4000000
/-! mirrors: enumerate of a tuple -/
namespace MP
open PySem PySem.Spec L2
open PyProof.Rows hiding St

theorem drawsTup {prog : Program} {w : World} {A : Around} (hh : A.handled = none) (it l : Addr) (hne : l ≠ it) (items : Array Value) :
    Draws prog w A it [it, l] items.size (fun i v => items[i]? = some v) (fun i h => h.IsTupleIter it l i ∧ h.IsTuple l items) where
  live := fun _ _ st => by
    obtain ⟨⟨o, ho, _⟩, _⟩ := st
    exact ⟨o, ho⟩
  frame := fun _ _ _ st k => ⟨st.1.at fun o e => k it (by simp) o e, by
    obtain ⟨o, ho, hc⟩ := st.2
    exact ⟨o, k l (by simp) o ho, hc⟩⟩
  item := fun i s Q E hi st q => RZ.nextOf_tuple_item st.1 st.2 (x := items[i]) (by simp [hi]) fun h' a b => q _ h' s.toks (by simp [hi]) ⟨a, by
    obtain ⟨o, ho, hc⟩ := st.2
    exact ⟨o, b.extBut _ _ hne ho, hc⟩⟩ b
  done := fun s Q E st q => RZ.nextOf_tuple_end hh st.1 st.2 (by simp) q
theorem newEnumTup (l : Addr) (items : Array Value) :
    Meets (Builtin.«enumerate.__new__» ⟨[.type "enumerate", .ref l], []⟩) (fun _ R s => s.heap.IsTuple l items ∧
      R (.ok (.ret (.ref (s.heap.push { cls := .type "tuple_iterator", data := .fields #[.ref l, .int 0 0] }).objs.size)))
        { s with heap := (s.heap.push { cls := .type "tuple_iterator", data := .fields #[.ref l, .int 0 0] }).push { cls := .type "enumerate", data := .fields #[.none, .bool false, .ref s.heap.objs.size, rawInt 0, .none, .none] } }) :=
  .of_wp fun prog w A R s ⟨hl, q⟩ => by
    obtain ⟨hp, g, d, tk, os⟩ := s
    have hsub := sub_enumerate
    have hT : Heap.IsTuple (Shared.heap ⟨hp, g, d, tk, os⟩) l items := hl
    obtain ⟨o, ho, hc, n, hd⟩ := id hl
    obtain ⟨oc, od, dt, sl⟩ := o
    dsimp only at hc hd
    subst hc hd
    have ho' : hp.get? l = some { cls := .type "tuple", dict := od, data := .seq items n, slots := sl } := ho
    wp_walk using AutoSeq1.wpAny_loadPart' ho'
    refine wpAny_stack_any fun st => wpAny_pure ?_
    split
    · rename_i c _ _ _ _ _
      cases (c == Value.type "enumerate")
      · wp_walk using AutoSeq1.wpAny_loadPart' ho', wpAny_pyIter_tuple hT
        exact ⟨_, rfl, q⟩
      · wp_walk using AutoSeq1.wpAny_loadPart' ho', wpAny_pyIter_tuple hT
        exact ⟨_, rfl, q⟩
    · wp_walk using AutoSeq1.wpAny_loadPart' ho', wpAny_pyIter_tuple hT
      exact ⟨_, rfl, q⟩
theorem callEnumTup {prog : Program} {w : World} {A : Around} {E : Value → Shared → Prop} {s : Shared} {l : Addr} {items : Array Value} {Q : Value → Shared → Prop} (hl : s.heap.IsTuple l items)
    (h : ∀ h', IsEnum h' (s.heap.objs.size + 1) s.heap.objs.size 0 .none → h'.IsTupleIter s.heap.objs.size l 0 → h'.objs.size = s.heap.objs.size + 2 → (∀ b o, s.heap.get? b = some o → h'.get? b = some o) →
      Q (.ref (s.heap.objs.size + 1)) { s with heap := h' }) : wpAny (model prog w) A (call (.type "enumerate") [.ref l]) Q E s := by
  refine callType_new F.called_enumerate (by decide) (F.typeCall_enumerate_1 _) (F.newCall_enumerate_1 _) (fun obj => F.args_object_init_2 obj _) F.entry_enumerate_new (newEnumTup l items) ⟨hl, ?_⟩
  have z1 : (s.heap.push { cls := .type "tuple_iterator", data := .fields #[.ref l, .int 0 0] }).objs.size = s.heap.objs.size + 1 := Heap.size_push ..
  have he := Heap.get?_push_size (s.heap.push { cls := .type "tuple_iterator", data := .fields #[.ref l, .int 0 0] }) (o := { cls := .type "enumerate", data := .fields #[.none, .bool false, .ref s.heap.objs.size, rawInt 0, .none, .none] }) rfl
  rw [z1] at he
  show _ ∧ _
  rw [z1]
  exact ⟨⟨_, he, rfl⟩, h _ he ⟨_, Heap.get?_push_of_some _ (Heap.get?_push_size _ rfl), rfl, rfl⟩ ((Heap.size_push ..).trans (by rw [z1])) fun b o x => Heap.get?_push_of_some _ (Heap.get?_push_of_some _ x)⟩
/-- the tuple at a as it stands at each turn, each item in a new pair -/
def IteT (K : PySem.W.Frag) (a : Addr) : It where
  go i H := ∃ (xs : List V) (x : V), SqT K H a xs ∧ xs[i]? = some x
  yld i H v H' := ∃ T x, v = .ref T ∧ H T = none ∧ H' = upd H T (.tup [.int (i : Nat), x]) ∧ ∀ xs, SqT K H a xs → xs[i]? = some x
  stop i H := ∃ xs : List V, SqT K H a xs ∧ xs.length ≤ i
theorem turnEnumT {P : Program} {w : World} {K : PySem.W.Frag} {elts : List Expr} {kk : Nat} {tpos : Pos} (a e it : Addr) (hne : e ≠ it) (ha : a ≠ it) (hea : e ≠ a) :
    Turn P w K (.Tuple elts kk tpos) (IteT K a) [e, it] e (fun i h => (∃ old, IsEnum h e it ((i : Nat) : Int) old) ∧ h.IsTupleIter it a i) where
  mem := List.mem_cons_self
  obj := fun i h st b hb => by
    obtain ⟨⟨old, he⟩, o, ho, _, hd⟩ := st
    rcases List.mem_cons.mp hb with rfl | hb
    · exact ⟨_, he, fun v q => nomatch q⟩
    · rw [List.mem_singleton.mp hb]
      exact ⟨o, ho, fun v q => by rw [hd] at q; cases q⟩
  keep := fun i h h' ⟨⟨old, he⟩, hi⟩ k => ⟨⟨old, k e (by simp) _ he⟩, hi.at fun o q => k it (by simp) o q⟩
  item := by
    intro X hP hw hK hc i pins s σ H E I hf st hg
    subst hP hw hK
    obtain ⟨⟨old, he⟩, hit⟩ := st
    obtain ⟨xs, x, hq, hx⟩ := hg
    obtain ⟨its, rv, p, hz⟩ := I.tuple hq
    obtain ⟨u, hu, ru⟩ := rv.get hx
    have hel : e < s.heap.objs.size := Heap.lt_size he
    have hil : it < s.heap.objs.size := by
      obtain ⟨_, q, _⟩ := hit
      exact Heap.lt_size q
    have hlt : i < its.toArray.size := by
      rw [List.size_toArray]
      exact (List.getElem?_eq_some_iff.mp hu).1
    refine wpAny_pyNext_enum_itemD (drawsTup (show X.A.in1.handled = none from I.ok.hd hc) it a ha its.toArray) he ⟨hit, p⟩ hlt hne (by simp [hne, hea]) fun v h' tk hv ho hst hT hsz hk => ?_
    have ev : v = u := by
      have : its[i]? = some v := by simpa using hv
      rw [hu] at this
      exact (Option.some.inj this).symm
    subst ev
    refine ⟨_, rfl, wpAny_letOwnedTupleGo_enum (s := { s with heap := h', toks := tk + 1 }) ho fun h'' he' sb => ?_⟩
    have hT2 : h''.get? s.heap.objs.size = some { cls := .type "tuple", data := .seq #[.int i tk, v] } := (sb.2 _ (Nat.ne_of_gt hel)).trans hT
    have new : ObjOk X.prog X.w (upd H s.heap.objs.size (.tup [.int (i : Nat), x])) h'' s.heap.objs.size (.tup [.int (i : Nat), x]) :=
      ⟨by show 2 ≤ sizeLine; decide, [.int i tk, v], .cons ⟨_, rfl⟩ (.cons ru .nil), ⟨_, hT2, rfl, _, rfl⟩⟩
    have I1 : Inv X pins σ (upd H s.heap.objs.size (.tup [.int (i : Nat), x])) { s with heap := h'', toks := tk + 1 } :=
      I.turnedNew (ch := [e, it]) (fun b ob hb q => (sb.2 b (fun z => hb (by simp [z]))).trans (hk b ob (fun z => hb (by simp [z])) (fun z => hb (by simp [z])) q)) hf (Nat.le_refl _) new
    refine ⟨.ref s.heap.objs.size, _, I1, rfl, ⟨_, x, rfl, I.hok.fresh (Nat.le_refl _), rfl, fun l hl => I.tuple_inj hl hq ▸ hx⟩, ⟨⟨v, ?_⟩, hst.1.at fun o q => (sb.2 it (Ne.symm hne)).trans q⟩, fun b hb => ?_⟩
    · rw [show ((i + 1 : Nat) : Int) = (i : Int) + 1 by omega]
      exact he'
    · have hb' : b < s.heap.objs.size := by
        rcases List.mem_cons.mp hb with z | z
        · exact z ▸ hel
        · exact List.mem_singleton.mp z ▸ hil
      rw [upd_ne (Nat.ne_of_lt hb')]
      exact (hf b hb).1
  done := by
    intro X hP hw hK hc i pins s σ H E I hf st hg
    subst hP hw hK
    obtain ⟨⟨old, he⟩, hit⟩ := st
    obtain ⟨xs, hq, hx⟩ := hg
    obtain ⟨its, rv, p, hz⟩ := I.tuple hq
    obtain ⟨f0, f1, f2, f3, f4, f5⟩ := hf it (by simp)
    have hn : its.toArray.size ≤ i := by
      rw [List.size_toArray, ← rv.length]
      exact hx
    have hT : s.TypeIs (.ref e) "enumerate" := ⟨_, he, rfl⟩
    unfold pyNext
    refine wpAny_bind (wpAny_attempt (wpAny_callSpecial?_slot (name := Str.ofString "__next__") hT PySem.F.slot_enumerate_next (wpAny_call_entry PySem.F.slot_enumerate_next hT PySem.F.entry_enumerate_next ?_ (PySem.F.args_enumerate_next_1 _))))
    show wpAny _ _ (field (.ref e) 2 >>= _) _ _ _
    refine wpAny_bind (wpAny_field he rfl (x := .ref it) rfl ?_)
    refine wpAny_bind (RZ.nextOf_tuple_end (I.ok.hd hc) hit p (by simpa using hn) fun h' x eb hs => ?_)
    obtain ⟨o, ho, hcl⟩ := hs
    refine wpAny_bind (wpAny_isInstance (T := "StopIteration") (b := true) ⟨o, ho, hcl⟩ isSubtype_stop (wpAny_pure ⟨rfl, ?_⟩))
    exact I.turned (t' := s.toks) (fun b o hb q => eb b o hb q) f0 f1 f3 f4 f5
  self := fun A i s Q E st h => by
    obtain ⟨⟨_, he⟩, _⟩ := st
    exact wpAny_pyIter_enum he h

section
variable {X : Cx} {T : Nat → Addr} {W : WX} {e : Expr} {ms : MA} {ta : TA} {pos p tpos : Pos} {elts : List Expr} {kk : Nat}
def iEnumT0 (K : PySem.W.Frag) (ta : TA) : TI := fun σ H R => ta σ H fun vs H1 => ∃ a xs, vs = [.ref a] ∧ SqT K H1 a xs ∧ R (IteT K a) H1
theorem pi_enumT (hg : Gl X "enumerate") (hm : X.mg "enumerate" = none) (ha : PA X [e] ta) (hs : starEach [e] X.env = [(false, eval e X.env)] := by rfl) :
    PI X (.Tuple elts kk tpos) (.Call (.Name "enumerate" p) [e] [] pos) (iEnumT0 X.K ta) := by
  refine ⟨fun pins s σ H R I h => ?_⟩
  refine Call_ (ld_blt I hg hm boot_enumerate (PyProof.Rows.callWith_type1 (thn (ha.run pos pins s σ H _ I h) fun us s1 ⟨vs, H1, I1, r1, a, xs, ex, hq, q⟩ => ?_) hs rfl))
  subst ex
  obtain ⟨u, rfl, r⟩ := vals1 r1
  obtain rfl : u = Value.ref a := r
  obtain ⟨its, rv, p', hz⟩ := I1.tuple hq
  have la : a < s1.heap.objs.size := by
    obtain ⟨o, ho, _⟩ := p'
    exact Heap.lt_size ho
  refine callEnumTup p' fun h' he hit hsz hk => wpAny_pyIter_enum he ?_
  have I2 : Inv X pins σ H1 { s1 with heap := h' } := I1.kept (t' := s1.toks) hk
  refine ⟨s1.heap.objs.size + 1, [s1.heap.objs.size + 1, s1.heap.objs.size], _, _, H1, rfl, I2, turnEnumT a (s1.heap.objs.size + 1) s1.heap.objs.size (Nat.succ_ne_self _) (Nat.ne_of_lt la) (Nat.ne_of_gt (Nat.lt_succ_of_lt la)), ⟨⟨.none, he⟩, hit⟩, fun b hb => ?_, q⟩
  have hle : s1.heap.objs.size ≤ b := by
    rcases List.mem_cons.mp hb with z | z
    · rw [z]; exact Nat.le_add_right _ _
    · rw [List.mem_singleton.mp z]; exact Nat.le_refl _
  exact I1.fpOk hle (I1.hok.fresh hle)
def iEnumT (as : MA) : MI := fun s h => (as s h).bind fun ds h1 => match ds with
  | [x] => match seqT x with
    | some xs => .ok ⟨numD xs, fun _ => true⟩ h1
    | none => .st
  | _ => .st
theorem i_enumT (hm : X.mg "enumerate" = none) (ha : PA X [e] (tA (Wd.mk X.K T) W ms)) (hg : Gl X "enumerate" := by rfl) (hs : starEach [e] X.env = [(false, eval e X.env)] := by rfl) :
    PI X (.Tuple elts kk tpos) (.Call (.Name "enumerate" p) [e] [] pos) (tI (Wd.mk X.K T) W (iEnumT ms)) :=
  PIi (pi_enumT hg hm ha hs) fun σ H R ⟨c, s, h, R0, S, z⟩ => ⟨c, s, h, R0, S, (OutW.bind (A := RepL (Wd.mk X.K T)) z).mono (by
    rintro vs H1 ⟨c1, h1, ds, R1, E1, r1, o⟩
    split at o
    · rename_i x
      obtain ⟨v, rfl, rx⟩ := rpl1 r1
      split at o
      · rename_i xs q1
        obtain ⟨a, as, rfl, sa, ra⟩ := seqT_ok R1 rx q1
        refine ⟨a, as, rfl, sa, o c1 _ H1 R1 (.refl R1.sub) ?_⟩
        intro c2 h2 H2 i R2 E2 _
        obtain ⟨a2, vs2, ea, sa2, ra2⟩ := seqT_ok R2 (rx.mo E2) q1
        cases ea
        refine ⟨fun hi => ⟨vs2, sa2, ?_⟩, fun d hd => ?_⟩
        · have hl : (numD xs).length = xs.length := by simp [numD]
          have hi' : i = (numD xs).length := hi
          rw [hl, ra2.len] at hi'
          omega
        · obtain ⟨dx, g1, rfl⟩ := numD_get hd
          obtain ⟨vx, e1, r3⟩ := ra2.get g1
          refine ⟨⟨vs2, vx, sa2, e1⟩, ?_⟩
          rintro v H' ⟨T', x', rfl, hT, rfl, k1⟩
          have z1 := k1 _ sa2
          rw [e1] at z1
          cases z1
          exact layTup R2 (ds := [.int (i : Nat), dx]) (vs := [.int (i : Nat), vx]) ⟨_, _, rfl, by simp [Rep], _, _, rfl, r3, rfl⟩ hT
      · exact o.elim
    · exact o.elim)⟩
/-- a list or a tuple -/
def iEnumA (as : MA) : MI := fun s h => (as s h).bind fun ds h1 => match ds with
  | [x] => match seqT x with
    | some xs => .ok ⟨numD xs, fun _ => true⟩ h1
    | none => match seqL h1 x with
      | some xs => .ok ⟨numD xs, lstOk x xs⟩ h1
      | none => .st
  | _ => .st
theorem i_enumA (hm : X.mg "enumerate" = none) (ha : PA X [e] (tA (Wd.mk X.K T) W ms)) (hg : Gl X "enumerate" := by rfl) (hs : starEach [e] X.env = [(false, eval e X.env)] := by rfl) :
    PI X (.Tuple elts kk tpos) (.Call (.Name "enumerate" p) [e] [] pos) (tI (Wd.mk X.K T) W (iEnumA ms)) := by
  refine ⟨fun pins s σ H R I z => ?_⟩
  obtain ⟨c, sl, h, R0, S, z⟩ := z
  simp only [iEnumA] at z
  cases q : ms sl h with
  | ok ds h1 =>
    rw [q] at z
    by_cases hd : ∃ x xs, ds = [x] ∧ seqT x = some xs
    · obtain ⟨x, xs, rfl, q2⟩ := hd
      refine (i_enumT (W := W) hm ha hg hs).run pins s σ H R I ⟨c, sl, h, R0, S, ?_⟩
      simp only [iEnumT, q, Res.bind, q2] at z ⊢
      exact z
    · refine (i_enum (W := W) hm ha hg hs).run pins s σ H R I ⟨c, sl, h, R0, S, ?_⟩
      simp only [iEnum, q, Res.bind] at z ⊢
      split at z
      · rename_i x
        split at z
        · rename_i xs q2
          exact absurd ⟨x, xs, rfl, q2⟩ hd
        · exact z
      · exact z.elim
  | ex e h1 =>
    rw [q] at z
    refine (i_enum (W := W) hm ha hg hs).run pins s σ H R I ⟨c, sl, h, R0, S, ?_⟩
    simp only [iEnum, q, Res.bind] at z ⊢
    exact z
  | st =>
    rw [q] at z
    exact z.elim
end
end MP
set_option Elab.async false
set_option linter.all false
set_option maxRecDepth 100000
set_option maxHeartbeats 4000000
/-! mirrors: sorted of pairs of numbers, in a list or in a tuple -/
namespace MP
open PySem PySem.Spec L2
open PyProof.Rows hiding St

section
variable {prog : Program} {w : World} {A : Around} {E : Value → Shared → Prop} {s : Shared}
theorem collectTup {l : Addr} {vs : List Value} {Q : List Value → Shared → Prop} (hl : s.heap.IsTuple l vs.toArray) (hsz : vs.length ≤ sizeLine)
    (h : Q vs { s with heap := (s.heap.push (seqObj "list" #[] 0)).update s.heap.objs.size (Obj.mapSeq (· ++ vs.toArray)) }) : wpAny (model prog w) A (collect (.ref l)) Q E s := by
  obtain ⟨o, ho, hc, n, hd⟩ := id hl
  have new : (s.heap.push (seqObj "list" #[] 0)).get? s.heap.objs.size = some (seqObj "list" #[] 0) := Heap.get?_push_size _ rfl
  unfold collect
  refine wpAny_bind (wpAny_runValue (codeAny_builtin entry_proto_collect' ?_))
  show wpAny _ _ (newList [] >>= fun n => again (.builtin "list.__iadd__" ⟨[n, .ref l], []⟩)) _ _ s
  refine wpAny_bind (wpAny_newList (wpAny_pure ⟨Code.quiet_builtin _ (by decide +kernel), codeAny_builtin entry_list_iadd' ?_⟩))
  show wpAny _ _ (Builtin.List.listExtendWith (.ref s.heap.objs.size) (.ref l) (.ref s.heap.objs.size)) _ _ { s with heap := s.heap.push (seqObj "list" #[] 0) }
  unfold Builtin.List.listExtendWith
  have ho1 : (s.heap.push (seqObj "list" #[] 0)).get? l = some o := Heap.get?_push_of_some _ ho
  refine wpAny_bind (wpAny_typeOf (T := "tuple") ⟨o, ho1, hc⟩ ?_)
  rw [if_pos (by rw [show (Value.type "tuple" == Value.type "tuple") = true from rfl]; simp)]
  refine wpAny_bind (listItems_at ho1 hd (wpAny_bind (listItems_at (xs := #[]) (n := 0) new rfl ?_)))
  rw [if_neg (by simp)]
  refine wpAny_bind (listUpdate_at (xs := #[]) (n := 0) new rfl ?_ (Nat.zero_le _) (by
    show (#[] ++ vs.toArray).size ≤ sizeLine + 1
    simp only [Array.size_append, List.size_toArray, List.length_nil]
    omega))
  refine wpAny_pure ?_
  show wpAny (model prog w) A (load s.heap.objs.size >>= fun o => match o.data with | .seq xs _ => pure xs.toList | _ => unsupported "internal:collect") Q E { s with heap := (s.heap.push (seqObj "list" #[] 0)).update s.heap.objs.size (Obj.mapSeq (· ++ vs.toArray)) }
  refine wpAny_bind (wpAny_load (get?_update_seq new _) ?_)
  show wpAny _ _ (pure ((#[] : Array Value) ++ vs.toArray).toList) Q E _
  rw [show ((#[] : Array Value) ++ vs.toArray).toList = vs by simp]
  exact wpAny_pure h
theorem sortedOrdT {l : Addr} {vs : List Value} {ltv : Value → Value → Bool} {Q : Value → Shared → Prop} (O : SrtO.Swo ltv) (hl : s.heap.IsTuple l vs.toArray) (hz : vs.length ≤ sizeLine)
    (hS : 2 ≤ vs.length → ∀ (h₁ : Heap) (a : Addr), h₁.get? a = some (seqObj "list" vs.toArray 0) → (∀ b o, s.heap.get? b = some o → b ≠ a ∧ h₁.get? b = some o) → SrtO.SortableO prog w A.in1.in1 { s with heap := h₁ } a vs ltv)
    (h : ∀ out : List Value, SrtO.Srtd ltv out → SrtO.Stb ltv out vs → Q (.ref (s.heap.objs.size + 1)) { s with heap := sortedAll s.heap vs out.toArray }) : wpAny (model prog w) A (call (.builtin "sorted") [.ref l]) Q E s := by
  refine Calls.call_function_entry kind_sorted plain_sorted entry_sorted (args_sorted1 _) ?_
  unfold Builtin.«sorted»
  refine wpAny_bind (m := checkCount "sorted" 1 1 _) (wpAny_pure (wpAny_bind (collectTup hl hz (wpAny_bind (wpAny_newList ?_ hz)))))
  have n1 : ((s.heap.push (seqObj "list" #[] 0)).update s.heap.objs.size (Obj.mapSeq (· ++ vs.toArray))).objs.size = s.heap.objs.size + 1 := (Heap.size_update ..).trans (size_push' ..)
  have at1 : (((s.heap.push (seqObj "list" #[] 0)).update s.heap.objs.size (Obj.mapSeq (· ++ vs.toArray))).push (seqObj "list" vs.toArray 0)).get? (s.heap.objs.size + 1) = some (seqObj "list" vs.toArray 0) := n1 ▸ Heap.get?_push_size _ rfl
  have old : ∀ b o, s.heap.get? b = some o → b ≠ s.heap.objs.size + 1 ∧ (((s.heap.push (seqObj "list" #[] 0)).update s.heap.objs.size (Obj.mapSeq (· ++ vs.toArray))).push (seqObj "list" vs.toArray 0)).get? b = some o := fun b o q => by
    have lt : b < s.heap.objs.size := Heap.lt_size q
    exact ⟨Nat.ne_of_lt (Nat.lt_succ_of_lt lt), Heap.get?_push_of_some _ ((Heap.get?_update_ne _ _ _ _ (Nat.ne_of_lt lt)).trans (Heap.get?_push_of_some _ q))⟩
  show wpAny _ _ _ _ _ { s with heap := ((s.heap.push (seqObj "list" #[] 0)).update s.heap.objs.size (Obj.mapSeq (· ++ vs.toArray))).push (seqObj "list" vs.toArray 0) }
  rw [n1]
  exact wpAny_bind (wpAny_holding (wpAny_call_entry slot_list_sort ⟨_, at1, rfl⟩ entry_list_sort (SrtO.list_sort_ord O at1 hz (fun h2 => hS h2 _ _ at1 old) fun out hs hb => ⟨_, rfl, wpAny_pure ⟨_, rfl, h out hs hb⟩⟩) (args_list_sort _)))
theorem sortedPairsT {l : Addr} {vs : List Value} {k : Value → Int × Int} {Q : Value → Shared → Prop} (hl : s.heap.IsTuple l vs.toArray) (hz : vs.length ≤ sizeLine) (hp : ∀ v ∈ vs, Srt.IsPair s.heap v (k v).1 (k v).2)
    (h : ∀ (h' : Heap) (d : Addr) (out : List Value), SrtO.Srtd (fun v u => SrtO.lexB (k v) (k u)) out → SrtO.Stb (fun v u => SrtO.lexB (k v) (k u)) out vs → (∀ b o, s.heap.get? b = some o → h'.get? b = some o) → s.heap.objs.size ≤ d →
      (∃ n, h'.get? d = some (seqObj "list" out.toArray n)) → Q (.ref d) { s with heap := h' }) : wpAny (model prog w) A (call (.builtin "sorted") [.ref l]) Q E s := by
  refine sortedOrdT (SrtO.swo_lex k) hl hz (fun h2 h₁ a ha kk => ?_) fun out hs hb => h _ _ out hs hb (fun b o e => sortedAll_old e) (Nat.le_succ _) (sortedAll_at s.heap vs out.toArray)
  refine SrtO.pairs_sortableO (s := { s with heap := h₁ }) (by omega) (fun v hm => (hp v hm).keeps fun b o e _ => (kk b o e).2) fun o e c => ?_
  cases e.symm.trans ha
  exact absurd (Value.type.inj c) (by decide)
end

/-! ### pairs of numbers in order -/
abbrev lx (p q : Int × Int) : Bool := SrtO.lexB p q
def insP (p : Int × Int) : List (Int × Int) → List (Int × Int)
  | [] => [p]
  | q :: r => if lx q p = true then q :: insP p r else p :: q :: r
def sortP : List (Int × Int) → List (Int × Int)
  | [] => []
  | p :: r => insP p (sortP r)
/-- p is not above q -/
def leP (p q : Int × Int) : Prop := p.1 < q.1 ∨ (p.1 = q.1 ∧ p.2 ≤ q.2)
theorem leP_of {p q : Int × Int} (h : lx q p = false) : leP p q := by
  have := SrtO.lexB_no.mp h
  unfold leP
  omega
theorem leP_lt {p q : Int × Int} (h : lx p q = true) : leP p q := by
  have := SrtO.lexB_iff.mp h
  unfold leP
  omega
theorem leP.trans {p q r : Int × Int} (a : leP p q) (b : leP q r) : leP p r := by
  unfold leP at *
  omega
theorem leP.anti {p q : Int × Int} (a : leP p q) (b : leP q p) : p = q := by
  unfold leP at *
  exact Prod.ext (by omega) (by omega)
theorem insP_perm (p : Int × Int) : ∀ l, (insP p l).Perm (p :: l)
  | [] => .refl _
  | q :: r => by
    unfold insP
    split
    · exact ((insP_perm p r).cons q).trans (.swap ..)
    · exact .refl _
theorem insP_sorted (p : Int × Int) : ∀ l, l.Pairwise leP → (insP p l).Pairwise leP
  | [], _ => List.pairwise_singleton ..
  | q :: r, h => by
    have hq := List.pairwise_cons.mp h
    unfold insP
    split
    · rename_i hl
      refine List.pairwise_cons.mpr ⟨fun x hx => ?_, insP_sorted p r hq.2⟩
      rcases List.mem_cons.mp ((insP_perm p r).mem_iff.mp hx) with rfl | hx
      · exact leP_lt hl
      · exact hq.1 x hx
    · rename_i hl
      have hpq : leP p q := leP_of (by simpa using hl)
      refine List.pairwise_cons.mpr ⟨fun x hx => ?_, h⟩
      rcases List.mem_cons.mp hx with rfl | hx
      · exact hpq
      · exact hpq.trans (hq.1 x hx)
theorem sortP_perm : ∀ l, (sortP l).Perm l
  | [] => .refl _
  | p :: r => (insP_perm p _).trans ((sortP_perm r).cons p)
theorem sortP_sorted : ∀ l, (sortP l).Pairwise leP
  | [] => .nil
  | p :: r => insP_sorted p _ (sortP_sorted r)
theorem leP_uniq : ∀ {l m : List (Int × Int)}, l.Pairwise leP → m.Pairwise leP → l.Perm m → l = m
  | [], m, _, _, h => h.symm.eq_nil.symm
  | p :: l, [], _, _, h => absurd h.eq_nil (by simp)
  | p :: l, q :: m, hl, hm, h => by
    have e : p = q := by
      have h1 : p ∈ q :: m := h.mem_iff.mp List.mem_cons_self
      have h2 : q ∈ p :: l := h.mem_iff.mpr List.mem_cons_self
      rcases List.mem_cons.mp h1 with e | h1
      · exact e
      · rcases List.mem_cons.mp h2 with e | h2
        · exact e.symm
        · exact leP.anti ((List.pairwise_cons.mp hl).1 q h2) ((List.pairwise_cons.mp hm).1 p h1)
    subst e
    rw [leP_uniq (List.pairwise_cons.mp hl).2 (List.pairwise_cons.mp hm).2 h.cons_inv]
def All2 (Pr : V → Int × Int → Prop) : List V → List (Int × Int) → Prop
  | [], ps => ps = []
  | x :: xs, ps => ∃ p qs, ps = p :: qs ∧ Pr x p ∧ All2 Pr xs qs
def rSortP2 (K : PySem.W.Frag) : List V → Hp → VK → Prop := fun vs H Q => ∃ (a : Addr) (xs : List V) (ps : List (Int × Int)) (Pr : V → Int × Int → Prop), vs = [V.ref a] ∧ (SqL K H a xs ∨ SqT K H a xs) ∧ (∀ v p, Pr v p → ∃ t, v = .ref t ∧ SqT K H t [.int p.1, .int p.2]) ∧ All2 Pr xs ps ∧
  ∀ ys p, All2 Pr ys (sortP ps) → H p = none → Q (.ref p) (upd H p (.lst ys))
section
variable {X : Cx} {pins : List (Addr × Obj)} {σ : L2.St} {H : Hp} {s : Shared} {Pr : V → Int × Int → Prop}
theorem all2_mem : ∀ {xs : List V} {ps : List (Int × Int)}, All2 Pr xs ps → ∀ x ∈ xs, ∃ p, Pr x p
  | [], _, _, x, hx => by cases hx
  | y :: xs, ps, h, x, hx => by
    obtain ⟨p, qs, rfl, h1, h2⟩ := h
    rcases List.mem_cons.mp hx with rfl | hx
    · exact ⟨p, h1⟩
    · exact all2_mem h2 x hx
theorem all2_map {k : V → Int × Int} (hk : ∀ v p, Pr v p → k v = p) : ∀ {xs : List V} {ps : List (Int × Int)}, All2 Pr xs ps → xs.map k = ps
  | [], ps, h => by simpa [All2] using h.symm
  | y :: xs, ps, h => by
    obtain ⟨p, qs, rfl, h1, h2⟩ := h
    rw [List.map_cons, hk _ _ h1, all2_map hk h2]
theorem all2_of {k : V → Int × Int} : ∀ {xs : List V}, (∀ x ∈ xs, Pr x (k x)) → All2 Pr xs (xs.map k)
  | [], _ => rfl
  | y :: xs, h => ⟨k y, _, rfl, h y List.mem_cons_self, all2_of fun x hx => h x (List.mem_cons_of_mem _ hx)⟩
theorem cr_sortP2 : CallR X (.builtin "sorted") (rSortP2 X.K) := by
  intro pins s σ H vs us Q I r h
  obtain ⟨a, xs, ps, Pr, rfl, hs, hPr, hx, q⟩ := h
  obtain ⟨u, rfl, ru⟩ := vals1 r
  obtain rfl : u = Value.ref a := ru
  have uniq : ∀ v p p', Pr v p → Pr v p' → p = p' := fun v p p' h1 h2 => by
    obtain ⟨t, rfl, t1⟩ := hPr v p h1
    obtain ⟨t', e, t2⟩ := hPr _ p' h2
    cases e
    have := I.tuple_inj t1 t2
    simp only [List.cons.injEq, V.int.injEq, and_true] at this
    exact Prod.ext this.1 this.2
  let k : V → Int × Int := fun v => Classical.epsilon fun p => Pr v p
  have hk : ∀ v p, Pr v p → k v = p := fun v p h1 => uniq v _ p (Classical.epsilon_spec (p := fun p => Pr v p) ⟨p, h1⟩) h1
  have hk2 : ∀ x ∈ xs, Pr x (k x) := fun x hm => by
    obtain ⟨p, hp⟩ := all2_mem hx x hm
    rw [hk x p hp]
    exact hp
  have eps : xs.map k = ps := all2_map hk hx
  have main : ∀ (its : List Value), Vals xs its → (its.length ≤ sizeLine → (∀ v ∈ its, Srt.IsPair s.heap v (k (backV v)).1 (k (backV v)).2) →
      (∀ (h' : Heap) (d : Addr) (out : List Value), SrtO.Srtd (fun v u => SrtO.lexB (k (backV v)) (k (backV u))) out → SrtO.Stb (fun v u => SrtO.lexB (k (backV v)) (k (backV u))) out its → (∀ b o, s.heap.get? b = some o → h'.get? b = some o) → s.heap.objs.size ≤ d →
        (∃ n, h'.get? d = some (seqObj "list" out.toArray n)) → EP X pins σ Q (.ref d) { s with heap := h' }) → wpAny (model X.prog X.w) X.A (call (.builtin "sorted") [.ref a]) (EP X pins σ Q) X.xe s) → its.length ≤ sizeLine →
      wpAny (model X.prog X.w) X.A (call (.builtin "sorted") [.ref a]) (EP X pins σ Q) X.xe s := fun its rv go hz => by
    obtain ⟨e1, e2⟩ := refs_back rv fun x m => by
      obtain ⟨t, e, _⟩ := hPr x _ (hk2 x m)
      exact ⟨t, e⟩
    refine go hz (fun v hv => ?_) fun h' d out h1 h2 kp hd hn => ?_
    · obtain ⟨t, rfl⟩ := e2 v hv
      have hm : V.ref t ∈ xs := by
        rw [e1]
        exact List.mem_map.mpr ⟨_, hv, rfl⟩
      obtain ⟨t', e, ht⟩ := hPr _ _ (hk2 _ hm)
      cases e
      obtain ⟨its2, r2, ⟨o, ho, hc, n, hd⟩, _⟩ := I.tuple ht
      obtain ⟨u1, u2, rfl, ri, rj⟩ := vals2 r2
      obtain ⟨t1, rfl⟩ := ri
      obtain ⟨t2, rfl⟩ := rj
      exact ⟨t, o, t1, t2, n, rfl, ho, hc, hd⟩
    · have h3 : ∀ u ∈ out, ∃ a, u = Value.ref a := fun u hu => e2 u (h2.perm.mem_iff.mp hu)
      obtain ⟨n, hn⟩ := hn
      have hperm : ((out.map backV).map k).Perm ps := by
        rw [← eps, e1]
        exact (h2.perm.map backV).map k
      have hsrt : ((out.map backV).map k).Pairwise leP := by
        rw [List.map_map]
        refine List.pairwise_map.mpr (h1.imp fun {v u} z => ?_)
        exact leP_of z
      have es : (out.map backV).map k = sortP ps := leP_uniq hsrt (sortP_sorted ps) (hperm.trans (sortP_perm ps).symm)
      refine ⟨.ref d, upd H d (.lst (out.map backV)), I.laid (t' := s.toks) kp hd ⟨?_, out, n, vals_back h3, hn⟩, rfl, q _ d ?_ (I.hok.fresh hd)⟩
      · rw [List.length_map, h2.len]
        exact hz
      · rw [← es]
        refine all2_of fun x hxm => hk2 x ?_
        rw [e1]
        obtain ⟨v, hv, rfl⟩ := List.mem_map.mp hxm
        exact List.mem_map.mpr ⟨v, h2.perm.mem_iff.mp hv, rfl⟩
  rcases hs with hs | hs
  · obtain ⟨its, rv, hl, hz⟩ := I.list hs
    refine main its rv (fun hz hp hq => SrtO.sorted_pairsO (k := fun u => k (backV u)) hl.isList hz hp hq) (by rw [← rv.length]; exact hz)
  · obtain ⟨its, rv, hl, hz⟩ := I.tuple hs
    refine main its rv (fun hz hp hq => sortedPairsT (k := fun u => k (backV u)) hl hz hp hq) (by rw [← rv.length]; exact hz)
end
/-- pairs as they are told -/
def pairsL : List D → Option (List (Int × Int))
  | [] => some []
  | .tup [.int i, .int j] :: r => (match pairsL r with
    | some l => some ((i, j) :: l)
    | none => none)
  | _ => none
def tupP (p : Int × Int) : D := .tup [.int p.1, .int p.2]
def fSortP (h : AH) : List D → Option D
  | [x] => match seqX h x with
    | some xs => (match pairsL xs with
      | some ps => some (.lst ((sortP ps).map tupP))
      | none => none)
    | none => none
  | _ => none
theorem pairsL_ok {w : Wd} {c : Cf} : ∀ {xs : List D} {vs : List V} {ps : List (Int × Int)}, RepL w c xs vs → pairsL xs = some ps → All2 (fun v p => Rep w c (tupP p) v) vs ps
  | [], vs, ps, r, e => by
    cases e
    obtain rfl : vs = [] := by simpa [RepL] using r
    rfl
  | d :: xs, vs, ps, r, e => by
    simp only [RepL] at r
    obtain ⟨x, ys, rfl, r1, r2⟩ := r
    unfold pairsL at e
    split at e
    · rename_i z; cases z
    · rename_i i j r' z
      cases z
      split at e
      · rename_i l e2
        cases e
        exact ⟨_, _, rfl, r1, pairsL_ok r2 e2⟩
      · cases e
    · cases e
theorem all2_repL {w : Wd} {c : Cf} : ∀ {vs : List V} {ps : List (Int × Int)}, All2 (fun v p => Rep w c (tupP p) v) vs ps → RepL w c (ps.map tupP) vs
  | [], ps, h => by
    obtain rfl : ps = [] := h
    simp [RepL]
  | v :: vs, ps, h => by
    obtain ⟨p, qs, rfl, h1, h2⟩ := h
    exact ⟨v, vs, rfl, h1, all2_repL h2⟩
theorem n_sortP {w : Wd} : OpN w (rSortP2 w.K) fSortP := by
  intro c h H xs z vs Q R r e G
  unfold fSortP at e
  split at e
  · obtain ⟨v, rfl, rv⟩ := rpl1 r
    split at e
    · rename_i ys q
      split at e
      · rename_i ps q2
        cases e
        have sq : ∃ p vs, v = .ref p ∧ (SqL w.K H p vs ∨ SqT w.K H p vs) ∧ RepL w c ys vs := by
          unfold seqX at q
          split at q
          · rename_i zs q2
            cases q
            obtain ⟨a, us, rfl, t, rl⟩ := seqT_ok R rv q2
            exact ⟨a, us, rfl, .inr t, rl⟩
          · obtain ⟨a, us, rfl, t, rl⟩ := seqL_ok R rv q
            exact ⟨a, us, rfl, .inl t, rl⟩
        obtain ⟨a, us, rfl, t, rl⟩ := sq
        refine ⟨a, us, ps, fun v p => Rep w c (tupP p) v, rfl, t, fun v p rp => ?_, pairsL_ok rl q2, fun zs p hz hp => G.lst R (all2_repL hz) p hp⟩
        obtain ⟨t', ws, rfl, st, rw'⟩ := seqT_ok R (d := tupP p) rp rfl
        obtain ⟨x, y, rfl, rx, ry⟩ := rpl2 rw'
        obtain rfl := rp_int rx
        obtain rfl := rp_int ry
        exact ⟨t', rfl, st⟩
      · cases e
    · cases e
  · cases e
end MP
set_option Elab.async false
set_option linter.all false
set_option maxRecDepth 100000
set_option maxHeartbeats 6400000
/-! mirrors: sorted(set(numbers)) -/
namespace MP
open PySem PySem.Spec L2
open PyProof.Rows hiding St
abbrev noSet (w : World) : Obj := { cls := .type "set", dict := none, data := .set #[] 0 (.fresh 0 0 (!w.params.followText "set-order")) }
section
variable {P : Program} {w : World} {A : Around} {E : Value → Shared → Prop} {s : Shared}
theorem callSetL {l : Addr} {items : Array Value} (ns : List Int) {Q : Value → Shared → Prop} (hh : A.handled = none) (hl : s.heap.IsList l items) (hit : IntsAre items.toList ns) (hb : ns.length + 1 < scanBound)
    (h : ∀ (h' : Heap) (tk n : Nat), SetR w h' s.heap.objs.size (fun j => decide (j ∈ ns)) n → n ≤ ns.length → (∀ b o, s.heap.get? b = some o → h'.get? b = some o) → Q (.ref s.heap.objs.size) { s with heap := h', toks := tk }) :
    wpAny (model P w) A (call (.type "set") [.ref l]) Q E s := by
  have size : items.size = ns.length := (Array.length_toList (xs := items)).symm.trans (IntsAre.length hit)
  obtain ⟨mc, mt, hm⟩ := PySem.F.called_set.mro
  have p1 := PySem.F.called_set.made
  have p2 := PySem.F.called_set.sub
  have p3 := PySem.F.called_set.notType
  have p4 := PySem.F.called_set.canCreate
  have p5 := PySem.F.typeCall_set_1 (.ref l)
  refine wpAny_call (codeAny_of_tree ?_)
  show wpAny _ _ (callAny (.type "set") _) _ _ _
  refine wpAny_pure ⟨Code.quiet_builtin _ (by decide +kernel), codeAny_builtin PySem.F.entry_type_call ?_⟩
  rw [Around.under_plain (weight_type_call_type "set" [.ref l] []) rfl]
  repeat (any_goals (first | assumption | wp_step))
  refine codeAny_mono (code_set_led1 (.ref l) (E := E) (Q₁ := fun ob s1 => ob = .ref s.heap.objs.size ∧ s1 = { s with heap := s.heap.push (noSet w) }) ⟨rfl, rfl⟩) fun r s1 hr => ?_
  cases r with
  | error e => exact hr
  | ok fl =>
    cases fl with
    | ret ob =>
      obtain ⟨rfl, rfl⟩ := hr
      have at0 : (s.heap.push (noSet w)).get? s.heap.objs.size = some (noSet w) := Heap.get?_push_size _ rfl
      have isT : Shared.TypeIs { s with heap := s.heap.push (noSet w) } (.ref s.heap.objs.size) "set" := ⟨_, at0, rfl⟩
      have q1 := PySem.F.called_set.init.lookup
      have q2 := PySem.F.called_set.init.bind (.ref s.heap.objs.size)
      repeat (any_goals (first | assumption | wp_step))
      refine codeAny_mono (codeAny_call_builtin (R := wants (fun r s2 => r = .none ∧ ∃ h' tk n, s2 = { s with heap := h', toks := tk } ∧ SetR w h' s.heap.objs.size (fun j => decide (j ∈ ns)) n ∧ n ≤ ns.length ∧ (∀ b o, s.heap.get? b = some o → h'.get? b = some o)) E)
        PySem.F.called_set.init.plain PySem.F.entry_set_init (check_set_init_1 isT ?_)) fun r2 s2 hr2 => ?_
      · obtain ⟨ol, hol, hcl, nl, hdl⟩ := hl
        obtain ⟨oc, od, odt, osl⟩ := ol
        simp only at hcl hdl
        subst hcl hdl
        have ol1 : (s.heap.push (noSet w)).get? l = some { cls := .type "list", dict := od, data := .seq items nl, slots := osl } := Heap.get?_push_of_some _ hol
        have s1 := PySem.F.sub_list_set
        have s2 := PySem.F.sub_list_frozenset
        have s3 : (Value.type "list" == Value.type "dict") = false := by decide
        have L1 : (s.heap.push (noSet w)).IsList l items := ⟨_, ol1, rfl, nl, rfl⟩
        unfold Builtin.«set.__init__» noKeywords Builtin.Frozenset.updateFrom
        generalize hPI : pyIter = PI
        wp_walk
        subst hPI
        refine wpAny_pyIter_list L1 ?_
        refine wpAny_bind (wpAny_runValue ?_)
        have lt : l < s.heap.objs.size := Heap.lt_size hol
        have hh3 : A.in1.in1.in1.handled = none := by simp [hh]
        have sz1 : (s.heap.push (noSet w)).objs.size = s.heap.objs.size + 1 := Heap.size_push ..
        have ne1 : l ≠ (s.heap.push (noSet w)).objs.size := by
          rw [sz1]
          exact Nat.ne_of_lt (Nat.lt_succ_of_lt lt)
        have out1 : s.heap.objs.size ∉ [(s.heap.push (noSet w)).objs.size, l] := by
          rw [sz1]
          simp only [List.mem_cons, List.not_mem_nil, or_false, not_or]
          exact ⟨Nat.ne_of_lt (Nat.lt_succ_self _), Nat.ne_of_gt lt⟩
        have vals : ∀ (i : Nat) (v : Value), items[i]? = some v → ∃ k t, ns[i]? = some k ∧ v = .int k t := fun i v hv => by
          have hi : i < ns.length := by
            rw [← size]
            exact (Array.getElem?_eq_some_iff.mp hv).1
          obtain ⟨t, e⟩ := PyProof.Rows.IntsAre.int_at hit i v (by rw [Array.getElem?_toList]; exact hv)
          exact ⟨ns[i], t, List.getElem?_eq_getElem hi, by rw [e, List.getD_eq_getElem?_getD, List.getElem?_eq_getElem hi] <;> rfl⟩
        refine set_update_ints ((Walks.list hh3 _ l ne1 items).toS) s.heap.objs.size out1 ns size hb vals (items.size - 0) 0 _ (by omega) (Nat.zero_le _) ⟨⟨_, Heap.get?_push_size _ rfl, rfl, rfl⟩, L1.push _⟩ ?first0 ?rest0
        case first0 => exact ⟨0, Nat.le_refl 0, setR_new_at (Heap.get?_push_of_some _ at0)⟩
        case rest0 =>
          intro s' n' hmv hn hS
          obtain ⟨h', g2, d', tk', os'⟩ := s'
          obtain rfl : g2 = s.gens := hmv.gens
          obtain rfl : d' = s.drawn := hmv.drawn
          obtain rfl : os' = s.os := hmv.os
          show wpAny _ _ _ _ _ _
          refine wpAny_pure ?_
          show wpAny _ _ (ret Value.none) _ _ _
          rw [size] at hn
          refine wpAny_pure ⟨rfl, h', tk', n', rfl, hS, hn, fun b o e => ?_⟩
          have b0 : b < s.heap.objs.size := Heap.lt_size e
          refine hmv.heap b o ?_ (Heap.get?_push_of_some _ (Heap.get?_push_of_some _ e))
          rw [sz1]
          simp only [List.mem_cons, List.not_mem_nil, or_false, not_or]
          exact ⟨Nat.ne_of_lt b0, Nat.ne_of_lt (Nat.lt_succ_of_lt b0)⟩
      · cases r2 with
        | error e => exact hr2
        | ok f2 =>
          cases f2 with
          | ret u =>
            obtain ⟨rfl, h', tk, n, rfl, hS, hn, k⟩ := hr2
            repeat (any_goals (first | assumption | wp_step))
            exact h _ _ _ hS hn k
          | next => exact hr2.elim
          | brk => exact hr2.elim
          | cont => exact hr2.elim
    | next => exact hr.elim
    | brk => exact hr.elim
    | cont => exact hr.elim
end
end MP
set_option Elab.async false
set_option linter.all false
set_option maxRecDepth 100000
set_option maxHeartbeats 4000000
/-! mirrors: sorted(set(numbers)) as one -/
namespace MP
open PySem PySem.Spec L2
open PyProof.Rows hiding St

def insU (p : Int) : List Int → List Int
  | [] => [p]
  | q :: r => if q < p then q :: insU p r else if q = p then q :: r else p :: q :: r
def sortU : List Int → List Int
  | [] => []
  | p :: r => insU p (sortU r)
theorem insU_mem (p k : Int) : ∀ l, k ∈ insU p l ↔ k = p ∨ k ∈ l
  | [] => by simp [insU]
  | q :: r => by
    unfold insU
    split
    · rw [List.mem_cons, insU_mem p k r, List.mem_cons]
      constructor
      · rintro (h | h | h)
        · exact .inr (.inl h)
        · exact .inl h
        · exact .inr (.inr h)
      · rintro (h | h | h)
        · exact .inr (.inl h)
        · exact .inl h
        · exact .inr (.inr h)
    · split
      · rename_i e
        rw [e, List.mem_cons]
        constructor
        · exact fun h => .inr h
        · rintro (h | h)
          · exact .inl h
          · exact h
      · rw [List.mem_cons]
theorem insU_sorted (p : Int) : ∀ l, l.Pairwise (· < ·) → (insU p l).Pairwise (· < ·)
  | [], _ => List.pairwise_singleton ..
  | q :: r, h => by
    have hq := List.pairwise_cons.mp h
    unfold insU
    split
    · rename_i hl
      refine List.pairwise_cons.mpr ⟨fun x hx => ?_, insU_sorted p r hq.2⟩
      rcases (insU_mem p x r).mp hx with rfl | hx
      · exact hl
      · exact hq.1 x hx
    · split
      · exact h
      · rename_i h1 h2
        refine List.pairwise_cons.mpr ⟨fun x hx => ?_, h⟩
        rcases List.mem_cons.mp hx with rfl | hx
        · omega
        · have := hq.1 x hx
          omega
theorem sortU_mem (k : Int) : ∀ l, k ∈ sortU l ↔ k ∈ l
  | [] => by simp [sortU]
  | p :: r => by rw [sortU, insU_mem, sortU_mem k r, List.mem_cons]
theorem sortU_sorted : ∀ l, (sortU l).Pairwise (· < ·)
  | [] => .nil
  | p :: r => insU_sorted p _ (sortU_sorted r)
theorem lt_uniq : ∀ {l m : List Int}, l.Pairwise (· < ·) → m.Pairwise (· < ·) → (∀ k, k ∈ l ↔ k ∈ m) → l = m
  | [], [], _, _, _ => rfl
  | [], q :: m, _, _, h => absurd ((h q).mpr List.mem_cons_self) (by simp)
  | p :: l, [], _, _, h => absurd ((h p).mp List.mem_cons_self) (by simp)
  | p :: l, q :: m, hl, hm, h => by
    have l1 := List.pairwise_cons.mp hl
    have m1 := List.pairwise_cons.mp hm
    have e : p = q := by
      rcases List.mem_cons.mp ((h p).mp List.mem_cons_self) with e | h1
      · exact e
      · rcases List.mem_cons.mp ((h q).mpr List.mem_cons_self) with e | h2
        · exact e.symm
        · have a := m1.1 p h1
          have b := l1.1 q h2
          omega
    subst e
    rw [lt_uniq l1.2 m1.2 fun k => ?_]
    constructor
    · intro hk
      rcases List.mem_cons.mp ((h k).mp (List.mem_cons_of_mem _ hk)) with e | z
      · have := l1.1 k hk
        omega
      · exact z
    · intro hk
      rcases List.mem_cons.mp ((h k).mpr (List.mem_cons_of_mem _ hk)) with e | z
      · have := m1.1 k hk
        omega
      · exact z
section
variable {P : Program} {w : World} {A : Around} {E : Value → Shared → Prop} {s : Shared} {a : Addr}
theorem sorted_setN {S : Int → Bool} {n : Nat} {Q : Value → Shared → Prop} (R : SetR w s.heap a S n) (hh : A.handled = none)
    (hQ : ∀ s' p (out : Array Value) (c : Nat) (ns : List Int), (∀ b o, s.heap.get? b = some o → s'.heap.get? b = some o) → s'.gens = s.gens → s'.os = s.os → s.heap.objs.size ≤ p →
      s'.heap.get? p = some (seqObj "list" out c) → IntsAre out.toList ns → ns.Pairwise (· < ·) → (∀ k, k ∈ ns ↔ S k = true) → ns.length = n → n < scanBound → Q (.ref p) s') :
    wpAny (model P w) A (call (.builtin "sorted") [.ref a]) Q E s := by
  obtain ⟨o, es, ep, t, ho, hex, hd, g, nd, hm, hb, hf, hn, hr, hl⟩ := R
  refine Calls.call_function_entry kind_sorted plain_sorted entry_sorted (args_sorted1 _) ?_
  unfold Builtin.«sorted»
  refine wpAny_bind (m := checkCount "sorted" 1 1 _) (wpAny_pure ?_)
  refine wpAny_bind (collect_set (A := A.in1) hh ⟨o, ho, hex.1, hd⟩ hf hb hr hl fun s1 vs k1 hz g1 o1 pm => ?_)
  have hvl : vs.length = n := by rw [pm.length_eq, List.length_map, Array.length_toList]; exact hn
  have hnb : n < scanBound := by rw [← hn]; exact hb
  have hz2 : vs.length ≤ sizeLine := by rw [hvl, sizeLine_eq]; have : scanBound = 4096 := rfl; omega
  have hI : IntsAre vs (vs.map Builtin.Re.reRawOf) := ints_of vs fun v hv => by
    obtain ⟨e, he, q⟩ := List.mem_map.mp (pm.mem_iff.mp hv)
    obtain ⟨k, tk, h1, _⟩ := g e he
    exact ⟨k, tk, by rw [← q]; exact h1⟩
  have pk : (vs.map Builtin.Re.reRawOf).Perm (es.toList.map keyOf) := by
    have q := pm.map Builtin.Re.reRawOf
    rw [List.map_map] at q
    exact q
  refine wpAny_bind (wpAny_newList ?_ hz2)
  have hoL : (s1.heap.push (seqObj "list" vs.toArray 0)).get? s1.heap.objs.size = some (seqObj "list" vs.toArray 0) := Heap.get?_push_size _ rfl
  refine wpAny_bind (wpAny_holding (wpAny_call_entry slot_list_sort ⟨_, hoL, rfl⟩ entry_list_sort (SrtO.list_sort_ord SrtO.swo_int hoL hz2 (fun h2 => SrtO.ints_sortable hI h2) fun out h1 h2 => ⟨_, rfl, ?_⟩) (args_list_sort _)))
  obtain ⟨a1, a2, a3⟩ := SrtO.ints_out hI h1 h2
  obtain ⟨c, hc⟩ := sortedHeap_at (vs := vs) (out := out.toArray) hoL
  have pn : (out.map SrtO.iv).Perm (es.toList.map keyOf) := a2.trans pk
  refine wpAny_pure ⟨_, rfl, hQ _ s1.heap.objs.size out.toArray c (out.map SrtO.iv) (fun b u e => ?_) g1 o1 hz hc (by simpa using a1) (lt_of_le_nodup _ a3 (pn.nodup_iff.mpr nd)) (fun k => by rw [pn.mem_iff, ← hm k]) ?_ hnb⟩
  · have q := k1 b u e
    have hlt := Heap.lt_size q
    show (sortedHeap (s1.heap.push (seqObj "list" vs.toArray 0)) s1.heap.objs.size vs out.toArray).get? b = some u
    rw [sortedHeap_old (Nat.ne_of_lt hlt) (by rw [size_push']; exact Nat.lt_succ_of_lt hlt)]
    exact Heap.get?_push_of_some _ q
  · rw [pn.length_eq, List.length_map, Array.length_toList]; exact hn
end
def rSortedSetN (w : World) : List V → Hp → VK → Prop := fun vs H Q => ∃ (a : Addr) (S : Int → Bool) (n : Nat), vs = [V.ref a] ∧ H a = some (SetO w a S n) ∧
  ∀ (ns : List Int) (p : Addr), ns.Pairwise (· < ·) → (∀ k : Int, k ∈ ns ↔ S k = true) → ns.length = n → H p = none → Q (.ref p) (upd H p (.lst (ns.map V.int)))
theorem cr_sortedSetN {X : Cx} (hc : X.calm = true) : CallR X (.builtin "sorted") (rSortedSetN X.w) := by
  intro pins s σ H vs us Q I r h
  obtain ⟨a, S, n, rfl, ha, q⟩ := h
  have R := setO_get I ha
  rw [Vals.ref1 r]
  refine sorted_setN R (I.ok.hd hc) fun s' p out c ns k g o hp hg hi hs hm hl hnb => ?_
  have hlen : (ns.map V.int).length ≤ sizeLine := by rw [List.length_map, hl, sizeLine_eq]; have : scanBound = 4096 := rfl; omega
  have hn : H p = none := I.hok.fresh hp
  have J : Inv X pins σ (upd H p (.lst (ns.map V.int))) { s with heap := s'.heap, gens := s'.gens, drawn := s'.drawn, toks := s'.toks } :=
    I.call (ch := []) (Un.laid k hp hn) (I.hok.laid k hp ⟨hlen, out.toList, c, vals_of_ints hi, hg⟩) (by rw [g]; exact I.bare) (fun _ z => nomatch z)
  have e : s' = { s with heap := s'.heap, gens := s'.gens, drawn := s'.drawn, toks := s'.toks } := by
    cases s'
    cases s
    cases o
    rfl
  rw [e]
  exact ⟨.ref p, _, J, rfl, q ns p hs hm hl hn⟩
def rSetL2 (K : PySem.W.Frag) (w : World) : List V → Hp → VK → Prop := fun vs H Q => ∃ (a : Addr) (ns : List Int), vs = [V.ref a] ∧ SqL K H a (ns.map V.int) ∧ ns.length + 1 < scanBound ∧
  ∀ p n, n ≤ ns.length → H p = none → Q (.ref p) (upd H p (SetO w p (fun j => decide (j ∈ ns)) n))
theorem cr_setL2 {X : Cx} (hc : X.calm = true) : CallR X (.type "set") (rSetL2 X.K X.w) := by
  intro pins s σ H vs us Q I r h
  obtain ⟨a, ns, rfl, hs, hb, q⟩ := h
  obtain ⟨u, rfl, ru⟩ := vals1 r
  obtain rfl : u = Value.ref a := ru
  obtain ⟨its, rv, hl, hz⟩ := I.list hs
  refine callSetL (P := X.prog) ns (I.ok.hd hc) hl.isList (by simpa using ints_of_vals rv) hb fun h' tk n hS hn hk => ?_
  exact ⟨.ref s.heap.objs.size, _, I.laid (t' := tk) hk (Nat.le_refl _) (setO_new hS), rfl, q _ n hn (I.hok.fresh (Nat.le_refl _))⟩
def fSortSet (h : AH) : List D → Option D
  | [x] => match seqL h x with
    | some xs => (match intsL xs with
      | some ns => if ns.length < 4000 then some (.lst ((sortU ns).map .int)) else none
      | none => none)
    | none => none
  | _ => none
theorem repL_ints {w : Wd} {c : Cf} : ∀ ns : List Int, RepL w c (ns.map .int) (ns.map V.int)
  | [] => by simp [RepL]
  | n :: ns => ⟨_, _, rfl, by simp [Rep], repL_ints ns⟩
section
variable {X : Cx} {T : Nat → Addr} {W : WX} {e : Expr} {ms : MA} {pos pos2 p p2 : Pos}
theorem r_sortSet (hc : X.calm = true) (hm : X.mg "sorted" = none) (hm2 : X.mg "set" = none) (ha : PA X [e] (tA (Wd.mk X.K T) W ms)) (hg : Gl X "sorted" := by rfl) (hg2 : Gl X "set" := by rfl)
    (he : starEach [.Call (.Name "set" p2) [e] [] pos2] X.env = (false, eval (.Call (.Name "set" p2) [e] [] pos2) X.env) :: starEach [] X.env := by rfl) (hpl : (backTo pos (starEach [] X.env)).any (·.1) = false := by rfl)
    (he2 : starEach [e] X.env = (false, eval e X.env) :: starEach [] X.env := by rfl) (hpl2 : (backTo pos2 (starEach [] X.env)).any (·.1) = false := by rfl) :
    PE X (.Call (.Name "sorted" p) [.Call (.Name "set" p2) [e] [] pos2] [] pos) (tM (Wd.mk X.K T) W (eFn fSortSet ms)) :=
  PEi (pe_callB (cr_sortedSetN hc) hg hm PyProof.Rows.boot_sorted (pa_cons (pe_callTy (cr_setL2 hc) hg2 hm2 PyProof.Rows.boot_set ha (by decide) (by decide) he2 hpl2) pa_nil he) (by decide) (by decide) he hpl) fun σ H Q z => oneA (f := fun _ xs h1 => optR (fSortSet h1 xs) h1) z fun c2 s h2 H2 x v R2 S2 r1 o => by
    obtain ⟨d, q, G⟩ := optOut o
    unfold fSortSet at q
    split at q
    · obtain ⟨v, rfl, rv⟩ := rpl1 r1
      split at q
      · rename_i ys q1
        split at q
        · rename_i ns q2
          split at q
          · rename_i h64
            cases q
            obtain ⟨a, us, rfl, t, rl⟩ := seqL_ok R2 rv q1
            refine ⟨a, ns, rfl, by rw [← intsL_ok rl q2]; exact t, Nat.lt_of_le_of_lt (show ns.length + 1 ≤ 4000 by omega) (by decide), fun p n hn hp => ?_⟩
            refine ⟨p, _, n, rfl, upd_same, fun ns' p' hs hm hl hp' => ?_⟩
            obtain rfl : ns' = sortU ns := lt_uniq hs (sortU_sorted ns) fun k => by rw [hm k, sortU_mem, decide_eq_true_eq]
            have hR := R2.priv (o := SetO (X.w) p (fun j => decide (j ∈ ns)) n) (R2.gfree hp)
            obtain ⟨R3, E3⟩ := hR.lay (u := .lst ((sortU ns).map V.int)) (p := p') (H' := upd (upd H2 p (SetO (X.w) p (fun j => decide (j ∈ ns)) n)) p' (.lst ((sortU ns).map V.int))) hp' (fun a v e => (upd_ne (ne_of_none e hp')).trans e) upd_same
            refine G _ _ _ R3 ((Ext.priv (.refl R2.sub) hp).trans E3) ?_
            simp only [Rep]
            exact ⟨p', _, rfl, ⟨upd_same, hR.noidNew hp'⟩, repL_ints _⟩
          · cases q
        · cases q
      · cases q
    · cases q
end
end MP
set_option Elab.async false
set_option linter.all false
set_option maxRecDepth 100000
set_option maxHeartbeats 4000000
/-! mirrors: () as a default -/
namespace MP
open PySem PySem.Spec L2
open PyProof.Rows hiding St
/-- where a keyword-only parameter's default lies -/
def kwAt (p : Str × Option Str) (x : Str) (K : PySem.W.Frag) : Addr := match K.lookup (He.fAd K p) with
  | some ⟨_, _, .func fd, _⟩ => (match fd.kwdefaults with
    | .ref d => (match PySem.W.nsIn K d x with
      | some (some (.ref a)) => a
      | _ => 0)
    | _ => 0)
  | _ => 0
theorem tup0_ok {K : PySem.W.Frag} {a : Addr} (h : tup0B K a = true) (H : Hp) : SqT K H a [] := by
  unfold tup0B at h
  split at h
  · rename_i c od its n sl e
    obtain ⟨h1, h2⟩ := Bool.and_eq_true_iff.mp h
    have hc := of_decide_eq_true h1
    have hi : its = #[] := Array.isEmpty_iff.mp h2
    subst hc hi
    exact .inr ⟨_, #[], n, e, rfl, rfl, Nat.zero_le _, .nil⟩
  · cases h
theorem rc_tup0 {K : PySem.W.Frag} {T : Nat → Addr} {a : Addr} (h : tup0B K a = true) (c : Cf) : Rep ⟨K, T⟩ c (.tup []) (.ref a) := by
  simp only [Rep]
  exact ⟨a, [], rfl, .inr (tup0_ok h _), rfl⟩
end MP
set_option Elab.async false
set_option linter.all false
set_option maxRecDepth 100000
/-! pools: the fewest stretches, plainly -/
namespace MP
abbrev PRow := Int × Int
def has (l : List PRow) (x : Int) : Prop := ∃ p ∈ l, p.1 ≤ x ∧ x ≤ p.2
/-- rising, apart, none empty -/
def Canon (l : List PRow) : Prop := l.Pairwise (fun p q => p.2 + 1 < q.1) ∧ ∀ p ∈ l, p.1 ≤ p.2
def Val (l : List PRow) : Prop := ∀ p ∈ l, p.1 ≤ p.2
/-- where a stretch begins -/
theorem low_iff {l : List PRow} (v : Val l) (k : Int) : (has l k ∧ ¬ has l (k - 1)) ↔ (∃ p ∈ l, p.1 = k) ∧ ¬ has l (k - 1) := by
  constructor
  · rintro ⟨⟨p, hp, h1, h2⟩, h3⟩
    refine ⟨⟨p, hp, ?_⟩, h3⟩
    by_cases h : p.1 = k
    · exact h
    · exact absurd ⟨p, hp, by omega, by omega⟩ h3
  · rintro ⟨⟨p, hp, rfl⟩, h3⟩
    exact ⟨⟨p, hp, Int.le_refl _, v p hp⟩, h3⟩
theorem high_iff {l : List PRow} (v : Val l) (k : Int) : (has l k ∧ ¬ has l (k + 1)) ↔ (∃ p ∈ l, p.2 = k) ∧ ¬ has l (k + 1) := by
  constructor
  · rintro ⟨⟨p, hp, h1, h2⟩, h3⟩
    refine ⟨⟨p, hp, ?_⟩, h3⟩
    by_cases h : p.2 = k
    · exact h
    · exact absurd ⟨p, hp, by omega, by omega⟩ h3
  · rintro ⟨⟨p, hp, rfl⟩, h3⟩
    exact ⟨⟨p, hp, v p hp, Int.le_refl _⟩, h3⟩
theorem canon_apart : ∀ {l : List PRow}, Canon l → ∀ p ∈ l, ∀ q ∈ l, p = q ∨ p.2 + 1 < q.1 ∨ q.2 + 1 < p.1
  | [], _, p, hp, _, _ => by cases hp
  | r :: l, ⟨h, v⟩, p, hp, q, hq => by
    have h1 := List.pairwise_cons.mp h
    rcases List.mem_cons.mp hp with e | hp
    · rcases List.mem_cons.mp hq with e2 | hq
      · exact .inl (e.trans e2.symm)
      · exact .inr (.inl (e ▸ h1.1 q hq))
    · rcases List.mem_cons.mp hq with e2 | hq
      · exact .inr (.inr (e2 ▸ h1.1 p hp))
      · exact canon_apart ⟨h1.2, fun p hp => v p (List.mem_cons_of_mem _ hp)⟩ p hp q hq
theorem canon_low {l : List PRow} (c : Canon l) {p : PRow} (hp : p ∈ l) : ¬ has l (p.1 - 1) := by
  rintro ⟨q, hq, h1, h2⟩
  have hv := c.2 p hp
  have hw := c.2 q hq
  rcases canon_apart c p hp q hq with rfl | h | h <;> omega
theorem canon_high {l : List PRow} (c : Canon l) {p : PRow} (hp : p ∈ l) : ¬ has l (p.2 + 1) := by
  rintro ⟨q, hq, h1, h2⟩
  have hv := c.2 p hp
  have hw := c.2 q hq
  rcases canon_apart c p hp q hq with rfl | h | h <;> omega
theorem canon_fst {l : List PRow} (c : Canon l) : (l.map (·.1)).Pairwise (· < ·) := by
  refine List.pairwise_map.mpr ?_
  refine List.Pairwise.imp_of_mem ?_ c.1
  intro p q hp _ h
  have := c.2 p hp
  omega
theorem canon_snd {l : List PRow} (c : Canon l) : (l.map (·.2)).Pairwise (· < ·) := by
  refine List.pairwise_map.mpr ?_
  refine List.Pairwise.imp_of_mem ?_ c.1
  intro p q _ hq h
  have := c.2 q hq
  omega
/-- the lows that have no number left of them, the highs that have none right of them -/
def hasB (l : List PRow) (x : Int) : Bool := l.any fun p => decide (p.1 ≤ x ∧ x ≤ p.2)
theorem hasB_iff (l : List PRow) (x : Int) : hasB l x = true ↔ has l x := by
  unfold hasB has
  rw [List.any_eq_true]
  constructor
  · rintro ⟨p, hp, h⟩
    exact ⟨p, hp, of_decide_eq_true h⟩
  · rintro ⟨p, hp, h⟩
    exact ⟨p, hp, decide_eq_true h⟩
def lows (l : List PRow) : List Int := (l.filter fun p => !hasB l (p.1 - 1)).map (·.1)
def highs (l : List PRow) : List Int := (l.filter fun p => !hasB l (p.2 + 1)).map (·.2)
def fw (l : List PRow) : List PRow := (sortU (lows l)).zip (sortU (highs l))
theorem lows_mem {l : List PRow} (v : Val l) (k : Int) : k ∈ lows l ↔ has l k ∧ ¬ has l (k - 1) := by
  rw [low_iff v]
  unfold lows
  simp only [List.mem_map, List.mem_filter, Bool.not_eq_true', ← Bool.not_eq_true, hasB_iff]
  constructor
  · rintro ⟨p, ⟨hp, h⟩, rfl⟩
    exact ⟨⟨p, hp, rfl⟩, h⟩
  · rintro ⟨⟨p, hp, rfl⟩, h⟩
    exact ⟨p, ⟨hp, h⟩, rfl⟩
theorem highs_mem {l : List PRow} (v : Val l) (k : Int) : k ∈ highs l ↔ has l k ∧ ¬ has l (k + 1) := by
  rw [high_iff v]
  unfold highs
  simp only [List.mem_map, List.mem_filter, Bool.not_eq_true', ← Bool.not_eq_true, hasB_iff]
  constructor
  · rintro ⟨p, ⟨hp, h⟩, rfl⟩
    exact ⟨⟨p, hp, rfl⟩, h⟩
  · rintro ⟨⟨p, hp, rfl⟩, h⟩
    exact ⟨p, ⟨hp, h⟩, rfl⟩
/-- of the same numbers: the fewest are the canonical ones -/
theorem fw_eq {l m : List PRow} (v : Val l) (c : Canon m) (e : ∀ x, has l x ↔ has m x) : fw l = m := by
  have h1 : sortU (lows l) = m.map (·.1) := lt_uniq (sortU_sorted _) (canon_fst c) fun k => by
    rw [sortU_mem, lows_mem v, e, e, low_iff c.2, List.mem_map]
    constructor
    · rintro ⟨⟨p, hp, h⟩, _⟩
      exact ⟨p, hp, h⟩
    · rintro ⟨p, hp, rfl⟩
      exact ⟨⟨p, hp, rfl⟩, canon_low c hp⟩
  have h2 : sortU (highs l) = m.map (·.2) := lt_uniq (sortU_sorted _) (canon_snd c) fun k => by
    rw [sortU_mem, highs_mem v, e, e, high_iff c.2, List.mem_map]
    constructor
    · rintro ⟨⟨p, hp, h⟩, _⟩
      exact ⟨p, hp, h⟩
    · rintro ⟨p, hp, rfl⟩
      exact ⟨⟨p, hp, rfl⟩, canon_high c hp⟩
  unfold fw
  rw [h1, h2]
  clear h1 h2 e v c
  induction m with
  | nil => rfl
  | cons p m ih => simp only [List.map_cons, List.zip_cons_cons, ih]
/-- one stretch more -/
def mstep (acc : List PRow) (p : PRow) : List PRow := match acc[acc.length - 1]? with
  | some q => if p.1 ≤ q.2 + 1 then acc.set (acc.length - 1) (q.1, if p.2 > q.2 then p.2 else q.2) else acc ++ [p]
  | none => [p]
theorem mstep_nil (p : PRow) : mstep [] p = [p] := rfl
theorem mstep_snoc (i : List PRow) (q p : PRow) : mstep (i ++ [q]) p = if p.1 ≤ q.2 + 1 then i ++ [(q.1, if p.2 > q.2 then p.2 else q.2)] else i ++ [q] ++ [p] := by
  unfold mstep
  have e : (i ++ [q]).length - 1 = i.length := by simp
  rw [e]
  simp only [List.getElem?_append_right (Nat.le_refl i.length), Nat.sub_self, List.getElem?_cons_zero]
  split
  · rw [List.set_append_right _ _ (Nat.le_refl _), Nat.sub_self]
    rfl
  · rfl
theorem has_append {l m : List PRow} {x : Int} : has (l ++ m) x ↔ has l x ∨ has m x := by
  unfold has
  constructor
  · rintro ⟨p, hp, h⟩
    rcases List.mem_append.mp hp with hp | hp
    · exact .inl ⟨p, hp, h⟩
    · exact .inr ⟨p, hp, h⟩
  · rintro (⟨p, hp, h⟩ | ⟨p, hp, h⟩)
    · exact ⟨p, List.mem_append_left _ hp, h⟩
    · exact ⟨p, List.mem_append_right _ hp, h⟩
theorem has_one {p : PRow} {x : Int} : has [p] x ↔ p.1 ≤ x ∧ x ≤ p.2 := by
  unfold has
  constructor
  · rintro ⟨q, hq, h⟩
    rw [List.mem_singleton.mp hq] at h
    exact h
  · exact fun h => ⟨p, List.mem_singleton_self _, h⟩
theorem canon_snoc {i : List PRow} {q : PRow} : Canon (i ++ [q]) ↔ Canon i ∧ q.1 ≤ q.2 ∧ ∀ p ∈ i, p.2 + 1 < q.1 := by
  unfold Canon
  rw [List.pairwise_append]
  constructor
  · rintro ⟨⟨h1, _, h3⟩, h4⟩
    exact ⟨⟨h1, fun p hp => h4 p (List.mem_append_left _ hp)⟩, h4 q (by simp), fun p hp => h3 p hp q (by simp)⟩
  · rintro ⟨⟨h1, h2⟩, h3, h4⟩
    refine ⟨⟨h1, List.pairwise_singleton .., fun p hp r hr => ?_⟩, fun p hp => ?_⟩
    · rw [List.mem_singleton.mp hr]
      exact h4 p hp
    · rcases List.mem_append.mp hp with hp | hp
      · exact h2 p hp
      · rw [List.mem_singleton.mp hp]
        exact h3
/-- all of a canonical list lie at its last one's begin or ahead of it -/
def Ahead (acc : List PRow) (p : PRow) : Prop := ∀ q ∈ acc, q.1 ≤ p.1
theorem mstep_ok {acc : List PRow} {p : PRow} (c : Canon acc) (a : Ahead acc p) (hp : p.1 ≤ p.2) : Canon (mstep acc p) ∧ (∀ x, has (mstep acc p) x ↔ has acc x ∨ has [p] x) ∧ ∀ r, p.1 ≤ r.1 → Ahead (mstep acc p) r := by
  rcases List.eq_nil_or_concat acc with rfl | ⟨i, q, rfl⟩
  · rw [mstep_nil]
    refine ⟨⟨List.pairwise_singleton .., fun r hr => by rw [List.mem_singleton.mp hr]; exact hp⟩, fun x => ?_, fun r hr s hs => by rw [List.mem_singleton.mp hs]; exact hr⟩
    constructor
    · exact fun h => .inr h
    · rintro (⟨_, h, _⟩ | h)
      · cases h
      · exact h
  · rw [List.concat_eq_append] at c a ⊢
    rw [mstep_snoc]
    obtain ⟨c1, c2, c3⟩ := canon_snoc.mp c
    have hq : q.1 ≤ p.1 := a q (by simp)
    split
    · rename_i hm
      refine ⟨canon_snoc.mpr ⟨c1, by dsimp only; split <;> omega, c3⟩, fun x => ?_, fun r hr s hs => ?_⟩
      · rw [has_append, has_append, has_one, has_one, has_one]
        dsimp only
        constructor
        · rintro (h | ⟨h1, h2⟩)
          · exact .inl (.inl h)
          · split at h2
            · by_cases z : x ≤ q.2
              · exact .inl (.inr ⟨h1, z⟩)
              · exact .inr ⟨by omega, h2⟩
            · exact .inl (.inr ⟨h1, h2⟩)
        · rintro ((h | ⟨h1, h2⟩) | ⟨h1, h2⟩)
          · exact .inl h
          · exact .inr ⟨h1, by split <;> omega⟩
          · exact .inr ⟨by omega, by split <;> omega⟩
      · rcases List.mem_append.mp hs with hs | hs
        · have := c3 s hs
          have := c1.2 s hs
          omega
        · rw [List.mem_singleton.mp hs]
          dsimp only
          omega
    · rename_i hm
      refine ⟨canon_snoc.mpr ⟨c, hp, fun s hs => ?_⟩, fun x => has_append, fun r hr s hs => ?_⟩
      · rcases List.mem_append.mp hs with hs | hs
        · have := c3 s hs
          omega
        · rw [List.mem_singleton.mp hs]
          omega
      · rcases List.mem_append.mp hs with hs | hs
        · have := a s hs
          omega
        · rw [List.mem_singleton.mp hs]
          exact hr
def merge (l : List PRow) : List PRow := l.foldl mstep []
theorem merge_go : ∀ (l acc : List PRow), Canon acc → (∀ p ∈ l, Ahead acc p) → Val l → l.Pairwise leP → Canon (l.foldl mstep acc) ∧ ∀ x, has (l.foldl mstep acc) x ↔ has acc x ∨ has l x
  | [], acc, c, _, _, _ => ⟨c, fun x => ⟨fun h => .inl h, fun h => h.elim id fun ⟨_, z, _⟩ => by cases z⟩⟩
  | p :: l, acc, c, a, v, s => by
    have s1 := List.pairwise_cons.mp s
    obtain ⟨m1, m2, m3⟩ := mstep_ok c (a p List.mem_cons_self) (v p List.mem_cons_self)
    obtain ⟨r1, r2⟩ := merge_go l (mstep acc p) m1 (fun q hq => m3 q (by have := s1.1 q hq; unfold leP at this; omega)) (fun q hq => v q (List.mem_cons_of_mem _ hq)) s1.2
    refine ⟨r1, fun x => ?_⟩
    rw [List.foldl_cons, r2, m2, or_assoc, ← has_append]
    rfl
theorem merge_eq {l : List PRow} (v : Val l) : merge (sortP l) = fw l := by
  have v2 : Val (sortP l) := fun p hp => v p ((sortP_perm l).mem_iff.mp hp)
  obtain ⟨c, e⟩ := merge_go (sortP l) [] ⟨.nil, fun _ h => by cases h⟩ (fun _ _ q hq => by cases hq) v2 (sortP_sorted l)
  refine (fw_eq v c fun x => ?_).symm
  rw [e]
  constructor
  · rintro ⟨p, hp, h⟩
    exact .inr ⟨p, (sortP_perm l).mem_iff.mpr hp, h⟩
  · rintro (⟨_, h, _⟩ | ⟨p, hp, h⟩)
    · cases h
    · exact ⟨p, (sortP_perm l).mem_iff.mp hp, h⟩
theorem fw_canon {l : List PRow} (v : Val l) : Canon (fw l) := by
  rw [← merge_eq v]
  have v2 : Val (sortP l) := fun p hp => v p ((sortP_perm l).mem_iff.mp hp)
  exact (merge_go (sortP l) [] ⟨.nil, fun _ h => by cases h⟩ (fun _ _ q hq => by cases hq) v2 (sortP_sorted l)).1
theorem fw_has {l : List PRow} (v : Val l) (x : Int) : has (fw l) x ↔ has l x := by
  have v2 : Val (sortP l) := fun p hp => v p ((sortP_perm l).mem_iff.mp hp)
  rw [← merge_eq v, (show merge (sortP l) = (sortP l).foldl mstep [] from rfl), (merge_go (sortP l) [] ⟨.nil, fun _ h => by cases h⟩ (fun _ _ q hq => by cases hq) v2 (sortP_sorted l)).2]
  constructor
  · rintro (⟨_, h, _⟩ | ⟨p, hp, h⟩)
    · cases h
    · exact ⟨p, (sortP_perm l).mem_iff.mp hp, h⟩
  · rintro ⟨p, hp, h⟩
    exact .inr ⟨p, (sortP_perm l).mem_iff.mpr hp, h⟩
end MP
set_option Elab.async false
set_option linter.all false
set_option maxRecDepth 100000
set_option maxHeartbeats 4000000
/-! mirrors: comprehensions and loops that change nothing, plainly -/
namespace MP
open PySem PySem.Spec L2
theorem compL_map {α : Type} {ok : AH → Bool} {own : List Nat} {g : CT} {t : MT} {e : ME} {s : Sl} {h : AH} (k : α → D) (p : α → Bool) (f : α → D) (hok : ok h = true) :
    ∀ (as : List α) (acc : List D), (∀ a ∈ as, ∃ s1, g.set (k a) (wipeD s own) = some s1 ∧ t s1 h = .ok (p a) h ∧ (p a = true → e s1 h = .ok (f a) h)) → acc.length + as.length ≤ 100000 →
      compL ok own g t e (as.map k) s h acc = .ok (acc ++ (as.filter p).map f) h
  | [], acc, _, _ => by simp [compL, hok]
  | a :: as, acc, st, hl => by
    obtain ⟨s1, e1, e2, e3⟩ := st a List.mem_cons_self
    have ih := fun acc' => compL_map (ok := ok) (own := own) (g := g) (t := t) (e := e) (s := s) (h := h) k p f hok as acc' fun b hb => st b (List.mem_cons_of_mem _ hb)
    rw [List.length_cons] at hl
    simp only [List.map_cons, compL, hok, if_pos, e1, e2]
    cases hp : p a with
    | true =>
      simp only [if_pos, e3 hp, if_pos (show acc.length < 100000 by omega)]
      rw [ih (acc ++ [f a]) (by simp; omega), List.filter_cons_of_pos hp]
      simp
    | false =>
      simp only [Bool.false_eq_true, if_false]
      rw [ih acc (by omega), List.filter_cons_of_neg (by simp [hp])]
theorem blsL_map {α : Type} (q : α → Bool) (as : List α) : blsL (as.map fun a => .bl (q a)) = some (as.map q) := by
  induction as with
  | nil => rfl
  | cons a as ih => simp only [List.map_cons, blsL, ih]
theorem intsL_mapf {α : Type} (q : α → Int) (as : List α) : intsL (as.map fun a => .int (q a)) = some (as.map q) := by
  induction as with
  | nil => rfl
  | cons a as ih => simp only [List.map_cons, intsL, ih]
theorem pairsL_map (ps : List PRow) : pairsL (ps.map tupP) = some ps := by
  induction ps with
  | nil => rfl
  | cons p ps ih => simp only [List.map_cons, tupP, pairsL, ih]
theorem filter_true {α : Type} (as : List α) : as.filter (fun _ => true) = as := by
  induction as with
  | nil => rfl
  | cons a as ih => simp [ih]
theorem zipD_ints (xs ys : List Int) : zipD (xs.map .int) (ys.map .int) = (xs.zip ys).map tupP := by
  unfold zipD
  rw [List.zip_map, List.map_map]
  rfl
theorem kc0 : ((0 : Nat) : Int) = 0 := rfl
theorem kc1 : ((1 : Nat) : Int) = 1 := rfl
theorem kc2 : ((2 : Nat) : Int) = 2 := rfl
theorem kc3 : ((3 : Nat) : Int) = 3 := rfl
theorem kc4 : ((4 : Nat) : Int) = 4 := rfl
theorem kc5 : ((5 : Nat) : Int) = 5 := rfl
theorem kc6 : ((6 : Nat) : Int) = 6 := rfl
theorem kc7 : ((7 : Nat) : Int) = 7 := rfl
theorem kc8 : ((8 : Nat) : Int) = 8 := rfl
theorem kc9 : ((9 : Nat) : Int) = 9 := rfl
theorem kc10 : ((10 : Nat) : Int) = 10 := rfl
theorem kc11 : ((11 : Nat) : Int) = 11 := rfl
theorem kc12 : ((12 : Nat) : Int) = 12 := rfl
theorem kc13 : ((13 : Nat) : Int) = 13 := rfl
theorem kc14 : ((14 : Nat) : Int) = 14 := rfl
theorem kc15 : ((15 : Nat) : Int) = 15 := rfl
theorem kc16 : ((16 : Nat) : Int) = 16 := rfl
theorem kc17 : ((17 : Nat) : Int) = 17 := rfl
theorem kc18 : ((18 : Nat) : Int) = 18 := rfl
theorem kc19 : ((19 : Nat) : Int) = 19 := rfl
theorem kc20 : ((20 : Nat) : Int) = 20 := rfl

/-! ### rows as data -/
def rowPD (p : PRow) : PyData := .tuple [.int p.1, .int p.2]
theorem pdL_rows (ps : List PRow) : pdL (ps.map tupP) = some (ps.map rowPD) := by
  induction ps with
  | nil => rfl
  | cons p ps ih =>
    simp only [List.map_cons, pdL, ih]
    rfl
theorem lay_rows (ps : List PRow) : PyData.canLayAll0 (ps.map rowPD) = true := by
  induction ps with
  | nil => simp [PyData.canLayAll0]
  | cons p ps ih => simp [PyData.canLayAll0, rowPD, PyData.canLay0, ih]
theorem depth_rows (ps : List PRow) : PyData.depthAll (ps.map rowPD) ≤ 1 := by
  induction ps with
  | nil => simp [PyData.depthAll]
  | cons p ps ih =>
    have e : PyData.depth (rowPD p) = 1 := by simp [rowPD, PyData.depth, PyData.depthAll]
    simp only [List.map_cons, PyData.depthAll, e]
    omega
theorem shaped_rowsL (ps : List PRow) : SeqAt.shaped (.list (ps.map rowPD)) = true := by
  have := depth_rows ps
  simp only [SeqAt.shaped, PyData.canLay0, lay_rows, PyData.depth, Bool.true_and, decide_eq_true_eq]
  exact decide_eq_true (by omega)
theorem shaped_rowsT (ps : List PRow) : SeqAt.shaped (.tuple (ps.map rowPD)) = true := by
  have := depth_rows ps
  simp only [SeqAt.shaped, PyData.canLay0, lay_rows, PyData.depth, Bool.true_and, decide_eq_true_eq]
  exact decide_eq_true (by omega)
theorem eqb_nilL {h : AH} {b : Nat} {ps : List PRow} (e : h.g b = some (.lst (ps.map tupP))) : pEqB h (.ref b) (.lst []) = some ps.isEmpty := by
  have h1 : pd h (.ref b) = some (.list (ps.map rowPD)) := by simp only [pd, e, pdL_rows]
  have h2 : pd h (.lst []) = some (.list []) := rfl
  have h3 : SeqAt.shaped (.list []) = true := shaped_rowsL []
  have h4 : sEq (.ref b) (.lst []) = none := rfl
  unfold pEqB
  rw [h4]
  simp only [h1, h2]
  rw [if_pos ⟨shaped_rowsL ps, h3⟩]
  cases ps with
  | nil => simp [PyData.eqv, PyData.eqvAll]
  | cons p ps => simp [PyData.eqv, PyData.eqvAll]
theorem eqb_nilT {h : AH} {ps : List PRow} : pEqB h (.tup (ps.map tupP)) (.tup []) = some ps.isEmpty := by
  have h1 : pd h (.tup (ps.map tupP)) = some (.tuple (ps.map rowPD)) := by simp only [pd, pdI, pdL_rows]
  have h2 : pd h (.tup []) = some (.tuple []) := rfl
  have h3 : SeqAt.shaped (.tuple []) = true := shaped_rowsT []
  have h4 : sEq (.tup (ps.map tupP)) (.tup []) = none := rfl
  unfold pEqB
  rw [h4]
  simp only [h1, h2]
  rw [if_pos ⟨shaped_rowsT ps, h3⟩]
  cases ps with
  | nil => simp [PyData.eqv, PyData.eqvAll]
  | cons p ps => simp [PyData.eqv, PyData.eqvAll]
theorem eqb_rows {h : AH} {ps : List PRow} : pEqB h (.tup (ps.map tupP)) (.tup (ps.map tupP)) = some true :=
  eqb_self rfl (p := .tuple (ps.map rowPD)) (by simp only [pd, pdI, pdL_rows]) (shaped_rowsT ps)
theorem at_last {α β : Type} (f : α → β) (i : List α) (q : α) : atI ((i ++ [q]).map f) (-1) = some (f q) := by
  have e : ixN ((i ++ [q]).map f).length (-1) = some i.length := by
    rw [List.length_map, List.length_append, List.length_singleton]
    exact ixN_m1 _
  unfold atI
  rw [e]
  simp
theorem ix_last {α β : Type} (f : α → β) (i : List α) (q : α) : ixN ((i ++ [q]).map f).length (-1) = some i.length := by
  rw [List.length_map, List.length_append, List.length_singleton]
  exact ixN_m1 _
theorem set_last {α β : Type} (f : α → β) (i : List α) (q r : α) : ((i ++ [q]).map f).set i.length (f r) = (i ++ [r]).map f := by
  rw [List.map_append, List.set_append_right _ _ (by simp)]
  simp
end MP
set_option Elab.async false
set_option linter.all false
set_option maxRecDepth 100000
set_option maxHeartbeats 4000000
/-! mirrors: comprehensions of two clauses -/
namespace MP
open PySem PySem.Spec L2
open PyProof.Rows hiding St
def compL2 (ok : AH → Bool) (own own1 : List Nat) (g : CT) (t : MT) (mi1 : MI) (g1 : CT) (t1 : MT) (e : ME) : List D → Sl → AH → List D → Res (List D)
  | [], _, h, acc => if ok h = true then .ok acc h else .st
  | x :: xs, s, h, acc => if ok h = true then match g.set x (wipeD s own) with
    | some s1 => match t s1 h with
      | .ok b h2 => if b = true then match mi1 s1 h2 with
          | .ok k1 h3 => (compL k1.ok own1 g1 t1 e k1.xs s1 h3 acc).bind fun acc2 h4 => compL2 ok own own1 g t mi1 g1 t1 e xs s h4 acc2
          | _ => .st
        else compL2 ok own own1 g t mi1 g1 t1 e xs s h2 acc
      | _ => .st
    | none => .st
    else .st
def eComp2 (own own1 : List Nat) (m : MI) (g : CT) (t : MT) (m1 : MI) (g1 : CT) (t1 : MT) (e : ME) : ME := fun s h => (m s h).bind fun k h1 => (compL2 k.ok own own1 g t m1 g1 t1 e k.xs s h1 []).bind fun ys h2 => .ok (.lst ys) h2
def eComp2N (own own1 : List Nat) (m : MI) (g : CT) (t : MT) (m1 : MI) (g1 : CT) (t1 : MT) (e : ME) : ME := fun s h => (m s h).bind fun k h1 => (compL2 k.ok own own1 g t m1 g1 t1 e k.xs s h1 []).bind fun ys h2 => .ok (.ref h2.n) (h2.new (.lst ys))
theorem Mo.trans {c c1 c2 : Cf} (x : Mo c c1) (y : Mo c1 c2) : Mo c c2 :=
  ⟨Nat.le_trans x.n y.n, fun k hk => (y.ρ k (Nat.lt_of_lt_of_le hk x.n)).trans (x.ρ k hk), fun a u e n => y.keepG a u (x.keepG a u e n) (x.noid a (by rw [e]; exact nofun) n),
    fun a e n => by
      cases q : c.G a with
      | none => exact absurd q e
      | some u => exact y.noid a (by rw [x.keepG a u q n]; exact nofun) (x.noid a e n)⟩
theorem bind_assoc {α β γ : Type} (r : Res α) (f : α → AH → Res β) (k : β → AH → Res γ) : (r.bind f).bind k = r.bind fun a h => (f a h).bind k := by cases r <;> rfl
section
variable {X : Cx} {T : Nat → Addr} {W : WX} {a b e o tg iter tg1 iter1 : Expr} {pos : Pos}
theorem lc2_ok {mi mi1 : MI} {g g1 : CT} {mt mt1 : MT} {me : ME} {own own1 : List Nat} {σ : L2.St} {H : Hp} {Q : VK} (hs : g.sub own = true) (hs1 : g1.sub own1 = true) {c : Cf} {s : Sl} {h : AH} (R0 : Rel (Wd.mk X.K T) c h H) (S : RelS (Wd.mk X.K T) c s σ) {fin : List D → AH → Res D}
    (o : Out (Wd.mk X.K T) c H (fun cls dd H' => W cls dd σ H') (Rep (Wd.mk X.K T)) Q ((mi s h).bind fun k h1 => (compL2 k.ok own own1 g mt mi1 g1 mt1 me k.xs s h1 []).bind fun ys h2 => fin ys h2))
    (hf : ∀ c1 H1 c2 h2 H2 ys vs p, Rel (Wd.mk X.K T) c2 h2 H2 → Ext c1 H1 c2 H2 → H1 p = none → c2.G p = none → H2 p = some (.lst vs) → RepL (Wd.mk X.K T) c2 ys vs → Out (Wd.mk X.K T) c1 H1 (fun cls dd H' => W cls dd σ H') (Rep (Wd.mk X.K T)) Q (fin ys h2) → Q (.ref p) H2) :
    tLc2 (tI (Wd.mk X.K T) W mi) (g.tgt X.K) (tT (Wd.mk X.K T) (fun _ _ _ _ => False) mt) (tI (Wd.mk X.K T) (fun _ _ _ _ => False) mi1) (g1.tgt X.K) (tT (Wd.mk X.K T) (fun _ _ _ _ => False) mt1) (tM (Wd.mk X.K T) (fun _ _ _ _ => False) me) own own1 σ H Q := by
  have o1 : OutW (Wd.mk X.K T) c H (fun cls dd H' => W cls dd σ H') (fun J H1 => ∃ c1 h1 k, Rel (Wd.mk X.K T) c1 h1 H1 ∧ Ext c H c1 H1 ∧ ItOk (Wd.mk X.K T) c1 H1 J k ∧ Out (Wd.mk X.K T) c1 H1 (fun cls dd H' => W cls dd σ H') (Rep (Wd.mk X.K T)) Q ((compL2 k.ok own own1 g mt mi1 g1 mt1 me k.xs s h1 []).bind fin)) (mi s h) := by
    cases q : mi s h with
    | ok k h1 => rw [q] at o; exact fun c' J H' R' E' i => ⟨c', h1, k, R', E', i, Out.shift E' o⟩
    | ex e h1 => rw [q] at o; exact o
    | st => rw [q] at o; exact o
  refine ⟨c, s, h, R0, S, OutW.mono ?_ o1⟩
  rintro J H1 ⟨c1, h1, k, R1, E1, hit, o2⟩ p hp
  have S1 := S.ext E1
  refine ⟨fun i m H' => i ≤ k.xs.length ∧ m = k.xs.length - i ∧ ∃ c' h' acc vs, Rel (Wd.mk X.K T) c' h' H' ∧ RelS (Wd.mk X.K T) c' s σ ∧ Ext c1 H1 c' H' ∧ c'.G p = none ∧ H' p = some (.lst vs) ∧ RepL (Wd.mk X.K T) c' acc vs ∧ acc.length ≤ 100000 ∧
      Out (Wd.mk X.K T) c1 H1 (fun cls dd H' => W cls dd σ H') (Rep (Wd.mk X.K T)) Q ((compL2 k.ok own own1 g mt mi1 g1 mt1 me (k.xs.drop i) s h' acc).bind fin),
    ⟨_, Nat.zero_le _, rfl, c1, h1, [], [], R1.priv (R1.gfree hp), S1, (Ext.refl R1.sub).priv hp, R1.gfree hp, upd_same, .nil, Nat.zero_le _, by rw [List.drop_zero]; exact o2⟩, ?_⟩
  rintro i m H' ⟨hil, rfl, c', h', acc, vs, R', S', E', gp, hD, ra, la, o'⟩
  by_cases hlt : i < k.xs.length
  · right
    have hd : k.xs.drop i = k.xs[i] :: k.xs.drop (i + 1) := List.drop_eq_getElem_cons hlt
    rw [hd] at o'
    simp only [compL2] at o'
    split at o'
    · rename_i hk
      have hi := (hit c' h' H' i R' E'.mo hk).2 k.xs[i] (by simp [hlt])
      refine ⟨hi.1, fun H2 => ∃ c' h' acc vs, Rel (Wd.mk X.K T) c' h' H2 ∧ RelS (Wd.mk X.K T) c' s σ ∧ Ext c1 H1 c' H2 ∧ c'.G p = none ∧ H2 p = some (.lst vs) ∧ RepL (Wd.mk X.K T) c' acc vs ∧ acc.length ≤ 100000 ∧
        Out (Wd.mk X.K T) c1 H1 (fun cls dd H' => W cls dd σ H') (Rep (Wd.mk X.K T)) Q ((compL2 k.ok own own1 g mt mi1 g1 mt1 me (k.xs.drop (i + 1)) s h' acc).bind fin), fun H2 q => ⟨_, Nat.sub_lt_sub_left hlt (Nat.lt_succ_self i), hlt, rfl, q⟩, fun x H2 y => ?_⟩
      obtain ⟨c2, R2, E2, r2⟩ := hi.2 x H2 y
      cases q : g.set k.xs[i] (wipeD s own) with
      | none => rw [q] at o'; exact o'.elim
      | some s1 =>
        rw [q] at o'
        dsimp only at o'
        refine ct_ok (w := (Wd.mk X.K T)) R2 (S'.ext E2) r2 q hs fun σ2 S2 hw => ⟨hw, ?_⟩
        have nid := R'.noidG gp
        have kp : ∀ {c3 H3}, Ext c' H' c3 H3 → c3.G p = none ∧ H3 p = some (.lst vs) := fun e => ⟨e.gnone gp (by rw [hD]; exact nofun), e.keep p _ hD nid⟩
        refine ⟨c2, s1, h', R2, S2, ?_⟩
        cases q2 : mt s1 h' with
        | ok bb h3 =>
          rw [q2] at o'
          dsimp only at o'
          intro c3 b3 H3 R3 E3 e3
          subst e3
          have E23 := E2.trans E3
          cases bb with
          | false =>
            rw [if_neg Bool.false_ne_true] at o' ⊢
            exact ⟨c3, h3, acc, vs, R3, S'.ext E23, E'.trans E23, (kp E23).1, (kp E23).2, ra.ext E23, la, o'⟩
          | true =>
            rw [if_pos rfl] at o' ⊢
            refine ⟨c3, s1, h3, R3, S2.ext E3, ?_⟩
            cases q3 : mi1 s1 h3 with
            | ok k1 h4 =>
              rw [q3] at o'
              dsimp only at o'
              rw [bind_assoc] at o'
              intro c4 J1 H4 R4 E4 it1
              have E24 := E23.trans E4
              refine ⟨fun j m H' => j ≤ k1.xs.length ∧ m = k1.xs.length - j ∧ ∃ c' h' acc vs, Rel (Wd.mk X.K T) c' h' H' ∧ RelS (Wd.mk X.K T) c' s1 σ2 ∧ RelS (Wd.mk X.K T) c' s σ ∧ Mo c4 c' ∧ Ext c1 H1 c' H' ∧ c'.G p = none ∧ H' p = some (.lst vs) ∧ RepL (Wd.mk X.K T) c' acc vs ∧ acc.length ≤ 100000 ∧
                Out (Wd.mk X.K T) c1 H1 (fun cls dd H' => W cls dd σ H') (Rep (Wd.mk X.K T)) Q ((compL k1.ok own1 g1 mt1 me (k1.xs.drop j) s1 h' acc).bind fun acc2 h4 => (compL2 k.ok own own1 g mt mi1 g1 mt1 me (k.xs.drop (i + 1)) s h4 acc2).bind fin),
                ⟨_, Nat.zero_le _, rfl, c4, h4, acc, vs, R4, (S2.ext E3).ext E4, S'.ext E24, (Ext.refl R4.sub).mo, E'.trans E24, (kp E24).1, (kp E24).2, ra.ext E24, la, by rw [List.drop_zero]; exact o'⟩, ?_⟩
              clear o' q3 q2 q kp nid ra la gp hD vs acc
              rintro j m H5 ⟨hjl, rfl, c5, h5, acc, vs, R5, S5, T5, M5, E5, gp, hD, ra, la, o5⟩
              by_cases hlt1 : j < k1.xs.length
              · right
                have hd : k1.xs.drop j = k1.xs[j] :: k1.xs.drop (j + 1) := List.drop_eq_getElem_cons hlt1
                rw [hd] at o5
                simp only [compL] at o5
                split at o5
                · rename_i hk1
                  have hi1 := (it1 c5 h5 H5 j R5 M5 hk1).2 k1.xs[j] (by simp [hlt1])
                  refine ⟨hi1.1, fun H' => ∃ c' h' acc vs, Rel (Wd.mk X.K T) c' h' H' ∧ RelS (Wd.mk X.K T) c' s1 σ2 ∧ RelS (Wd.mk X.K T) c' s σ ∧ Mo c4 c' ∧ Ext c1 H1 c' H' ∧ c'.G p = none ∧ H' p = some (.lst vs) ∧ RepL (Wd.mk X.K T) c' acc vs ∧ acc.length ≤ 100000 ∧
                    Out (Wd.mk X.K T) c1 H1 (fun cls dd H' => W cls dd σ H') (Rep (Wd.mk X.K T)) Q ((compL k1.ok own1 g1 mt1 me (k1.xs.drop (j + 1)) s1 h' acc).bind fun acc2 h4 => (compL2 k.ok own own1 g mt mi1 g1 mt1 me (k.xs.drop (i + 1)) s h4 acc2).bind fin),
                    fun H2 q => ⟨_, Nat.sub_lt_sub_left hlt1 (Nat.lt_succ_self j), hlt1, rfl, q⟩, fun x H6 y => ?_⟩
                  obtain ⟨c6, R6, E6, r6⟩ := hi1.2 x H6 y
                  cases q : g1.set k1.xs[j] (wipeD s1 own1) with
                  | none => rw [q] at o5; exact o5.elim
                  | some s6 =>
                    rw [q] at o5
                    dsimp only at o5
                    refine ct_ok (w := (Wd.mk X.K T)) R6 (S5.ext E6) r6 q hs1 fun σ3 S6 hw => ⟨hw, ?_⟩
                    have nid := R5.noidG gp
                    have kp : ∀ {c3 H3}, Ext c5 H5 c3 H3 → c3.G p = none ∧ H3 p = some (.lst vs) := fun e => ⟨e.gnone gp (by rw [hD]; exact nofun), e.keep p _ hD nid⟩
                    refine ⟨c6, s6, h5, R6, S6, ?_⟩
                    cases q2 : mt1 s6 h5 with
                    | ok bb h7 =>
                      rw [q2] at o5
                      dsimp only at o5
                      intro c7 b7 H7 R7 E7 e7
                      subst e7
                      have E67 := E6.trans E7
                      cases bb with
                      | false =>
                        rw [if_neg Bool.false_ne_true] at o5 ⊢
                        exact ⟨c7, h7, acc, vs, R7, S5.ext E67, T5.ext E67, M5.trans E67.mo, E5.trans E67, (kp E67).1, (kp E67).2, ra.ext E67, la, o5⟩
                      | true =>
                        rw [if_pos rfl] at o5 ⊢
                        refine ⟨c7, s6, h7, R7, S6.ext E7, ?_⟩
                        cases q4 : me s6 h7 with
                        | ok y h8 =>
                          rw [q4] at o5
                          dsimp only at o5
                          intro c8 v8 H8 R8 E8 r8
                          have E68 := E67.trans E8
                          split at o5
                          · rename_i hl8
                            have g8 := (kp E68).1
                            exact ⟨vs, (kp E68).2, Nat.lt_of_lt_of_le (by rw [← ra.len]; exact hl8) (size5 (Nat.le_refl _)), c8, h8, acc ++ [y], vs ++ [v8], R8.priv g8, S5.ext E68, T5.ext E68, M5.trans E68.mo, (E5.trans E68).priv hp, g8, upd_same, (ra.ext E68).append (.cons r8 .nil), by simp; omega, o5⟩
                          · exact o5.elim
                        | ex e h8 => rw [q4] at o5; exact o5.elim
                        | st => rw [q4] at o5; exact o5.elim
                    | ex e h7 => rw [q2] at o5; exact o5.elim
                    | st => rw [q2] at o5; exact o5.elim
                · exact o5.elim
              · left
                have he : j = k1.xs.length := by omega
                rw [List.drop_eq_nil_of_le (by omega)] at o5
                simp only [compL] at o5
                split at o5
                · rename_i hk1
                  exact ⟨(it1 c5 h5 H5 j R5 M5 hk1).1 he, c5, h5, acc, vs, R5, T5, E5, gp, hD, ra, la, o5⟩
                · exact o5.elim
            | ex e h4 => rw [q3] at o'; exact o'.elim
            | st => rw [q3] at o'; exact o'.elim
        | ex e h4 => rw [q2] at o'; exact o'.elim
        | st => rw [q2] at o'; exact o'.elim
    · exact o'.elim
  · left
    have he : i = k.xs.length := by omega
    rw [List.drop_eq_nil_of_le (by omega)] at o'
    simp only [compL2] at o'
    split at o'
    · rename_i hk
      exact ⟨(hit c' h' H' i R' E'.mo hk).1 he, hf c1 H1 c' h' H' acc vs p R' E' hp gp hD ra o'⟩
    · exact o'.elim
section
variable {elt : Expr} {ifs ifs1 : List Expr} {scope : Scope} {own own1 : List (Str × Nat)} {mi mi1 : MI} {g g1 : CT} {mt mt1 : MT} {me : ME}
theorem r_comp2 (hc : X.calm = true) (hN : X.N.Nodup) (hi : PI X tg iter (tI (Wd.mk X.K T) W mi)) (ok : BlkOk X.N X.env.scope scope own)
    (hg : ∀ (s : Shared) (H : Hp) (C : Addr) (cl : List (Str × Addr)) (fp : List Addr), PG (X.blk s H scope (compEnvC scope cl C X.env) fp) tg (g.tgt X.K))
    (ht : ∀ (s : Shared) (H : Hp) (C : Addr) (cl : List (Str × Addr)) (fp : List Addr), PTs (X.blk s H scope (compEnvC scope cl C X.env) fp) ifs (tT (Wd.mk X.K T) (fun _ _ _ _ => False) mt))
    (hi1 : ∀ (s : Shared) (H : Hp) (C : Addr) (cl : List (Str × Addr)) (fp : List Addr), PI (X.blk s H scope (compEnvC scope cl C X.env) fp) tg1 iter1 (tI (Wd.mk X.K T) (fun _ _ _ _ => False) mi1))
    (hg1 : ∀ (s : Shared) (H : Hp) (C : Addr) (cl : List (Str × Addr)) (fp : List Addr), PG (X.blk s H scope (compEnvC scope cl C X.env) fp) tg1 (g1.tgt X.K))
    (ht1 : ∀ (s : Shared) (H : Hp) (C : Addr) (cl : List (Str × Addr)) (fp : List Addr), PTs (X.blk s H scope (compEnvC scope cl C X.env) fp) ifs1 (tT (Wd.mk X.K T) (fun _ _ _ _ => False) mt1))
    (he : ∀ (s : Shared) (H : Hp) (C : Addr) (cl : List (Str × Addr)) (fp : List Addr), PE (X.blk s H scope (compEnvC scope cl C X.env) fp) elt (tM (Wd.mk X.K T) (fun _ _ _ _ => False) me))
    (hv : ∀ i ∈ own1.map (·.2), i ∈ own.map (·.2) := by decide) (hs : g.sub (own.map (·.2)) = true := by rfl) (hs1 : g1.sub (own1.map (·.2)) = true := by rfl) (hs2 : ∀ x, foldedSetIterable iter X.env x = pure x := by intro _; rfl) (hs3 : ∀ env x, foldedSetIterable iter1 env x = pure x := by intro _ _; rfl) :
    PE X (.ListComp elt [⟨tg, iter, ifs, 0⟩, ⟨tg1, iter1, ifs1, 0⟩] scope pos) (tM (Wd.mk X.K T) W (eComp2 (own.map (·.2)) (own1.map (·.2)) mi g mt mi1 g1 mt1 me)) :=
  PEi (pe_lc2 hc hN hi ok hv hg ht hi1 hg1 ht1 he hs2 hs3) fun σ H Q ⟨c, s, h, R, S, o⟩ => lc2_ok hs hs1 R S o fin_lst
theorem r_comp2N (hc : X.calm = true) (hN : X.N.Nodup) (hi : PI X tg iter (tI (Wd.mk X.K T) W mi)) (ok : BlkOk X.N X.env.scope scope own)
    (hg : ∀ (s : Shared) (H : Hp) (C : Addr) (cl : List (Str × Addr)) (fp : List Addr), PG (X.blk s H scope (compEnvC scope cl C X.env) fp) tg (g.tgt X.K))
    (ht : ∀ (s : Shared) (H : Hp) (C : Addr) (cl : List (Str × Addr)) (fp : List Addr), PTs (X.blk s H scope (compEnvC scope cl C X.env) fp) ifs (tT (Wd.mk X.K T) (fun _ _ _ _ => False) mt))
    (hi1 : ∀ (s : Shared) (H : Hp) (C : Addr) (cl : List (Str × Addr)) (fp : List Addr), PI (X.blk s H scope (compEnvC scope cl C X.env) fp) tg1 iter1 (tI (Wd.mk X.K T) (fun _ _ _ _ => False) mi1))
    (hg1 : ∀ (s : Shared) (H : Hp) (C : Addr) (cl : List (Str × Addr)) (fp : List Addr), PG (X.blk s H scope (compEnvC scope cl C X.env) fp) tg1 (g1.tgt X.K))
    (ht1 : ∀ (s : Shared) (H : Hp) (C : Addr) (cl : List (Str × Addr)) (fp : List Addr), PTs (X.blk s H scope (compEnvC scope cl C X.env) fp) ifs1 (tT (Wd.mk X.K T) (fun _ _ _ _ => False) mt1))
    (he : ∀ (s : Shared) (H : Hp) (C : Addr) (cl : List (Str × Addr)) (fp : List Addr), PE (X.blk s H scope (compEnvC scope cl C X.env) fp) elt (tM (Wd.mk X.K T) (fun _ _ _ _ => False) me))
    (hv : ∀ i ∈ own1.map (·.2), i ∈ own.map (·.2) := by decide) (hs : g.sub (own.map (·.2)) = true := by rfl) (hs1 : g1.sub (own1.map (·.2)) = true := by rfl) (hs2 : ∀ x, foldedSetIterable iter X.env x = pure x := by intro _; rfl) (hs3 : ∀ env x, foldedSetIterable iter1 env x = pure x := by intro _ _; rfl) :
    PE X (.ListComp elt [⟨tg, iter, ifs, 0⟩, ⟨tg1, iter1, ifs1, 0⟩] scope pos) (tM (Wd.mk X.K T) W (eComp2N (own.map (·.2)) (own1.map (·.2)) mi g mt mi1 g1 mt1 me)) :=
  PEi (pe_lc2 hc hN hi ok hv hg ht hi1 hg1 ht1 he hs2 hs3) fun σ H Q ⟨c, s, h, R, S, o⟩ => lc2_ok hs hs1 R S o fin_ref
theorem s_comp2 {i : Nat} {y : Str} {py spos : Pos} (hc : X.calm = true) (hN : X.N.Nodup) (hi : PI X tg iter (tI (Wd.mk X.K T) W mi)) (ok : BlkOk X.N X.env.scope scope own)
    (hg : ∀ (s : Shared) (H : Hp) (C : Addr) (cl : List (Str × Addr)) (fp : List Addr), PG (X.blk s H scope (compEnvC scope cl C X.env) fp) tg (g.tgt X.K))
    (ht : ∀ (s : Shared) (H : Hp) (C : Addr) (cl : List (Str × Addr)) (fp : List Addr), PTs (X.blk s H scope (compEnvC scope cl C X.env) fp) ifs (tT (Wd.mk X.K T) (fun _ _ _ _ => False) mt))
    (hi1 : ∀ (s : Shared) (H : Hp) (C : Addr) (cl : List (Str × Addr)) (fp : List Addr), PI (X.blk s H scope (compEnvC scope cl C X.env) fp) tg1 iter1 (tI (Wd.mk X.K T) (fun _ _ _ _ => False) mi1))
    (hg1 : ∀ (s : Shared) (H : Hp) (C : Addr) (cl : List (Str × Addr)) (fp : List Addr), PG (X.blk s H scope (compEnvC scope cl C X.env) fp) tg1 (g1.tgt X.K))
    (ht1 : ∀ (s : Shared) (H : Hp) (C : Addr) (cl : List (Str × Addr)) (fp : List Addr), PTs (X.blk s H scope (compEnvC scope cl C X.env) fp) ifs1 (tT (Wd.mk X.K T) (fun _ _ _ _ => False) mt1))
    (he : ∀ (s : Shared) (H : Hp) (C : Addr) (cl : List (Str × Addr)) (fp : List Addr), PE (X.blk s H scope (compEnvC scope cl C X.env) fp) elt (tM (Wd.mk X.K T) (fun _ _ _ _ => False) me))
    (hsw : swapsWith (.ListComp elt [⟨tg, iter, ifs, 0⟩, ⟨tg1, iter1, ifs1, 0⟩] scope pos) (some (.Name y py)) spos.line X.env = pure true) (hy : X.N[i]? = some y := by rfl) (hyl : X.env.scope.names.lookup y = some .local := by rfl)
    (hv : ∀ i ∈ own1.map (·.2), i ∈ own.map (·.2) := by decide) (hs : g.sub (own.map (·.2)) = true := by rfl) (hs1 : g1.sub (own1.map (·.2)) = true := by rfl) (hs2 : ∀ x, foldedSetIterable iter X.env x = pure x := by intro _; rfl) (hs3 : ∀ env x, foldedSetIterable iter1 env x = pure x := by intro _ _; rfl) :
    PS X (.Assign [.Name y py] (.ListComp elt [⟨tg, iter, ifs, 0⟩, ⟨tg1, iter1, ifs1, 0⟩] scope pos) spos) (tS (Wd.mk X.K T) W (sSet i (eComp2 (own.map (·.2)) (own1.map (·.2)) mi g mt mi1 g1 mt1 me))) :=
  PSi (ps_setLc2 hc hN hy hyl hsw hi ok hv hg ht hi1 hg1 ht1 he hs2 hs3) fun D σ H ⟨c, s, h, R, S, o⟩ => by
    have o2 := OutS.bind (A := Rep (Wd.mk X.K T)) S o
    refine lc2_ok (W := W) (Q := fun x H1 => gName i x σ H1 D.nx) hs hs1 R S (fin := fun ys h2 => .ok (.lst ys) h2) (o2.mono ?_) fin_lst
    rintro v H1 ⟨c1, h1, d, R1, E1, r1, o1⟩
    exact o1 c1 _ H1 R1 (.refl R1.sub) ((S.ext E1).set r1)
theorem s_comp2N {i : Nat} {y : Str} {py spos : Pos} (hc : X.calm = true) (hN : X.N.Nodup) (hi : PI X tg iter (tI (Wd.mk X.K T) W mi)) (ok : BlkOk X.N X.env.scope scope own)
    (hg : ∀ (s : Shared) (H : Hp) (C : Addr) (cl : List (Str × Addr)) (fp : List Addr), PG (X.blk s H scope (compEnvC scope cl C X.env) fp) tg (g.tgt X.K))
    (ht : ∀ (s : Shared) (H : Hp) (C : Addr) (cl : List (Str × Addr)) (fp : List Addr), PTs (X.blk s H scope (compEnvC scope cl C X.env) fp) ifs (tT (Wd.mk X.K T) (fun _ _ _ _ => False) mt))
    (hi1 : ∀ (s : Shared) (H : Hp) (C : Addr) (cl : List (Str × Addr)) (fp : List Addr), PI (X.blk s H scope (compEnvC scope cl C X.env) fp) tg1 iter1 (tI (Wd.mk X.K T) (fun _ _ _ _ => False) mi1))
    (hg1 : ∀ (s : Shared) (H : Hp) (C : Addr) (cl : List (Str × Addr)) (fp : List Addr), PG (X.blk s H scope (compEnvC scope cl C X.env) fp) tg1 (g1.tgt X.K))
    (ht1 : ∀ (s : Shared) (H : Hp) (C : Addr) (cl : List (Str × Addr)) (fp : List Addr), PTs (X.blk s H scope (compEnvC scope cl C X.env) fp) ifs1 (tT (Wd.mk X.K T) (fun _ _ _ _ => False) mt1))
    (he : ∀ (s : Shared) (H : Hp) (C : Addr) (cl : List (Str × Addr)) (fp : List Addr), PE (X.blk s H scope (compEnvC scope cl C X.env) fp) elt (tM (Wd.mk X.K T) (fun _ _ _ _ => False) me))
    (hsw : swapsWith (.ListComp elt [⟨tg, iter, ifs, 0⟩, ⟨tg1, iter1, ifs1, 0⟩] scope pos) (some (.Name y py)) spos.line X.env = pure true) (hy : X.N[i]? = some y := by rfl) (hyl : X.env.scope.names.lookup y = some .local := by rfl)
    (hv : ∀ i ∈ own1.map (·.2), i ∈ own.map (·.2) := by decide) (hs : g.sub (own.map (·.2)) = true := by rfl) (hs1 : g1.sub (own1.map (·.2)) = true := by rfl) (hs2 : ∀ x, foldedSetIterable iter X.env x = pure x := by intro _; rfl) (hs3 : ∀ env x, foldedSetIterable iter1 env x = pure x := by intro _ _; rfl) :
    PS X (.Assign [.Name y py] (.ListComp elt [⟨tg, iter, ifs, 0⟩, ⟨tg1, iter1, ifs1, 0⟩] scope pos) spos) (tS (Wd.mk X.K T) W (sSet i (eComp2N (own.map (·.2)) (own1.map (·.2)) mi g mt mi1 g1 mt1 me))) :=
  PSi (ps_setLc2 hc hN hy hyl hsw hi ok hv hg ht hi1 hg1 ht1 he hs2 hs3) fun D σ H ⟨c, s, h, R, S, o⟩ => by
    have o2 := OutS.bind (A := Rep (Wd.mk X.K T)) S o
    refine lc2_ok (W := W) (Q := fun x H1 => gName i x σ H1 D.nx) hs hs1 R S (fin := fun ys h2 => .ok (.ref h2.n) (h2.new (.lst ys))) (o2.mono ?_) fin_ref
    rintro v H1 ⟨c1, h1, d, R1, E1, r1, o1⟩
    exact o1 c1 _ H1 R1 (.refl R1.sub) ((S.ext E1).set r1)
end
end
end MP
set_option Elab.async false
set_option linter.all false
set_option maxRecDepth 100000
set_option maxHeartbeats 4000000
/-! mirrors: == by an own __eq__ of the text, both of one class -/
namespace MP
open PySem PySem.Spec L2
open PyProof.Rows hiding St
/-- a == b, both instances of the class cl, f its own comparison -/
def eOwn (cl : Nat) (f : MF) (l : List (Src × Nat)) (a b : ME) : ME := fun s h => (a s h).bind fun x h1 => (b s h1).bind fun y h2 => match insOf h2 x, insOf h2 y with
  | some (_, c, _), some (_, c2, _) => if c = cl ∧ c2 = cl then match f (gSel l [x, y] [] [] []) h2 with
    | .ok (.bl r) h3 => .ok (.bl r) h3
    | _ => .st
    else .st
  | _, _ => .st
def rOwn (w : Wd) (cl : Nat) (f : MF) (l : List (Src × Nat)) : R2 := fun x y H Q => ∃ a b dx dy fs gs, x = .ref a ∧ y = .ref b ∧ H a = some (.ins (w.T cl) dx fs) ∧ H b = some (.ins (w.T cl) dy gs) ∧ spM w f (gSel l [.ref a, .ref b] [] [] []) H (fun v H' => (∃ r, v = .bl r) ∧ Q v H') fun _ _ _ => False
section
variable {X : Cx} {T : Nat → Addr} {W : WX} {a b : Expr} {ma mb : ME} {mf : MF} {pos : Pos} {k : Nat} {f : Addr} {fd : FuncData} {ps : List Str} {l : List (Src × Nat)}
theorem op_own {cl : Nat} (me : Meth X.K (T cl) "__eq__" f) (F : Fn X.prog X.w X.K T X.mg X.base k f fd ps mf) (hr : Rm k X.A) (hb : Bd X.K fd ps 2 [] l [] []) :
    OpR X (compareOp .Eq) (rOwn (Wd.mk X.K T) cl mf l) := by
  intro pins s σ H x y v u Q I rx ry hq
  obtain ⟨a, b, dx, dy, fs, gs, rfl, rfl, ha, hb', hsp⟩ := hq
  cases rx
  cases ry
  obtain ⟨mA, J, _⟩ := ins_get I.hok ha
  obtain ⟨mB, J', _⟩ := ins_get I.hok hb'
  obtain ⟨od, J, _⟩ := J.look
  obtain ⟨od', J', _⟩ := J'.look
  obtain ⟨m, hF⟩ := I.fr
  show wpAny (model X.prog X.w) X.A (richCompare .Eq (.ref a) (.ref b)) (EP X pins σ Q) X.xe s
  refine PySem.W.cmp_K (op := .Eq) (tb := .ref (T cl)) hr.r.units0 hF I.ok.mod.kin J J'.type (by simp [PySem.W.notFirst]) me.at_ me.fn ?_
  obtain ⟨its, mw, v1, v2, B⟩ := hb.to
  have B2 := B s [.ref a, .ref b] [] I.kIn rfl rfl
  cases v1
  cases v2
  refine wpAny_mono (run_m (W := fun _ _ _ _ => False) (us := gSel l [Value.ref a, Value.ref b] [] [] []) (vs := gSel l [V.ref a, V.ref b] [] [] []) (args := ⟨[.ref a, .ref b], []⟩) takes0 F hr B2 I (gSel_vals (a := [V.ref a, V.ref b]) (b := [Value.ref a, Value.ref b]) (.cons rfl (.cons rfl .nil)) .nil .nil .nil l) hsp) (fun r s' z => ?_) fun _ _ e => e
  obtain ⟨v, H', I', rv, ⟨r', rfl⟩, q⟩ := z
  cases rv
  exact ⟨.bl r', H', I', rfl, q⟩
theorem r_own {cl : Nat} (me : Meth X.K (T cl) "__eq__" f) (F : Fn X.prog X.w X.K T X.mg X.base k f fd ps mf) (hr : Rm k X.A) (hbd : Bd X.K fd ps 2 [] l [] [])
    (ha : PE X a (tM (Wd.mk X.K T) W ma)) (hb : PE X b (tM (Wd.mk X.K T) W mb)) (hm : behindInMarks .Eq b = false := by rfl) : PE X (.Compare a [.Eq] [b] pos) (tM (Wd.mk X.K T) W (eOwn cl mf l ma mb)) :=
  PEi (pe_cmpR (op_own me F hr hbd) ha hb hm) fun σ H Q z => two z fun c2 s h2 H2 x y v u R2 S2 r1 r2 o => by
    split at o
    · rename_i k1 c1 f1 k2 c2' f2 e1 e2
      split at o
      · rename_i hc
        obtain ⟨rfl, rfl⟩ := hc
        obtain ⟨_, dx, vs, rfl, _, g1, _, _⟩ := insAt R2 r1 e1
        obtain ⟨_, dy, us, rfl, _, g2, _, _⟩ := insAt R2 r2 e2
        refine ⟨_, _, dx, dy, vs, us, rfl, rfl, g1, g2, c2, _, h2, R2, gSel_rep (.cons r1 (.cons r2 .nil)) .nil .nil .nil l, ?_⟩
        split at o
        · rename_i r h3 q
          rw [q]
          intro c3 v3 H3 R3 E3 r3
          simp only [Rep] at r3
          subst r3
          exact ⟨⟨r, rfl⟩, o c3 _ H3 R3 E3 (by simp [Rep])⟩
        · exact o.elim
      · exact o.elim
    · exact o.elim
theorem t_own {cl : Nat} (me : Meth X.K (T cl) "__eq__" f) (F : Fn X.prog X.w X.K T X.mg X.base k f fd ps mf) (hr : Rm k X.A) (hbd : Bd X.K fd ps 2 [] l [] [])
    (ha : PE X a (tM (Wd.mk X.K T) W ma)) (hb : PE X b (tM (Wd.mk X.K T) W mb)) (hm : behindInMarks .Eq b = false := by rfl) : PT X (.Compare a [.Eq] [b] pos) (tT (Wd.mk X.K T) W (tstB (eOwn cl mf l ma mb))) :=
  PTi (pt_cmpR (op_own me F hr hbd) ha hb hm) fun σ H Q z => by
    obtain ⟨c, s, h, R, S, o⟩ := z
    have o : Out (Wd.mk X.K T) c H (fun cls dd H' => W cls dd σ H') (fun _ a b => a = b) Q ((ma s h).bind fun x h1 => (mb s h1).bind fun y h2 => (match insOf h2 x, insOf h2 y with
      | some (_, c, _), some (_, c2, _) => if c = cl ∧ c2 = cl then match mf (gSel l [x, y] [] [] []) h2 with
        | .ok (.bl r) h3 => .ok (.bl r) h3
        | _ => .st
        else .st
      | _, _ => .st : Res D).bind fun d h1 => match d with | .bl b => .ok b h1 | _ => .st) := by
      unfold tstB eOwn at o
      cases q1 : ma s h with
      | ok x h1 =>
        rw [q1] at o
        simp only [Res.bind] at o ⊢
        cases q2 : mb s h1 with
        | ok y h2 => rw [q2] at o; exact o
        | ex e' h' => rw [q2] at o; exact o
        | st => rw [q2] at o; exact o
      | ex e' h' => rw [q1] at o; exact o
      | st => rw [q1] at o; exact o
    refine ⟨c, s, h, R, S, (Out.bind (A := Rep (Wd.mk X.K T)) o).mono ?_⟩
    rintro v H1 ⟨c1, h1, x, R1, E1, r1, o1⟩
    refine ⟨c1, s, h1, R1, S.ext E1, (Out.bind (A := Rep (Wd.mk X.K T)) o1).mono ?_⟩
    rintro u H2 ⟨c2, h2, y, R2, E2, r2, o2⟩
    have r1 := r1.ext E2
    split at o2
    · rename_i k1 c1' f1 k2 c2' f2 e1 e2
      split at o2
      · rename_i hc
        obtain ⟨rfl, rfl⟩ := hc
        obtain ⟨_, dx, vs, rfl, _, g1, _, _⟩ := insAt R2 r1 e1
        obtain ⟨_, dy, us, rfl, _, g2, _, _⟩ := insAt R2 r2 e2
        refine ⟨_, _, dx, dy, vs, us, rfl, rfl, g1, g2, c2, _, h2, R2, gSel_rep (.cons r1 (.cons r2 .nil)) .nil .nil .nil l, ?_⟩
        split at o2
        · rename_i r h3 q
          rw [q]
          intro c3 v3 H3 R3 E3 r3
          simp only [Rep] at r3
          subst r3
          exact ⟨⟨r, rfl⟩, r, rfl, o2 c3 _ H3 R3 E3 rfl⟩
        · exact o2.elim
      · exact o2.elim
    · exact o2.elim
end
end MP
set_option Elab.async false
set_option linter.all false
set_option maxRecDepth 100000
set_option maxHeartbeats 4000000
/-! mirrors: isinstance of an own class, xs[::-1], recursion -/
namespace MP
open PySem PySem.Spec L2
open PyProof.Rows hiding St
open C8 (InsC call_isC pe_gc)
theorem Fn.stuck {P : Program} {w : World} {K : PySem.W.Frag} {T : Nat → Addr} {mg : Str → Option Value} {base : Heap} {k : Nat} {f : Addr} {fd : FuncData} {ps : List Str} : Fn P w K T mg base k f fd ps (fun _ _ => .st) :=
  ⟨fun _ _ _ _ _ _ _ _ _ _ _ _ _ ⟨_, _, _, _, _, o⟩ => o.elim⟩
def tyNames : List String := ["NoneType", "bool", "int", "str", "tuple", "list", "dict"]
def iscB (K : PySem.W.Frag) (C : Addr) : Bool := decide (PySem.W.findIn K (.ref C) "__class__" = some (some (.builtin "object.__class__"))) && (decide (PySem.W.specialIn K (.builtin "object.__class__") "__get__" = some (some (.builtin "getset_descriptor.__get__"))) &&
  (decide (PySem.W.takesIn K (.builtin "object.__class__") = some true) && (decide (PySem.W.mroIn K C (.type "object") = some true) && (decide (PySem.W.kitOne K (.ref C) (.ref C) = some true) && tyNames.all fun t => decide (PySem.W.kitOne K (.type t) (.ref C) = some false)))))
structure Isc (K : PySem.W.Frag) (C : Addr) : Prop where
  c : InsC K C
  no : ∀ t ∈ tyNames, PySem.W.kitOne K (.type t) (.ref C) = some false
theorem isc_ok {K : PySem.W.Frag} {C : Addr} (cl : Cls K C) (h : iscB K C = true) : Isc K C := by
  simp only [iscB, Bool.and_eq_true, decide_eq_true_eq, List.all_eq_true] at h
  obtain ⟨h1, h2, h3, h4, h5, h6⟩ := h
  exact ⟨⟨cl, h1, h2, h3, h4, h5⟩, h6⟩
def eIsiC (cl : Nat) (a : ME) : ME := fun s h => (a s h).bind fun d h1 => match tyName h1 d with
  | some _ => .ok (.bl false) h1
  | none => match insOf h1 d with
    | some (_, c, _) => if c = cl then .ok (.bl true) h1 else .st
    | none => .st
section
variable {X : Cx} {T : Nat → Addr} {W : WX} {a : Expr} {ma : ME} {pos p p2 : Pos}
theorem r_isiC {N : Str} {cl : Nat} (C : Isc X.K (T cl)) (hm : X.mg "isinstance" = none) (hmN : X.mg N = some (.ref (T cl))) (ha : PE X a (tM (Wd.mk X.K T) W ma)) (hg : Gl X "isinstance" := by rfl) (hgN : Gl X N := by rfl) (hdb : (N == ("__debug__" : Str)) = false := by decide)
    (h1 : starEach [a, .Name N p2] X.env = (false, eval a X.env) :: starEach [.Name N p2] X.env := by rfl) (h2 : starEach [.Name N p2] X.env = (false, eval (.Name N p2) X.env) :: starEach [] X.env := by rfl)
    (hpl : (backTo pos (starEach [.Name N p2] X.env)).any (·.1) = false := by rfl) :
    PE X (.Call (.Name "isinstance" p) [a, .Name N p2] [] pos) (tM (Wd.mk X.K T) W (eIsiC cl ma)) :=
  PEi (pe_callB (call_isi.or (call_isC C.c)) hg hm (by decide +kernel) (pa_cons ha (pa_cons (pe_gc (v := .ref (T cl)) hgN ⟨.ref (T cl), hmN, rfl⟩ hdb) pa_nil h2) h1) (by decide) (by decide) h1 hpl) fun σ H Q z =>
    one (f := fun _ d h1 => match tyName h1 d with | some _ => .ok (.bl false) h1 | none => match insOf h1 d with | some (_, c, _) => if c = cl then .ok (.bl true) h1 else .st | none => .st) z fun c2 s h2 H2 x v R2 S2 r1 o => by
      split at o
      · rename_i t et
        obtain ⟨ty, hm⟩ := ty_ok R2 r1 et
        exact .inl ⟨v, .ref (T cl), _, _, false, rfl, .own _, ty, C.no t hm, o c2 _ H2 R2 (.refl R2.sub) (by simp [Rep])⟩
      · split at o
        · rename_i k c fs ei
          split at o
          · rename_i hc
            subst hc
            obtain ⟨aa, dx, vs, rfl, e1, e2, rf, tn⟩ := insAt R2 r1 ei
            exact .inr ⟨_, dx, vs, rfl, e2, o c2 _ H2 R2 (.refl R2.sub) (by simp [Rep])⟩
          · exact o.elim
        · exact o.elim
end
end MP
set_option Elab.async false
set_option linter.all false
set_option maxRecDepth 100000
set_option maxHeartbeats 4000000
/-! mirrors: either of two readings, own len/str/repr, own == against data, f-strings, join, str(int) -/
namespace MP
open PySem PySem.Spec L2
open PyProof.Rows hiding St

/-! ### either of two readings -/
def eAlt (p : Sl → AH → Bool) (a b : ME) : ME := fun s h => if p s h = true then a s h else b s h
def tAlt (p : Sl → AH → Bool) (a b : MT) : MT := fun s h => if p s h = true then a s h else b s h
def gAlt (p : D → Sl → AH → Bool) (a b : MG) : MG := fun d s h => if p d s h = true then a d s h else b d s h
section
variable {X : Cx} {T : Nat → Addr} {W : WX} {e : Expr} {ma mb : ME} {ta tb : MT} {ga gb : MG}
theorem r_alt {p : Sl → AH → Bool} (h1 : PE X e (tM (Wd.mk X.K T) W ma)) (h2 : PE X e (tM (Wd.mk X.K T) W mb)) : PE X e (tM (Wd.mk X.K T) W (eAlt p ma mb)) :=
  ⟨fun pins s σ H Q I ⟨c, sl, h, R, S, o⟩ => by
    unfold eAlt at o
    split at o
    · exact h1.run pins s σ H Q I ⟨c, sl, h, R, S, o⟩
    · exact h2.run pins s σ H Q I ⟨c, sl, h, R, S, o⟩⟩
theorem t_alt {p : Sl → AH → Bool} (h1 : PT X e (tT (Wd.mk X.K T) W ta)) (h2 : PT X e (tT (Wd.mk X.K T) W tb)) : PT X e (tT (Wd.mk X.K T) W (tAlt p ta tb)) :=
  ⟨fun pins s σ H Q I ⟨c, sl, h, R, S, o⟩ => by
    unfold tAlt at o
    split at o
    · exact h1.run pins s σ H Q I ⟨c, sl, h, R, S, o⟩
    · exact h2.run pins s σ H Q I ⟨c, sl, h, R, S, o⟩⟩
theorem g_alt {p : D → Sl → AH → Bool} (h1 : PG X e (tG (Wd.mk X.K T) ga)) (h2 : PG X e (tG (Wd.mk X.K T) gb)) : PG X e (tG (Wd.mk X.K T) (gAlt p ga gb)) :=
  ⟨fun pins s σ H v u Q I r ⟨c, sl, h, d, R, S, r1, o⟩ => by
    unfold gAlt at o
    split at o
    · exact h1.run pins s σ H v u Q I r ⟨c, sl, h, d, R, S, r1, o⟩
    · exact h2.run pins s σ H v u Q I r ⟨c, sl, h, d, R, S, r1, o⟩⟩
end
def isTupD (d : D) (_ : Sl) (_ : AH) : Bool := match seqT d with
  | some _ => true
  | none => false
/-- a, b, .. = a tuple or a list -/
def gSq (n : Nat) (gs : MGs) : MG := gAlt isTupD (gTp n gs) (gLs n gs)
theorem g_sq {X : Cx} {T : Nat → Addr} {ts : List Expr} {k n : Nat} {pos : Pos} {gs : MGs} (hc : X.calm = true) (h : PGs X ts (tGs (Wd.mk X.K T) gs)) (hn : (assignEach ts X.env).length = n := by rfl) (hst : (assignEach ts X.env).findIdx? (·.1) = none := by rfl) : PG X (.Tuple ts k pos) (tG (Wd.mk X.K T) (gSq n gs)) :=
  g_alt (g_tp hc h hn hst) (g_ls hc h hn hst)

/-! ### a built-in that asks the own method: len, repr, str -/
def eOwn1 (cl : Nat) (mf : MF) (ok : D → Bool) (a : ME) : ME := fun s h => (a s h).bind fun x h1 => match insOf h1 x with
  | some (_, c, _) => if c = cl then match mf [x] h1 with
    | .ok r h2 => if ok r = true then .ok r h2 else .st
    | _ => .st
    else .st
  | none => .st
def lenOk : D → Bool
  | .int n => decide (0 ≤ n ∧ n < 9223372036854775808)
  | _ => false
def strOk : D → Bool
  | .str _ => true
  | _ => false
section
variable {X : Cx} {T : Nat → Addr} {W : WX} {k : Nat} {f : Addr} {fd : FuncData} {ps : List Str} {mf : MF} {l : List (Src × Nat)}
/-- a def runs, no error leaves it -/
theorem run_mA {A : Around} {pins : List (Addr × Obj)} {σ : L2.St} {H : Hp} {s : Shared} {Q : VK} {us : List Value} {args : Args} {vs : List V} (F : Fn X.prog X.w X.K T X.mg X.base k f fd ps mf) (hr : Rm k A) (e0 : Env0 X.prog X.w X.K X.mg X.base A X.stack s H) (hb : BindsTo s fd args (ps.zip us))
    (I : Inv X pins σ H s) (r : Vals vs us) (h : spM (Wd.mk X.K T) mf vs H Q fun _ _ _ => False) : wpAny (model X.prog X.w) A (call (.ref f) args.pos args.kw) (EP X pins σ Q) X.xe s :=
  wpAny_call (by
    obtain ⟨ap, ak⟩ := args
    refine codeAny_mono (F.run A X.stack s H ⟨ap, ak⟩ us vs Q (WE (fun _ _ _ _ => False) σ) hr e0 hb r h) fun z s' hq => ?_
    cases z with
    | error e => exact passAt takes0 σ pins H s e s' I hq
    | ok fl =>
      cases fl with
      | ret u => exact I.after hq
      | next => exact False.elim hq
      | brk => exact False.elim hq
      | cont => exact False.elim hq)
def rOwn1 (w : Wd) (cl : Nat) (mf : MF) (ok : V → Prop) : List V → Hp → VK → Prop := fun xs H Q => ∃ a dx fs, xs = [.ref a] ∧ H a = some (.ins (w.T cl) dx fs) ∧ spM w mf [.ref a] H (fun v H' => ok v ∧ Q v H') fun _ _ _ => False
def lenV : V → Prop := fun v => ∃ n : Int, v = .int n ∧ 0 ≤ n ∧ n < 2 ^ 63
def strV : V → Prop := fun v => ∃ x : Str, v = .str x
theorem bind1 (hb : Bd X.K fd ps 1 [] l [] []) (hl : l = [(.us, 0)]) {s : Shared} (hK : X.K.In s.heap) (u : Value) : BindsTo s fd ⟨[u], []⟩ (ps.zip [u]) := by
  obtain ⟨its, mw, v1, v2, B⟩ := hb.to
  cases v1
  cases v2
  have := B s [u] [] hK rfl rfl
  subst hl
  exact this
theorem cr_len {cl : Nat} (me : Meth X.K (T cl) "__len__" f) (F : Fn X.prog X.w X.K T X.mg X.base k f fd ps mf) (hr : Rm (k + 1) X.A) (hb : Bd X.K fd ps 1 [] [(.us, 0)] [] []) :
    CallR X (.builtin "len") (rOwn1 (Wd.mk X.K T) cl mf lenV) := by
  intro pins s σ H xs us Q I r hq
  obtain ⟨a, dx, fs, rfl, ha, hsp⟩ := hq
  obtain ⟨u, rfl, ru⟩ := vals1 r
  cases ru
  obtain ⟨mA, J, _⟩ := ins_get I.hok ha
  obtain ⟨od, J, _⟩ := J.look
  obtain ⟨m, hF⟩ := I.fr
  refine PySem.W.len_K hF I.ok.mod.kin J me.at_ me.fn ?_
  refine wpAny_mono (run_mA (A := X.A.in1) (us := [.ref a]) (vs := [.ref a]) (args := ⟨[.ref a], []⟩) F ⟨hr.r.in1, hr.g⟩ I.env0.in1 (bind1 hb rfl I.kIn _) I (.cons rfl .nil) hsp) (fun v s' z => ?_) fun _ _ e => e
  obtain ⟨v', H', I', rv, ⟨n, rfl, h0, h1⟩, q⟩ := z
  obtain ⟨t, rfl⟩ := rv
  exact ⟨⟨h0, h1⟩, .int n, H', I'.tok _, ⟨_, rfl⟩, q⟩
theorem cr_repr {cl : Nat} (me : Meth X.K (T cl) "__repr__" f) (F : Fn X.prog X.w X.K T X.mg X.base k f fd ps mf) (hr : Rm (k + 1) X.A) (hb : Bd X.K fd ps 1 [] [(.us, 0)] [] []) :
    CallR X (.builtin "repr") (rOwn1 (Wd.mk X.K T) cl mf strV) := by
  intro pins s σ H xs us Q I r hq
  obtain ⟨a, dx, fs, rfl, ha, hsp⟩ := hq
  obtain ⟨u, rfl, ru⟩ := vals1 r
  cases ru
  obtain ⟨mA, J, _⟩ := ins_get I.hok ha
  obtain ⟨od, J, _⟩ := J.look
  obtain ⟨m, hF⟩ := I.fr
  refine PySem.W.repr_K (hr.r.in1).units0 hF I.ok.mod.kin J me.at_ me.fn ?_
  refine wpAny_mono (run_mA (A := X.A.in1) (us := [.ref a]) (vs := [.ref a]) (args := ⟨[.ref a], []⟩) F ⟨hr.r.in1, hr.g⟩ I.env0.in1 (bind1 hb rfl I.kIn _) I (.cons rfl .nil) hsp) (fun v s' z => ?_) fun _ _ e => e
  obtain ⟨v', H', I', rv, ⟨n, rfl⟩, q⟩ := z
  obtain ⟨t, rfl⟩ := rv
  exact ⟨.str n, H', I', ⟨_, rfl⟩, q⟩
theorem cr_str {cl : Nat} (me : Meth X.K (T cl) "__str__" f) (F : Fn X.prog X.w X.K T X.mg X.base k f fd ps mf) (hr : Rm (k + 2) X.A) (hb : Bd X.K fd ps 1 [] [(.us, 0)] [] []) :
    CallR X (.type "str") (rOwn1 (Wd.mk X.K T) cl mf strV) := by
  intro pins s σ H xs us Q I r hq
  obtain ⟨a, dx, fs, rfl, ha, hsp⟩ := hq
  obtain ⟨u, rfl, ru⟩ := vals1 r
  cases ru
  obtain ⟨mA, J, _⟩ := ins_get I.hok ha
  obtain ⟨od, J, _⟩ := J.look
  refine PySem.W.kso_call (hr.r.in1.in1).units0 I.kIn J me.at_ me.fn ?_
  refine wpAny_mono (run_mA (A := X.A.in1.in1) (us := [.ref a]) (vs := [.ref a]) (args := ⟨[.ref a], []⟩) F ⟨hr.r.in1.in1, hr.g⟩ I.env0.in1.in1 (bind1 hb rfl I.kIn _) I (.cons rfl .nil) hsp) (fun v s' z => ?_) fun _ _ e => e
  obtain ⟨v', H', I', rv, ⟨n, rfl⟩, q⟩ := z
  obtain ⟨t, rfl⟩ := rv
  exact ⟨.str n, H', I', ⟨_, rfl⟩, q⟩
variable {e : Expr} {ma : ME} {pos p : Pos} {x : Str} {id : String}
theorem own1_aux {cl : Nat} {ok : D → Bool} {okv : V → Prop} (hok : ∀ c d v, Rep (Wd.mk X.K T) c d v → ok d = true → okv v) {σ : L2.St} {H : Hp} {Q : VK} (z : tM (Wd.mk X.K T) W (eOwn1 cl mf ok ma) σ H Q) :
    tA (Wd.mk X.K T) W (aCons ma aNil) σ H fun xs H1 => rOwn1 (Wd.mk X.K T) cl mf okv xs H1 Q := by
  obtain ⟨c, s, h, R, S, o⟩ := z
  refine ⟨c, s, h, R, S, ?_⟩
  have o : Out (Wd.mk X.K T) c H (fun cls dd H' => W cls dd σ H') (Rep (Wd.mk X.K T)) Q ((ma s h).bind fun x h1 => match insOf h1 x with
    | some (_, c, _) => if c = cl then match mf [x] h1 with
      | .ok r h2 => if ok r = true then .ok r h2 else .st
      | _ => .st
      else .st
    | none => .st) := o
  have o2 := Out.bind (A := Rep (Wd.mk X.K T)) o
  unfold aCons
  cases q : ma s h with
  | ok d h1 =>
    rw [q] at o2
    intro c' vs H' R' E' r'
    obtain ⟨v, rfl, rv⟩ := rpl1 r'
    obtain ⟨c1, h1', d', R1, E1, r1, o1⟩ := o2 c' v H' R' E' rv
    split at o1
    · rename_i kk cc fs ei
      split at o1
      · rename_i hc
        subst hc
        obtain ⟨aa, dx, vs, rfl, e1, e2, rf, tn⟩ := insAt R1 r1 ei
        refine ⟨_, dx, vs, rfl, e2, c1, _, h1', R1, .cons r1 .nil, ?_⟩
        split at o1
        · rename_i rr h2 eq
          rw [eq]
          split at o1
          · rename_i hk
            exact fun c3 v3 H3 R3 E3 r3 => ⟨hok _ _ _ r3 hk, o1 c3 v3 H3 R3 E3 r3⟩
          · exact o1.elim
        · exact o1.elim
      · exact o1.elim
    · exact o1.elim
  | ex e' h' =>
    rw [q] at o2
    exact o2
  | st => rw [q] at o2; exact o2
theorem lenOk_v (w : Wd) : ∀ c d v, Rep w c d v → lenOk d = true → lenV v := fun c d v r h => by
  cases d with
  | int n =>
    rw [rp_int r]
    have h := of_decide_eq_true (show decide (0 ≤ n ∧ n < 9223372036854775808) = true from h)
    exact ⟨n, rfl, h.1, by have := h.2; omega⟩
  | _ => cases h
theorem strOk_v (w : Wd) : ∀ c d v, Rep w c d v → strOk d = true → strV v := fun c d v r h => by
  cases d with
  | str n => rw [rp_str r]; exact ⟨n, rfl⟩
  | _ => cases h
theorem r_own1 {cl : Nat} {ok : D → Bool} {okv : V → Prop} (hok : ∀ c d v, Rep (Wd.mk X.K T) c d v → ok d = true → okv v) (hc : CallR X (.builtin id) (rOwn1 (Wd.mk X.K T) cl mf okv)) (hm : X.mg x = none) (hv : bootBuiltins x = some (.builtin id)) (ha : PE X e (tM (Wd.mk X.K T) W ma))
    (hg : Gl X x := by rfl) (hn : x ≠ "__name__" := by decide) (hdb : (x == ("__debug__" : Str)) = false := by decide)
    (hs : starEach [e] X.env = (false, eval e X.env) :: starEach [] X.env := by rfl) (hpl : (backTo pos (starEach [] X.env)).any (·.1) = false := by rfl) : PE X (.Call (.Name x p) [e] [] pos) (tM (Wd.mk X.K T) W (eOwn1 cl mf ok ma)) :=
  PEi (pe_callB hc hg hm hv (r_cons ha r_nil hs) hn hdb hs hpl) fun σ H Q z => own1_aux hok z
theorem r_own1T {cl : Nat} {ok : D → Bool} {okv : V → Prop} (hok : ∀ c d v, Rep (Wd.mk X.K T) c d v → ok d = true → okv v) (hc : CallR X (.type id) (rOwn1 (Wd.mk X.K T) cl mf okv)) (hm : X.mg x = none) (hv : bootBuiltins x = some (.type id)) (ha : PE X e (tM (Wd.mk X.K T) W ma))
    (hg : Gl X x := by rfl) (hn : x ≠ "__name__" := by decide) (hdb : (x == ("__debug__" : Str)) = false := by decide)
    (hs : starEach [e] X.env = (false, eval e X.env) :: starEach [] X.env := by rfl) (hpl : (backTo pos (starEach [] X.env)).any (·.1) = false := by rfl) : PE X (.Call (.Name x p) [e] [] pos) (tM (Wd.mk X.K T) W (eOwn1 cl mf ok ma)) :=
  PEi (pe_callTy hc hg hm hv (r_cons ha r_nil hs) hn hdb hs hpl) fun σ H Q z => own1_aux hok z
end
/-- the value of an expression is an instance of the class -/
def isIns (cl : Nat) (a : ME) : Sl → AH → Bool := fun s h => match a s h with
  | .ok x h1 => (match insOf h1 x with
    | some (_, c, _) => c == cl
    | none => false)
  | _ => false

/-! ### str(int), str(text) -/
def fStr (_ : AH) : List D → Option D
  | [.int i] => if i.natAbs < 2 ^ 200 then some (.str (toString i)) else none
  | [.str x] => some (.str x)
  | _ => none
theorem log2_lt {n : Nat} (h : n < 2 ^ 200) : n.log2 < 1920 := by
  by_cases hn : n = 0
  · subst hn; decide
  · have : n.log2 < 200 := (Nat.log2_lt hn).mpr h
    omega
def rStrA : List V → Hp → VK → Prop := fun xs H Q => (∃ i, xs = [.int i] ∧ i.natAbs.log2 < 1920 ∧ Q (.str (toString i)) H) ∨ ∃ a, xs = [.str a] ∧ Q (.str a) H
theorem c_str {X : Cx} : CallR X (.type "str") rStrA := call_str_int.or SkE.call_str_str
theorem n_str {w : Wd} : OpN w rStrA fStr := by
  intro c h H xs z vs Q R r e G
  unfold fStr at e
  split at e
  · split at e
    · rename_i i hi
      cases e
      obtain ⟨v, rfl, rv⟩ := rpl1 r
      rw [rp_int rv]
      exact .inl ⟨_, rfl, log2_lt hi, G.str R⟩
    · cases e
  · cases e
    obtain ⟨v, rfl, rv⟩ := rpl1 r
    rw [rp_str rv]
    exact .inr ⟨_, rfl, G.str R⟩
  · cases e

/-! ### sep.join(texts) -/
def joinD (a : Str) (xs : List D) : Option D := match strsL xs with
  | some ys => if (ys.map (·.length)).sum + ys.length * a.length ≤ 16777216 then some (.str (Txt.join a ys)) else none
  | none => none
def mJoin : PM := fun h x xs => match x, xs with
  | .str a, [y] => (match seqX h y with
    | some ds => (joinD a ds).map fun z => (z, h)
    | none => none)
  | _, _ => none
theorem seqX_ok {w : Wd} {c : Cf} {h : AH} {H : Hp} (R : Rel w c h H) {d : D} {v : V} {xs : List D} (r : Rep w c d v) (q : seqX h d = some xs) : ∃ a vs, v = .ref a ∧ (SqL w.K H a vs ∨ SqT w.K H a vs) ∧ RepL w c xs vs := by
  unfold seqX at q
  split at q
  · rename_i ys e
    cases q
    obtain ⟨a, vs, rfl, t, rl⟩ := seqT_ok R r e
    exact ⟨a, vs, rfl, .inr t, rl⟩
  · obtain ⟨a, vs, rfl, t, rl⟩ := seqL_ok R r q
    exact ⟨a, vs, rfl, .inl t, rl⟩
def rJoin (K : PySem.W.Frag) : V → List V → Hp → VK → Prop := fun x xs H Q => ∃ a p, ∃ ys : List Str, x = .str a ∧ xs = [.ref p] ∧ (SqL K H p (ys.map V.str) ∨ SqT K H p (ys.map V.str)) ∧
    (ys.map (·.length)).sum + ys.length * a.length ≤ 16777216 ∧ Q (.str (Txt.join a ys)) H
theorem m_join {w : Wd} : OpM w (rJoin w.K) mJoin := by
  intro c h H x xs z h' v vs Q R rx rs e q
  unfold mJoin at e
  split at e
  · rename_i a y
    split at e
    · rename_i ds e1
      unfold joinD at e
      split at e
      · rename_i ys e2
        split at e
        · rename_i hl
          simp only [Option.map_some, Option.some.injEq, Prod.mk.injEq] at e
          obtain ⟨rfl, rfl⟩ := e
          obtain ⟨u, rfl, ru⟩ := rpl1 rs
          obtain ⟨p, us, rfl, t, rl⟩ := seqX_ok R ru e1
          rw [rp_str rx]
          refine ⟨a, p, ys, rfl, rfl, ?_, hl, q c _ H R (.refl R.sub) (by simp [Rep])⟩
          rw [← strsL_ok rl e2]
          exact t
        · cases e
      · cases e
    · cases e
  · cases e

/-! ### f-strings -/
def fmtD (r : Bool) (h : AH) (x : D) : Option D := match r, x with
  | false, .str y => if y.length ≤ 100000 then some (.str y) else none
  | _, _ => fRepr h [x]
def eFmt (r : Bool) (a : ME) : ME := fun s h => (a s h).bind fun x h1 => optR (fmtD r h1 x) h1
def notS : V → Prop
  | .str _ => False
  | _ => True
def tFm (K : PySem.W.Frag) (r : Bool) (te : TE) : TE := fun σ H Q => te σ H fun x H1 => (r = false ∧ ∃ y : Str, x = .str y ∧ y.length ≤ sizeLine ∧ Q (.str y) H1) ∨
  ∃ p, Dp K H1 x p ∧ p.showable = true ∧ p.hasDict = false ∧ p.shown.length ≤ sizeLine ∧ p.depth ≤ 20 ∧ (r = true ∨ notS x) ∧ Q (.str p.shown) H1
section
variable {X : Cx} {k : Nat} {e : Expr} {te : TE} {pos : Pos}
theorem field_str {pins : List (Addr × Obj)} {σ : L2.St} {H : Hp} {s : Shared} {Q : VK} {y : Str} {t : Tok} (I : Inv X pins σ H s) (hz : y.length ≤ sizeLine) (q : Q (.str y) H) : wpAny (model X.prog X.w) X.A (formatField (.str y t) Str.empty) (EP X pins σ Q) X.xe s :=
  wpAny_formatField_str ⟨.str y, H, I, ⟨_, rfl⟩, q⟩ ⟨.str y, H, I.tok _, ⟨_, rfl⟩, q⟩ hz
theorem pe_fm (hr : Rm k X.A) (he : PE X e te) : PE X (.FormattedValue e (-1) none pos) (tFm X.K false te) := by
  refine ⟨fun pins s σ H Q I h => ?_⟩
  refine wpAny_FormattedValue_plain (thn (he.run pins s σ H _ I h) fun v s1 hv => ?_)
  obtain ⟨x, H1, I1, r1, q⟩ := hv
  rcases q with ⟨_, y, rfl, hz, q⟩ | ⟨p, hd, hs, hn, hz, hdep, hns, q⟩
  · obtain ⟨t, rfl⟩ := r1
    exact field_str I1 hz q
  · obtain ⟨as, rd⟩ := Dp.reads I1 p x v hd r1
    have hu := hr.r.units
    cases hd with
    | non =>
      cases (show v = Value.none from r1)
      exact wpAny_formatField_none ⟨.str _, H1, (I1.tok (s1.toks + 1)).tok _, ⟨_, rfl⟩, q⟩
    | bl b =>
      cases (show v = Value.bool b from r1)
      exact wpAny_formatField_bool ⟨.str _, H1, (I1.tok (s1.toks + 1)).tok _, ⟨_, rfl⟩, q⟩
    | int i =>
      obtain ⟨t, rfl⟩ := (show ∃ t, v = Value.int i t from r1)
      exact wpAny_formatField_int (by simpa [PyData.showable] using hs) ⟨.str _, H1, I1.tok _, ⟨_, rfl⟩, q⟩
    | str x =>
      rcases hns with h | h
      · cases h
      · exact h.elim
    | lst sq al =>
      cases r1
      exact formatField_of_reads rd hs (fun z => by rw [hn] at z; cases z) hr.g (by omega) (fun _ _ e => e) (fun h' u tk hk => ⟨.str _, H1, I1.kept hk, ⟨_, rfl⟩, q⟩) hz
    | tup sq al =>
      cases r1
      exact formatField_of_reads rd hs (fun z => by rw [hn] at z; cases z) hr.g (by omega) (fun _ _ e => e) (fun h' u tk hk => ⟨.str _, H1, I1.kept hk, ⟨_, rfl⟩, q⟩) hz
theorem pe_fmR (hr : Rm k X.A) (he : PE X e te) : PE X (.FormattedValue e 114 none pos) (tFm X.K true te) := by
  refine ⟨fun pins s σ H Q I h => ?_⟩
  refine wpAny_FormattedValue_repr (thn (he.run pins s σ H _ I h) fun v s1 hv => ?_)
  obtain ⟨x, H1, I1, r1, q⟩ := hv
  rcases q with ⟨h, _⟩ | ⟨p, hd, hs, hn, hz, hdep, hns, q⟩
  · cases h
  · obtain ⟨as, rd⟩ := Dp.reads I1 p x v hd r1
    have hu := hr.r.units
    cases hd with
    | non =>
      cases (show v = Value.none from r1)
      exact pyReprObj_none (field_str (I1.tok _) hz q)
    | bl b =>
      cases (show v = Value.bool b from r1)
      exact pyReprObj_bool (field_str (I1.tok _) hz q)
    | int i =>
      obtain ⟨t, rfl⟩ := (show ∃ t, v = Value.int i t from r1)
      exact pyReprObj_int (by simpa [PyData.showable] using hs) (field_str (I1.tok _) hz q)
    | str x =>
      obtain ⟨t, rfl⟩ := (show ∃ t, v = Value.str x t from r1)
      exact pyReprObj_str (field_str (I1.tok _) hz q) hz
    | lst sq al =>
      cases r1
      exact pyReprObj_of_reads rd hs (fun z => by rw [hn] at z; cases z) hr.g (by omega) (fun _ _ e => e) (fun h' u tk hk => field_str (I1.kept hk) hz q) hz
    | tup sq al =>
      cases r1
      exact pyReprObj_of_reads rd hs (fun z => by rw [hn] at z; cases z) hr.g (by omega) (fun _ _ e => e) (fun h' u tk hk => field_str (I1.kept hk) hz q) hz
end
theorem fm_aux {K : PySem.W.Frag} {T : Nat → Addr} {W : WX} {r : Bool} {ma : ME} {σ : L2.St} {H : Hp} {Q : VK} (z : tM (Wd.mk K T) W (eFmt r ma) σ H Q) : tFm K r (tM (Wd.mk K T) W ma) σ H Q := by
  obtain ⟨c, s, h, R, S, o⟩ := z
  refine ⟨c, s, h, R, S, (Out.bind (A := Rep (Wd.mk K T)) o).mono ?_⟩
  rintro v H1 ⟨c1, h1, x, R1, E1, r1, o1⟩
  obtain ⟨d, e, G⟩ := optOut o1
  have other : ∀ (z : fRepr h1 [x] = some d) (hs : r = true ∨ notS v), (r = false ∧ ∃ y : Str, v = .str y ∧ y.length ≤ sizeLine ∧ Q (.str y) H1) ∨
      ∃ p, Dp K H1 v p ∧ p.showable = true ∧ p.hasDict = false ∧ p.shown.length ≤ sizeLine ∧ p.depth ≤ 20 ∧ (r = true ∨ notS v) ∧ Q (.str p.shown) H1 := by
    intro z hs
    unfold fRepr at z
    dsimp only at z
    split at z
    · rename_i p ep
      split at z
      · rename_i hp
        cases z
        exact .inr ⟨p, pd_ok R1 r1 ep, hp.1, hp.2.1, size5 hp.2.2.1, hp.2.2.2, hs, G.str R1⟩
      · cases z
    · cases z
  cases r with
  | true => exact other (by cases x <;> exact e) (.inl rfl)
  | false =>
    cases x with
    | str y =>
      simp only [fmtD] at e
      split at e
      · rename_i hl
        cases e
        rw [rp_str r1]
        exact .inl ⟨rfl, y, rfl, size5 hl, G.str R1⟩
      · cases e
    | non => exact other e (.inr (by rw [rp_non r1]; trivial))
    | bl b => exact other e (.inr (by rw [rp_bl r1]; trivial))
    | int b => exact other e (.inr (by rw [rp_int r1]; trivial))
    | tup b => exact other e (.inr (by simp only [Rep] at r1; obtain ⟨a, vs, rfl, _⟩ := r1; trivial))
    | lst b => exact other e (.inr (by simp only [Rep] at r1; obtain ⟨a, vs, rfl, _⟩ := r1; trivial))
    | fz b => exact other e (.inr (by simp only [Rep] at r1; obtain ⟨a, vs, rfl, _⟩ := r1; trivial))
    | ref b => exact other e (.inr (by simp only [Rep] at r1; obtain ⟨rfl, _⟩ := r1; trivial))
    | cst b => exact other e (.inr (by simp only [Rep] at r1; subst r1; trivial))
    | obj _ _ _ => exact other e (.inr (by simp only [Rep] at r1; obtain ⟨a, dx, vs, rfl, _⟩ := r1; trivial))
section
variable {X : Cx} {T : Nat → Addr} {W : WX} {k : Nat} {e : Expr} {es : List Expr} {ma : ME} {pos : Pos}
theorem r_fm (hr : Rm k X.A) (he : PE X e (tM (Wd.mk X.K T) W ma)) : PE X (.FormattedValue e (-1) none pos) (tM (Wd.mk X.K T) W (eFmt false ma)) := PEi (pe_fm hr he) fun σ H Q z => fm_aux z
theorem r_fmR (hr : Rm k X.A) (he : PE X e (tM (Wd.mk X.K T) W ma)) : PE X (.FormattedValue e 114 none pos) (tM (Wd.mk X.K T) W (eFmt true ma)) := PEi (pe_fmR hr he) fun σ H Q z => fm_aux z
/-- the parts of an f-string -/
inductive RJ (X : Cx) (T : Nat → Addr) (W : WX) : List Expr → List ME → Prop where
  | nil : RJ X T W [] []
  | cons {e : Expr} {m : ME} {es : List Expr} {ms : List ME} (h : PE X e (tM (Wd.mk X.K T) W m)) (r : RJ X T W es ms) : RJ X T W (e :: es) (m :: ms)
theorem RJ.pj {es : List Expr} {ms : List ME} (h : RJ X T W es ms) : PJ X es (ms.map fun m => tM (Wd.mk X.K T) W m) := by
  induction h with
  | nil => exact .nil
  | cons h r ih => exact .cons h ih
def eJs : List ME → Str → ME
  | [], acc => fun _ h => .ok (.str acc) h
  | m :: ms, acc => fun s h => (m s h).bind fun x h1 => match x with
    | .str y => if (acc ++ y).length ≤ 100000 then eJs ms (acc ++ y) s h1 else .st
    | _ => .st
theorem js_aux {K : PySem.W.Frag} {σ : L2.St} {Q : VK} : ∀ {ms : List ME} {acc : Str} {H : Hp}, tM (Wd.mk K T) W (eJs ms acc) σ H Q → tJs (ms.map fun m => tM (Wd.mk K T) W m) acc σ H fun out H1 => Q (.str out) H1
  | [], acc, H, z => by
    obtain ⟨c, s, h, R, S, o⟩ := z
    exact o c _ H R (.refl R.sub) (by simp [Rep])
  | m :: ms, acc, H, z => by
    obtain ⟨c, s, h, R, S, o⟩ := z
    refine ⟨c, s, h, R, S, (Out.bind (A := Rep (Wd.mk K T)) o).mono ?_⟩
    rintro v H1 ⟨c1, h1, x, R1, E1, r1, o1⟩
    split at o1
    · rename_i y
      split at o1
      · rename_i hl
        exact ⟨y, rp_str r1, size5 hl, js_aux ⟨c1, s, h1, R1, S.ext E1, o1⟩⟩
      · exact o1.elim
    · exact o1.elim
theorem r_js {v1 v2 : Expr} {ms : List ME} (h : RJ X T W (v1 :: v2 :: es) ms) : PE X (.JoinedStr (v1 :: v2 :: es) pos) (tM (Wd.mk X.K T) W (eJs ms Str.empty)) := by
  cases h with
  | cons h1 r1 =>
    cases r1 with
    | cons h2 r2 => exact PEi (pe_joined ((RJ.cons h1 (.cons h2 r2)).pj)) fun σ H Q z => js_aux z
theorem r_js1 (h : PE X e (tM (Wd.mk X.K T) W ma)) : PE X (.JoinedStr [e] pos) (tM (Wd.mk X.K T) W ma) := pe_joined1 h
end

/-! ### == by an own __eq__ against data -/
def subB (K : PySem.W.Frag) (C : Addr) : Bool := tyNames.all fun t => PySem.W.subIn K (.type t) (.ref C) == some false
/-- a == b, a an instance of the class cl, b data -/
def eOwnD (cl : Nat) (f : MF) (l : List (Src × Nat)) (a b : ME) : ME := fun s h => (a s h).bind fun x h1 => (b s h1).bind fun y h2 => match insOf h2 x, tyName h2 y with
  | some (_, c, _), some _ => if c = cl then match f (gSel l [x, y] [] [] []) h2 with
    | .ok (.bl r) h3 => .ok (.bl r) h3
    | _ => .st
    else .st
  | _, _ => .st
def rOwnD (w : Wd) (cl : Nat) (f : MF) (l : List (Src × Nat)) : R2 := fun x y H Q => ∃ a dx fs t, x = .ref a ∧ H a = some (.ins (w.T cl) dx fs) ∧ TyX w.K H y (.type t) ∧ t ∈ tyNames ∧ spM w f (gSel l [.ref a, y] [] [] []) H (fun v H' => (∃ r, v = .bl r) ∧ Q v H') fun _ _ _ => False
section
variable {X : Cx} {T : Nat → Addr} {W : WX} {a b : Expr} {ma mb : ME} {mf : MF} {pos : Pos} {k : Nat} {f : Addr} {fd : FuncData} {ps : List Str} {l : List (Src × Nat)}
theorem op_ownD {cl : Nat} (me : Meth X.K (T cl) "__eq__" f) (sb : subB X.K (T cl) = true) (F : Fn X.prog X.w X.K T X.mg X.base k f fd ps mf) (hr : Rm k X.A) (hb : Bd X.K fd ps 2 [] l [] []) :
    OpR X (compareOp .Eq) (rOwnD (Wd.mk X.K T) cl mf l) := by
  intro pins s σ H x y v u Q I rx ry hq
  obtain ⟨a, dx, fs, t, rfl, ha, ty, ht, hsp⟩ := hq
  cases rx
  obtain ⟨mA, J, _⟩ := ins_get I.hok ha
  obtain ⟨od, J, _⟩ := J.look
  obtain ⟨m, hF⟩ := I.fr
  obtain ⟨P, kx, hP, _⟩ := kit_of I ry ty
  show wpAny (model X.prog X.w) X.A (richCompare .Eq (.ref a) u) (EP X pins σ Q) X.xe s
  refine PySem.W.cmp_K (op := .Eq) (tb := .type t) hr.r.units0 hF I.ok.mod.kin J (kx.ty _ _ I.kIn hP) (by
    have := List.all_eq_true.mp sb t ht
    simp only [PySem.W.notFirst, this, Bool.or_true]) me.at_ me.fn ?_
  obtain ⟨its, mw, v1, v2, B⟩ := hb.to
  have B2 := B s [.ref a, u] [] I.kIn rfl rfl
  cases v1
  cases v2
  refine wpAny_mono (run_m (W := fun _ _ _ _ => False) (us := gSel l [Value.ref a, u] [] [] []) (vs := gSel l [V.ref a, y] [] [] []) (args := ⟨[.ref a, u], []⟩) takes0 F hr B2 I (gSel_vals (a := [V.ref a, y]) (b := [Value.ref a, u]) (.cons rfl (.cons ry .nil)) .nil .nil .nil l) hsp) (fun r s' z => ?_) fun _ _ e => e
  obtain ⟨v, H', I', rv, ⟨r', rfl⟩, q⟩ := z
  cases rv
  exact ⟨.bl r', H', I', rfl, q⟩
theorem ownD_k {cl : Nat} {c2 : Cf} {h2 : AH} {H2 : Hp} {x y : D} {v u : V} {Q : VK} {E : XK} (R2 : Rel (Wd.mk X.K T) c2 h2 H2) (r1 : Rep (Wd.mk X.K T) c2 x v) (r2 : Rep (Wd.mk X.K T) c2 y u)
    (o : Out (Wd.mk X.K T) c2 H2 E (Rep (Wd.mk X.K T)) Q (match insOf h2 x, tyName h2 y with
      | some (_, c, _), some _ => if c = cl then match mf (gSel l [x, y] [] [] []) h2 with
        | .ok (.bl r) h3 => .ok (.bl r) h3
        | _ => .st
        else .st
      | _, _ => .st)) : rOwnD (Wd.mk X.K T) cl mf l v u H2 Q := by
  split at o
  · rename_i k1 c1 f1 t1 e1 e2
    split at o
    · rename_i hc
      subst hc
      obtain ⟨_, dx, vs, rfl, _, g1, _⟩ := insAt R2 r1 e1
      obtain ⟨ty, hm⟩ := ty_ok R2 r2 e2
      refine ⟨_, dx, vs, _, rfl, g1, ty, hm, c2, _, h2, R2, gSel_rep (.cons r1 (.cons r2 .nil)) .nil .nil .nil l, ?_⟩
      split at o
      · rename_i r h3 q
        rw [q]
        intro c3 v3 H3 R3 E3 r3
        simp only [Rep] at r3
        subst r3
        exact ⟨⟨r, rfl⟩, o c3 _ H3 R3 E3 (by simp [Rep])⟩
      · exact o.elim
    · exact o.elim
  · exact o.elim
theorem r_ownD {cl : Nat} (me : Meth X.K (T cl) "__eq__" f) (sb : subB X.K (T cl) = true) (F : Fn X.prog X.w X.K T X.mg X.base k f fd ps mf) (hr : Rm k X.A) (hbd : Bd X.K fd ps 2 [] l [] [])
    (ha : PE X a (tM (Wd.mk X.K T) W ma)) (hb : PE X b (tM (Wd.mk X.K T) W mb)) (hm : behindInMarks .Eq b = false := by rfl) : PE X (.Compare a [.Eq] [b] pos) (tM (Wd.mk X.K T) W (eOwnD cl mf l ma mb)) :=
  PEi (pe_cmpR (op_ownD me sb F hr hbd) ha hb hm) fun σ H Q z => two z fun c2 s h2 H2 x y v u R2 S2 r1 r2 o => ownD_k R2 r1 r2 o
theorem t_ownD {cl : Nat} (me : Meth X.K (T cl) "__eq__" f) (sb : subB X.K (T cl) = true) (F : Fn X.prog X.w X.K T X.mg X.base k f fd ps mf) (hr : Rm k X.A) (hbd : Bd X.K fd ps 2 [] l [] [])
    (ha : PE X a (tM (Wd.mk X.K T) W ma)) (hb : PE X b (tM (Wd.mk X.K T) W mb)) (hm : behindInMarks .Eq b = false := by rfl) : PT X (.Compare a [.Eq] [b] pos) (tT (Wd.mk X.K T) W (tstB (eOwnD cl mf l ma mb))) :=
  PTi (pt_cmpR (op_ownD me sb F hr hbd) ha hb hm) fun σ H Q z => by
    obtain ⟨c, s, h, R, S, o⟩ := z
    have o : Out (Wd.mk X.K T) c H (fun cls dd H' => W cls dd σ H') (fun _ a b => a = b) Q ((ma s h).bind fun x h1 => (mb s h1).bind fun y h2 => (match insOf h2 x, tyName h2 y with
      | some (_, c, _), some _ => if c = cl then match mf (gSel l [x, y] [] [] []) h2 with
        | .ok (.bl r) h3 => .ok (.bl r) h3
        | _ => .st
        else .st
      | _, _ => .st : Res D).bind fun d h1 => match d with | .bl b => .ok b h1 | _ => .st) := by
      unfold tstB eOwnD at o
      cases q1 : ma s h with
      | ok x h1 =>
        rw [q1] at o
        simp only [Res.bind] at o ⊢
        cases q2 : mb s h1 with
        | ok y h2 => rw [q2] at o; exact o
        | ex e' h' => rw [q2] at o; exact o
        | st => rw [q2] at o; exact o
      | ex e' h' => rw [q1] at o; exact o
      | st => rw [q1] at o; exact o
    refine ⟨c, s, h, R, S, (Out.bind (A := Rep (Wd.mk X.K T)) o).mono ?_⟩
    rintro v H1 ⟨c1, h1, x, R1, E1, r1, o1⟩
    refine ⟨c1, s, h1, R1, S.ext E1, (Out.bind (A := Rep (Wd.mk X.K T)) o1).mono ?_⟩
    rintro u H2 ⟨c2, h2, y, R2, E2, r2, o2⟩
    have r1 := r1.ext E2
    split at o2
    · rename_i k1 c1' f1 t1 e1 e2
      split at o2
      · rename_i hc
        subst hc
        obtain ⟨_, dx, vs, rfl, _, g1, _⟩ := insAt R2 r1 e1
        obtain ⟨ty, hm⟩ := ty_ok R2 r2 e2
        refine ⟨_, dx, vs, _, rfl, g1, ty, hm, c2, _, h2, R2, gSel_rep (.cons r1 (.cons r2 .nil)) .nil .nil .nil l, ?_⟩
        split at o2
        · rename_i r h3 q
          rw [q]
          intro c3 v3 H3 R3 E3 r3
          simp only [Rep] at r3
          subst r3
          exact ⟨⟨r, rfl⟩, r, rfl, o2 c3 _ H3 R3 E3 rfl⟩
        · exact o2.elim
      · exact o2.elim
    · exact o2.elim
end
end MP
set_option Elab.async false
set_option linter.all false
set_option maxRecDepth 100000
set_option maxHeartbeats 4000000
/-! zip(a, b, strict=True) over what Draws serves; at the library's level -/
namespace MPZ
open PySem
open PySem.Sem (wp)
abbrev IsZipB (b : Bool) (h : Heap) (z TI TO : Addr) (f0 : Value) : Prop :=
  h.get? z = some { cls := .type "zip", dict := none, data := .fields #[f0, .bool false, .bool b, .ref TI, .ref TO], slots := #[] }
section
variable {prog : Program} {w : World} {A : Around} {E : Value → Shared → Prop} {s : Shared} {z TI TO i1 i2 : Addr} {fp1 fp2 : List Addr} {n1 n2 i : Nat} {P1 P2 : Nat → Value → Prop} {St1 St2 : Nat → Heap → Prop} {a1 a2 : Value}
theorem orEnd_some {m : Value} {Q : Option Value → Shared → Prop} (h : wpAny (model prog w) A (Builtin.SmallTypes.nextOf m) (fun v => Q (some v)) (fun _ _ => False) s) : wpAny (model prog w) A (Builtin.SmallTypes.nextOrEnd m) Q E s := by
  unfold Builtin.SmallTypes.nextOrEnd
  exact wpAny_bind (wpAny_attempt (wpAny_mono h (fun v s' q => wpAny_pure q) fun e s' q => q.elim))
theorem orEnd_none {m : Value} {Q : Option Value → Shared → Prop} (h : wpAny (model prog w) A (Builtin.SmallTypes.nextOf m) (fun _ _ => False) (fun e s' => ∃ a o, e = .ref a ∧ s'.heap.get? a = some o ∧ o.cls = .type "StopIteration" ∧ Q none s') s) : wpAny (model prog w) A (Builtin.SmallTypes.nextOrEnd m) Q E s := by
  unfold Builtin.SmallTypes.nextOrEnd
  refine wpAny_bind (wpAny_attempt (wpAny_mono h (fun v s' q => q.elim) fun e s' q => ?_))
  obtain ⟨a, o, rfl, ho, hc, q⟩ := q
  exact wpAny_bind (wpAny_isInstance (T := "StopIteration") (b := true) ⟨o, ho, hc⟩ isSubtype_stop (wpAny_pure q))
theorem stops {α : Type} {Q : α → Shared → Prop} (hh : A.handled = none) (hE : ∀ h' tk e, (∀ c o, s.heap.get? c = some o → h'.get? c = some o) → (∃ o, h'.get? e = some o ∧ o.cls = .type "StopIteration") → E (.ref e) { s with heap := h', toks := tk }) :
    wpAny (model prog w) A (Builtin.SmallTypes.stopIteration : Sem α) Q E s := by
  unfold Builtin.SmallTypes.stopIteration
  refine wpAny_bind ?_
  simp only [newExc, newTuple]
  refine wpAny_bind (wpAny_newObj_type ?_ (by size_fits))
  refine wpAny_bind (m := firstArgMember _ _) (wpAny_of_eq (a := Value.none) (by first | rfl | (simp only [firstArgMember]; rfl)) ?_)
  refine wpAny_newObj_type ?_ (by size_fits)
  simp only [raiseNew]
  refine wpAny_bind (wpAny_handled ?_)
  rw [hh]
  refine wpAny_bind (wpAny_pure (wpAny_throw ?_))
  exact hE _ _ _ (fun c o e => Heap.get?_push_of_some _ (Heap.get?_push_of_some _ e)) ⟨_, Heap.get?_push_size _ rfl, rfl⟩

def zbe (i : Nat) : String := if i == 1 then "argument 1" else s!"arguments 1-{i}"
/-- what the end of a strict zip looks at -/
def zse (its : List Value) (i : Nat) : Sem Fin := do
  if i > 0 then
    rule "zip.__next__.shorter"; raiseError "ValueError" s!"zip() argument {i + 1} is shorter than {zbe i}"
  for (it, j) in (its.drop 1).zipIdx 1 do
    if (← Builtin.SmallTypes.nextOrEnd it).isSome then
      rule "zip.__next__.longer"; raiseError "ValueError" s!"zip() argument {j + 1} is longer than {zbe j}"
  rule "zip.__next__.all-ended"; Builtin.SmallTypes.stopIteration
theorem zipS_next_item {Q : Value → Shared → Prop} (S : ZipSep2 z TI TO i1 i2 fp1 fp2) (D1 : Draws prog w A i1 fp1 n1 P1 St1) (D2 : Draws prog w A i2 fp2 n2 P2 St2)
    (hz : IsZipB true s.heap z TI TO .none) (hTI : IsTupOf2 s.heap TI (.ref i1) (.ref i2)) (hTO : IsTupOf2 s.heap TO a1 a2) (st1 : St1 i s.heap) (st2 : St2 i s.heap) (hlt1 : i < n1) (hlt2 : i < n2)
    (hQ : ∀ x1 x2 h' tk, P1 i x1 → P2 i x2 → IsZipB true h' z TI TO (rawInt s.heap.objs.size) → IsTupOf2 h' TO x1 x2 → St1 (i + 1) h' → St2 (i + 1) h' → IsTupOf2 h' s.heap.objs.size x1 x2 → h'.objs.size = s.heap.objs.size + 1 →
      (∀ c o, c ≠ z → c ≠ TO → c ≠ i1 → c ≠ i2 → s.heap.get? c = some o → h'.get? c = some o) → Q (.ref s.heap.objs.size) { s with heap := h', toks := tk }) :
    wpAny (model prog w) A (Builtin.«zip.__next__» ⟨[.ref z], []⟩) (fun fin s' => ∃ v, fin = .done (.ret v) ∧ Q v s') E s := by
  obtain ⟨hp, g, d, tk0, os⟩ := s
  show wpAny _ _ (field (.ref z) 2 >>= _) _ _ _
  refine wpAny_bind (wpAny_field hz rfl (x := .bool true) rfl ?_)
  show wpAny _ _ (field (.ref z) 3 >>= _) _ _ _
  refine wpAny_bind (wpAny_field hz rfl (x := .ref TI) rfl ?_)
  refine wpAny_bind (wpAny_seqItems hTI rfl ?_)
  show wpAny _ _ (Builtin.SmallTypes.ownedTupleIsFree (.ref z) >>= _) _ _ _
  refine wpAny_bind ?_
  unfold Builtin.SmallTypes.ownedTupleIsFree
  refine wpAny_bind (wpAny_field hz rfl (x := .none) rfl (wpAny_pure ?_))
  simp only [if_true]
  refine wpAny_bind (wpAny_rule ?_)
  refine wpAny_bind (wpAny_field hz rfl (x := .ref TO) rfl ?_)
  refine wpAny_bind (wpAny_setField_rec hz (by simp) fun g0 hz0 hs0 => ?_)
  replace hz0 : IsZipB true g0 z TI TO .ellipsis := hz0
  replace hs0 : Heap.SameBut z hp g0 := hs0
  refine wpAny_bind ?_
  simp only [List.zipIdx_cons, List.zipIdx_nil, List.forIn_cons, List.forIn_nil]
  refine wpAny_bind (wpAny_bind (wpAny_onRaise ?_))
  show wpAny _ _ (Builtin.SmallTypes.nextOrEnd (.ref i1)) _ _ ⟨g0, g, d, tk0, os⟩
  refine orEnd_some (D1.item i _ _ _ hlt1 (D1.over st1 hs0 S.zf1) fun x1 p1 tk1 hx1 sn1 hp1 => ?_)
  replace hp1 : Heap.SameBut i1 g0 p1 := hp1
  have hU1 : IsTupOf2 p1 TO a1 a2 := hp1.extBut _ _ S.Ti1 (hs0.extBut _ _ S.TOz hTO)
  refine wpAny_bind (wpAny_seqItems (s := ⟨p1, g, d, tk1, os⟩) hU1 rfl ?_)
  refine wpAny_bind (updateSeq_IsTupOf2 (s := ⟨p1, g, d, tk1, os⟩) hU1 fun g1 hT1 hs1 => ?_)
  replace hT1 : IsTupOf2 g1 TO x1 a2 := hT1
  replace hs1 : Heap.SameBut TO p1 g1 := hs1
  refine wpAny_bind (wpAny_letGo (wpAny_pure ?_))
  refine wpAny_bind (wpAny_bind (wpAny_onRaise ?_))
  show wpAny _ _ (Builtin.SmallTypes.nextOrEnd (.ref i2)) _ _ ⟨g1, g, d, tk1, os⟩
  refine orEnd_some (D2.item i _ _ _ hlt2 (D2.over (D2.over (D2.over st2 hs0 S.zf2) hp1 S.sep1_2) hs1 S.Tf2) fun x2 p2 tk2 hx2 sn2 hp2 => ?_)
  replace hp2 : Heap.SameBut i2 g1 p2 := hp2
  have hU2 : IsTupOf2 p2 TO x1 a2 := hp2.extBut _ _ S.Ti2 hT1
  refine wpAny_bind (wpAny_seqItems (s := ⟨p2, g, d, tk2, os⟩) hU2 rfl ?_)
  refine wpAny_bind (updateSeq_IsTupOf2 (s := ⟨p2, g, d, tk2, os⟩) hU2 fun g2 hT2 hs2 => ?_)
  replace hT2 : IsTupOf2 g2 TO x1 x2 := hT2
  replace hs2 : Heap.SameBut TO p2 g2 := hs2
  refine wpAny_bind (wpAny_letGo (wpAny_pure (wpAny_pure ?_)))
  refine wpAny_bind (wpAny_seqItems (s := ⟨g2, g, d, tk2, os⟩) hT2 rfl ?_)
  refine wpAny_bind (wpAny_newTuple ?_)
  have hsz : g2.objs.size = hp.objs.size := by rw [hs2.1, hp2.1, hs1.1, hp1.1, hs0.1]
  have hzz : IsZipB true g2 z TI TO .ellipsis := (hs2.extBut _ _ S.TOz.symm (hp2.extBut _ _ S.zi2 (hs1.extBut _ _ S.TOz.symm (hp1.extBut _ _ S.zi1 hz0))))
  have hkk : ∀ c o, c ≠ z → c ≠ TO → c ≠ i1 → c ≠ i2 → hp.get? c = some o → g2.get? c = some o := fun c o cz cT c1 c2 e =>
    (hs2.extBut _ _ cT (hp2.extBut _ _ c2 (hs1.extBut _ _ cT (hp1.extBut _ _ c1 (hs0.extBut _ _ cz e)))))
  have hj1 : St1 (i + 1) g2 := (D1.over (D1.over (D1.over sn1 hs1 S.Tf1) hp2 S.sep2_1) hs2 S.Tf1)
  have hj2 : St2 (i + 1) g2 := (D2.over sn2 hs2 S.Tf2)
  have hzlt : z < g2.objs.size := Heap.lt_size hzz
  show wpAny _ _ (Builtin.SmallTypes.ownedTupleHandOut (.ref z) (.ref g2.objs.size) >>= _) _ _ ⟨g2.push { cls := .type "tuple", data := .seq #[x1, x2] }, g, d, tk2, os⟩
  refine wpAny_bind ?_
  unfold Builtin.SmallTypes.ownedTupleHandOut
  have hz₆ : IsZipB true (g2.push { cls := .type "tuple", data := .seq #[x1, x2] }) z TI TO .ellipsis := Heap.get?_push_of_some _ hzz
  refine wpAny_bind (wpAny_setField_rec hz₆ (by simp) fun h₇ hz₇ hs₇ => ?_)
  replace hz₇ : IsZipB true h₇ z TI TO (rawInt g2.objs.size) := hz₇
  refine wpAny_setField_rec hz₇ (by simp) fun h₈ hz₈ hs₈ => ?_
  replace hz₈ : IsZipB true h₈ z TI TO (rawInt g2.objs.size) := hz₈
  replace hs₇ : Heap.SameBut z (g2.push { cls := .type "tuple", data := .seq #[x1, x2] }) h₇ := hs₇
  replace hs₈ : Heap.SameBut z h₇ h₈ := hs₈
  have up : ∀ c o, c ≠ z → g2.get? c = some o → h₈.get? c = some o := fun c o c1 e => hs₈.extBut _ _ c1 (hs₇.extBut _ _ c1 (Heap.get?_push_of_some _ e))
  have hT₈ : IsTupOf2 h₈ g2.objs.size x1 x2 := hs₈.extBut _ _ (Nat.ne_of_gt hzlt) (hs₇.extBut _ _ (Nat.ne_of_gt hzlt) (Heap.get?_push_size _ rfl))
  have hz8 : h₈.objs.size = g2.objs.size + 1 := by rw [hs₈.1, hs₇.1, Heap.size_push]
  rw [hsz] at hz₈ hT₈ hz8
  refine wpAny_pure ⟨_, rfl, ?_⟩
  show Q (.ref g2.objs.size) ⟨h₈, g, d, tk2, os⟩
  rw [hsz]
  exact hQ x1 x2 h₈ tk2 hx1 hx2 hz₈ (up _ _ S.TOz hT2) (D1.frame _ _ _ hj1 fun b hb o e => up b o (fun q => S.zf1 (q ▸ hb)) e) (D2.frame _ _ _ hj2 fun b hb o e => up b o (fun q => S.zf2 (q ▸ hb)) e) hT₈ hz8 fun c o cz cT c1 c2 e => up c o cz (hkk c o cz cT c1 c2 e)
/-- both are of one length: the end -/
theorem zipS_next_end {Q : Fin → Shared → Prop} (hh : A.handled = none) (S : ZipSep2 z TI TO i1 i2 fp1 fp2) (D1 : Draws prog w A i1 fp1 n1 P1 St1) (D2 : Draws prog w A i2 fp2 n2 P2 St2)
    (hz : IsZipB true s.heap z TI TO .none) (hTI : IsTupOf2 s.heap TI (.ref i1) (.ref i2)) (hTO : IsTupOf2 s.heap TO a1 a2) (st1 : St1 n1 s.heap) (st2 : St2 n2 s.heap)
    (hE : ∀ h' tk e, (∀ c o, c ≠ z → c ≠ TO → c ≠ i1 → c ≠ i2 → s.heap.get? c = some o → h'.get? c = some o) → (∃ o, h'.get? e = some o ∧ o.cls = .type "StopIteration") → E (.ref e) { s with heap := h', toks := tk }) :
    wpAny (model prog w) A (Builtin.«zip.__next__» ⟨[.ref z], []⟩) Q E s := by
  obtain ⟨hp, g, d, tk0, os⟩ := s
  show wpAny _ _ (field (.ref z) 2 >>= _) _ _ _
  refine wpAny_bind (wpAny_field hz rfl (x := .bool true) rfl ?_)
  show wpAny _ _ (field (.ref z) 3 >>= _) _ _ _
  refine wpAny_bind (wpAny_field hz rfl (x := .ref TI) rfl ?_)
  refine wpAny_bind (wpAny_seqItems hTI rfl ?_)
  show wpAny _ _ (Builtin.SmallTypes.ownedTupleIsFree (.ref z) >>= _) _ _ _
  refine wpAny_bind ?_
  unfold Builtin.SmallTypes.ownedTupleIsFree
  refine wpAny_bind (wpAny_field hz rfl (x := .none) rfl (wpAny_pure ?_))
  simp only [if_true]
  refine wpAny_bind (wpAny_rule ?_)
  refine wpAny_bind (wpAny_field hz rfl (x := .ref TO) rfl ?_)
  refine wpAny_bind (wpAny_setField_rec hz (by simp) fun g0 hz0 hs0 => ?_)
  replace hz0 : IsZipB true g0 z TI TO .ellipsis := hz0
  replace hs0 : Heap.SameBut z hp g0 := hs0
  refine wpAny_bind ?_
  simp only [List.zipIdx_cons, List.zipIdx_nil, List.forIn_cons, List.forIn_nil]
  refine wpAny_bind (wpAny_bind (wpAny_onRaise ?_))
  show wpAny _ _ (Builtin.SmallTypes.nextOrEnd (.ref i1)) _ _ ⟨g0, g, d, tk0, os⟩
  refine orEnd_none (D1.done ⟨g0, g, d, tk0, os⟩ _ _ (D1.over st1 hs0 S.zf1) fun q e hq he => ?_)
  replace hq : Heap.ExtBut i1 g0 q := hq
  obtain ⟨oe, hoe, hce⟩ := he
  replace hoe : q.get? e = some oe := hoe
  refine ⟨e, oe, rfl, hoe, hce, ?_⟩
  have hzq : IsZipB true q z TI TO .ellipsis := hq _ _ S.zi1 hz0
  refine wpAny_bind (wpAny_setField_rec (s := ⟨q, g, d, tk0, os⟩) hzq (by simp) fun q' hzq' hq' => ?_)
  replace hq' : Heap.SameBut z q q' := hq'
  have st2' : St2 n2 q' := D2.frame _ _ _ (D2.over st2 hs0 S.zf2) fun b hb o e => hq'.extBut _ _ (fun x => S.zf2 (x ▸ hb)) (hq _ _ (fun x => S.sep1_2 (x ▸ hb)) e)
  refine wpAny_bind ?_
  show wpAny _ _ (zse [.ref i1, .ref i2] 0) _ _ _
  unfold zse
  simp only [Nat.lt_irrefl, gt_iff_lt, ↓reduceIte]

  simp only [List.drop_succ_cons, List.drop_zero, List.zipIdx_cons, List.zipIdx_nil, List.forIn_cons, List.forIn_nil]
  refine wpAny_bind ?_
  refine wpAny_bind ?_
  refine wpAny_bind (orEnd_none (D2.done ⟨q', g, d, tk0, os⟩ _ _ st2' fun r e2 hr he2 => ?_))
  replace hr : Heap.ExtBut i2 q' r := hr
  obtain ⟨oe2, hoe2, hce2⟩ := he2
  refine ⟨e2, oe2, rfl, hoe2, hce2, ?_⟩
  simp only [Option.isSome_none, Bool.false_eq_true, ↓reduceIte]
  refine wpAny_pure (wpAny_pure ?_)
  refine wpAny_bind (wpAny_rule ?_)
  exact stops (s := ⟨r, g, d, tk0, os⟩) hh fun h' tk e hk he => hE h' tk e (fun c o cz cT c1 c2 x => hk c o (hr _ _ c2 (hq'.extBut _ _ cz (hq _ _ c1 (hs0.extBut _ _ cz x))))) he
theorem pyNextS_item {Q : Option Value → Shared → Prop} (S : ZipSep2 z TI TO i1 i2 fp1 fp2) (D1 : Draws prog w A.in1 i1 fp1 n1 P1 St1) (D2 : Draws prog w A.in1 i2 fp2 n2 P2 St2)
    (hz : IsZipB true s.heap z TI TO .none) (hTI : IsTupOf2 s.heap TI (.ref i1) (.ref i2)) (hTO : IsTupOf2 s.heap TO a1 a2) (st1 : St1 i s.heap) (st2 : St2 i s.heap) (hlt1 : i < n1) (hlt2 : i < n2)
    (hQ : ∀ x1 x2 h' tk, P1 i x1 → P2 i x2 → IsZipB true h' z TI TO (rawInt s.heap.objs.size) → IsTupOf2 h' TO x1 x2 → St1 (i + 1) h' → St2 (i + 1) h' → IsTupOf2 h' s.heap.objs.size x1 x2 → h'.objs.size = s.heap.objs.size + 1 →
      (∀ c o, c ≠ z → c ≠ TO → c ≠ i1 → c ≠ i2 → s.heap.get? c = some o → h'.get? c = some o) → Q (some (.ref s.heap.objs.size)) { s with heap := h', toks := tk }) : wpAny (model prog w) A (pyNext (.ref z)) Q E s := by
  have hT : s.TypeIs (.ref z) "zip" := ⟨_, hz, rfl⟩
  unfold pyNext
  exact wpAny_bind (wpAny_attempt (wpAny_callSpecial?_slot (name := Str.ofString "__next__") hT F.slot_zip_next
    (wpAny_call_entry F.slot_zip_next hT F.entry_zip_next
      (zipS_next_item S D1 D2 hz hTI hTO st1 st2 hlt1 hlt2 fun x1 x2 h' tk a1 a2 a3 a4 a5 a6 a7 a8 a9 => wpAny_pure (hQ x1 x2 h' tk a1 a2 a3 a4 a5 a6 a7 a8 a9)) (F.args_zip_next_1 _))))
theorem pyNextS_end {Q : Option Value → Shared → Prop} (hh : A.handled = none) (S : ZipSep2 z TI TO i1 i2 fp1 fp2) (D1 : Draws prog w A.in1 i1 fp1 n1 P1 St1) (D2 : Draws prog w A.in1 i2 fp2 n2 P2 St2)
    (hz : IsZipB true s.heap z TI TO .none) (hTI : IsTupOf2 s.heap TI (.ref i1) (.ref i2)) (hTO : IsTupOf2 s.heap TO a1 a2) (st1 : St1 n1 s.heap) (st2 : St2 n2 s.heap)
    (hQ : ∀ h' tk, (∀ c o, c ≠ z → c ≠ TO → c ≠ i1 → c ≠ i2 → s.heap.get? c = some o → h'.get? c = some o) → Q none { s with heap := h', toks := tk }) : wpAny (model prog w) A (pyNext (.ref z)) Q E s := by
  have hT : s.TypeIs (.ref z) "zip" := ⟨_, hz, rfl⟩
  unfold pyNext
  refine wpAny_bind (wpAny_attempt (wpAny_callSpecial?_slot (name := Str.ofString "__next__") hT F.slot_zip_next
    (wpAny_call_entry F.slot_zip_next hT F.entry_zip_next (zipS_next_end hh S D1 D2 hz hTI hTO st1 st2 fun h' tk e hk he => ?_) (F.args_zip_next_1 _))))
  obtain ⟨o, ho, hc⟩ := he
  refine wpAny_bind (wpAny_isInstance (T := "StopIteration") (b := true) ⟨o, ho, hc⟩ isSubtype_stop ?_)
  exact wpAny_pure (hQ _ _ hk)
theorem letGoB {b : Bool} {elts : List Expr} {x1} {pos : Pos} {T : Addr} {Q : Unit → Shared → Prop} (hz : IsZipB b s.heap z TI TO (rawInt T))
    (hQ : ∀ h', IsZipB b h' z TI TO .none → Heap.SameBut z s.heap h' → Q () { s with heap := h' }) :
    wpAny (model prog w) A (letOwnedTupleGo (.Tuple elts x1 pos) (.ref z) (.ref T)) Q E s := by
  unfold letOwnedTupleGo
  refine wpAny_bind (wpAny_load hz ?_)
  show wpAny _ _ (if (["enumerate", "zip", "dict_itemiterator", "dict_reverseitemiterator", "odict_iterator", "itertools.zip_longest", "itertools.pairwise"].contains "zip" &&
      (#[rawInt T, .bool false, .bool b, .ref TI, .ref TO] : Array Value)[0]? == some (rawInt T)) = true then _ else _) Q E s
  rw [if_pos (by simp)]
  refine wpAny_bind (wpAny_rule ?_)
  show wpAny _ _ (setField (.ref z) 0 .none) Q E s
  exact wpAny_setField_rec hz (by simp) fun h' hz' hs' => hQ h' hz' hs'
theorem pyIterB {b : Bool} {f0 : Value} {Q : Value → Shared → Prop} (hz : IsZipB b s.heap z TI TO f0) (h : Q (.ref z) s) : wpAny (model prog w) A (pyIter (.ref z)) Q E s := by
  have hT : s.TypeIs (.ref z) "zip" := ⟨_, hz, rfl⟩
  refine wpAny_pyIter_slot hT F.slot_zip_iter (wpAny_call_entry F.slot_zip_iter hT F.entry_zip_iter ?_ (F.args_zip_iter_1 _))
  show wpAny _ _ (ret (.ref z)) _ _ s
  exact wpAny_pure ⟨_, rfl, "zip", _, hT, F.slot_zip_next.lookup, h⟩
end
namespace F
theorem typeCall_zip_strict (a b : Value) : checkTypeCall "zip" ⟨[a, b], [(Str.ofString "strict", .bool true)]⟩ = pure () := by kernel_rfl
theorem newCall_zip_strict (a b : Value) : checkBuiltinCall "zip.__new__" ⟨[.type "zip", a, b], [(Str.ofString "strict", .bool true)]⟩ = pure () := by kernel_rfl
theorem args_init_strict (obj a b : Value) : argsOk "object.__init__" ⟨[obj, a, b], [(Str.ofString "strict", .bool true)]⟩ := by unfold argsOk; kernel_rfl
end F
abbrev gzZS (h : Heap) (o1 o2 : Obj) : Heap := (gzO2 h o1 o2).push { cls := .type "zip", data := .fields #[.none, .bool false, .bool true, .ref ((h.push o1).push o2).objs.size, .ref (gzT2 h o1 o2).objs.size] }
theorem meets_zip_newS {v1 v2 : Value} {o1 o2 : Obj} {H1 H2 : Heap → Prop} (B1 : Begins v1 o1 H1) (B2 : Begins v2 o2 H2) :
    Meets (Builtin.«zip.__new__» ⟨[.type "zip", v1, v2], [(Str.ofString "strict", .bool true)]⟩) (fun _ R s => (H1 s.heap ∧ H2 s.heap) ∧
      R (.ok (.ret (.ref (gzO2 s.heap o1 o2).objs.size))) { s with heap := gzZS s.heap o1 o2 }) :=
  .of_wp fun prog w A R s h => by
    obtain ⟨hp, g, d, tk, os⟩ := s; obtain ⟨⟨h1, h2⟩, h⟩ := h
    have hsub := sub_zip
    have e2 : (Str.ofString "strict" != ("strict" : Str)) = false := by decide +kernel
    have q1 : ∀ {A' : Around} {E : Value → Shared → Prop} {Q : Value → Shared → Prop}, Q (.ref hp.objs.size) ⟨(hp.push o1), g, d, tk, os⟩ → wpAny (model prog w) A' (pyIter v1) Q E ⟨hp, g, d, tk, os⟩ :=
      fun q => B1.iter prog w _ _ ⟨hp, g, d, tk, os⟩ _ (B1.keeps _ _ h1 fun b o' e => e) q
    have q2 : ∀ {A' : Around} {E : Value → Shared → Prop} {Q : Value → Shared → Prop}, Q (.ref (hp.push o1).objs.size) ⟨((hp.push o1).push o2), g, d, tk, os⟩ → wpAny (model prog w) A' (pyIter v2) Q E ⟨(hp.push o1), g, d, tk, os⟩ :=
      fun q => B2.iter prog w _ _ ⟨(hp.push o1), g, d, tk, os⟩ _ (B2.keeps _ _ h2 fun b o' e => (Heap.get?_push_of_some _ e)) q
    wp_walk using q1, q2
    exact ⟨_, rfl, h⟩
section
variable {prog : Program} {w : World} {A : Around} {E : Value → Shared → Prop} {s : Shared}
theorem zipS_begins {v1 v2 : Value} {o1 o2 : Obj} {H1 H2 : Heap → Prop} {Q : Value → Shared → Prop} (B1 : Begins v1 o1 H1) (B2 : Begins v2 o2 H2) (h1 : H1 s.heap) (h2 : H2 s.heap)
    (h : ∀ h', IsZipB true h' (s.heap.objs.size + 4) (s.heap.objs.size + 2) (s.heap.objs.size + 3) .none → IsTupOf2 h' (s.heap.objs.size + 2) (.ref s.heap.objs.size) (.ref (s.heap.objs.size + 1)) →
      IsTupOf2 h' (s.heap.objs.size + 3) .none .none → h'.get? s.heap.objs.size = some o1 → h'.get? (s.heap.objs.size + 1) = some o2 → h'.objs.size = s.heap.objs.size + 5 →
      (∀ c o, s.heap.get? c = some o → h'.get? c = some o) → Q (.ref (s.heap.objs.size + 4)) { s with heap := h' }) :
    wpAny (model prog w) A (call (.type "zip") [v1, v2] [(Str.ofString "strict", .bool true)]) Q E s := by
  refine callType_newKw F.called_zip (by decide) (F.typeCall_zip_strict _ _) (F.newCall_zip_strict _ _) (fun obj => F.args_init_strict obj _ _) F.entry_zip_new
    (meets_zip_newS B1 B2) ⟨⟨h1, h2⟩, ?_⟩
  have z1 : (s.heap.push o1).objs.size = s.heap.objs.size + 1 := by rw [Heap.size_push]
  have z2 : ((s.heap.push o1).push o2).objs.size = s.heap.objs.size + 2 := by rw [Heap.size_push, z1]
  have zT : (gzT2 s.heap o1 o2).objs.size = s.heap.objs.size + 3 := by rw [Heap.size_push, z2]
  have zO : (gzO2 s.heap o1 o2).objs.size = s.heap.objs.size + 4 := by rw [Heap.size_push, zT]
  have zZ : (gzZS s.heap o1 o2).objs.size = s.heap.objs.size + 5 := by rw [Heap.size_push, zO]
  have gZ : (gzZS s.heap o1 o2).get? (gzO2 s.heap o1 o2).objs.size = some { cls := .type "zip", data := .fields #[.none, .bool false, .bool true, .ref ((s.heap.push o1).push o2).objs.size, .ref (gzT2 s.heap o1 o2).objs.size] } := Heap.get?_push_size _ rfl
  have gO : (gzZS s.heap o1 o2).get? (gzT2 s.heap o1 o2).objs.size = some { cls := .type "tuple", data := .seq #[.none, .none] } := Heap.get?_push_of_some _ (Heap.get?_push_size _ rfl)
  have gT : (gzZS s.heap o1 o2).get? ((s.heap.push o1).push o2).objs.size = some { cls := .type "tuple", data := .seq #[.ref s.heap.objs.size, .ref (s.heap.push o1).objs.size] } := Heap.get?_push_of_some _ (Heap.get?_push_of_some _ (Heap.get?_push_size _ rfl))
  have g1 : (gzZS s.heap o1 o2).get? s.heap.objs.size = some o1 := Heap.get?_push_of_some _ (Heap.get?_push_of_some _ (Heap.get?_push_of_some _ (Heap.get?_push_of_some _ (Heap.get?_push_size _ B1.free))))
  have g2 : (gzZS s.heap o1 o2).get? (s.heap.push o1).objs.size = some o2 := Heap.get?_push_of_some _ (Heap.get?_push_of_some _ (Heap.get?_push_of_some _ (Heap.get?_push_size _ B2.free)))
  rw [zO, zT, z2] at gZ
  rw [zT] at gO
  rw [z2, z1] at gT
  rw [z1] at g2
  show _ ∧ _
  rw [zO]
  exact ⟨⟨_, gZ, rfl⟩, h _ gZ gT gO g1 g2 zZ fun c o e => Heap.get?_push_of_some _ (Heap.get?_push_of_some _ (Heap.get?_push_of_some _ (Heap.get?_push_of_some _ (Heap.get?_push_of_some _ e))))⟩
end
end MPZ
set_option Elab.async false
set_option linter.all false
set_option maxRecDepth 100000
set_option maxHeartbeats 4000000
/-! mirrors: zip of lists, tuples, texts, strict or not; walks over texts -/
namespace MP
open PySem PySem.Spec L2
open PyProof.Rows hiding St
open MPZ

/-- what is drawn from: a list, a tuple, a text -/
inductive SK where
  | lst | tup | txt
def itS (k : SK) (it : Addr) (u : Value) (i : Nat) (h : Heap) : Prop := match k, u with
  | .lst, .ref a => h.IsListIter it a i
  | .tup, .ref a => h.IsTupleIter it a i
  | .txt, .str x t => h.IsStrIter it (strIterType x) x t i
  | _, _ => False
def signsV (z : Str) : List V := z.cps.toList.map fun c => .str ⟨#[c]⟩
def srcV (K : PySem.W.Frag) (k : SK) (x : V) (H : Hp) (xs : List V) : Prop := match k, x with
  | .lst, .ref a => SqL K H a xs
  | .tup, .ref a => SqT K H a xs
  | .txt, .str z => xs = signsV z
  | _, _ => False
/-- the source isn't the cell b -/
def srcNe (u : Value) (b : Addr) : Prop := ∀ a, u = .ref a → a ≠ b
section
variable {X : Cx} {pins : List (Addr × Obj)} {σ : L2.St} {H : Hp} {s : Shared}
theorem vals_get' : ∀ {xs : List V} {us : List Value} {i : Nat} {u : Value}, Vals xs us → us[i]? = some u → ∃ x, xs[i]? = some x ∧ RelV x u
  | _, _, _, _, .nil, e => by simp at e
  | _, _, 0, _, .cons r _, e => by simp at e; subst e; exact ⟨_, rfl, r⟩
  | _, _, i + 1, _, .cons _ r, e => by simpa using vals_get' (i := i) r (by simpa using e)
theorem srcV_inj {k : SK} {x : V} {xs ys : List V} (I : Inv X pins σ H s) (a : srcV X.K k x H xs) (b : srcV X.K k x H ys) : xs = ys := by
  cases k with
  | lst => cases x <;> first | exact a.elim | exact I.list_inj a b
  | tup => cases x <;> first | exact a.elim | exact I.tuple_inj a b
  | txt => cases x <;> first | exact a.elim | exact Eq.trans a (Eq.symm b)
theorem signs_get {z : Str} {i : Nat} {c : Nat} (h : z.cps[i]? = some c) : (signsV z)[i]? = some (.str ⟨#[c]⟩) := by
  unfold signsV
  rw [List.getElem?_map]
  have : z.cps.toList[i]? = some c := by simpa using h
  rw [this]
  rfl
theorem drw {A : Around} (hh : A.handled = none) (I : Inv X pins σ H s) {k : SK} {x : V} {u : Value} {xs : List V} {it : Addr} {i : Nat} (hs : srcV X.K k x H xs) (r : RelV x u) (st : itS k it u i s.heap) (hne : srcNe u it) :
    ∃ (fp : List Addr) (P : Nat → Value → Prop) (St : Nat → Heap → Prop), Draws X.prog X.w A it fp xs.length P St ∧ it ∈ fp ∧ (∀ b ∈ fp, b = it ∨ u = .ref b) ∧ St i s.heap ∧ (∀ j h, St j h → itS k it u j h) ∧ (∀ j v, P j v → ∃ y, xs[j]? = some y ∧ RelV y v) := by
  cases k with
  | lst =>
    cases x <;> first | exact hs.elim | skip
    rename_i a
    cases r
    obtain ⟨its, rv, p, _⟩ := I.list hs
    have hl : its.toArray.size = xs.length := by rw [rv.length]; simp
    refine ⟨[it, a], fun j v => its.toArray[j]? = some v, fun j h => h.IsListIter it a j ∧ h.IsList a its.toArray, by rw [← hl]; exact .list hh it a (hne a rfl) its.toArray, by simp, fun b hb => ?_, ⟨st, p.isList⟩, fun j h q => q.1, fun j v q => ?_⟩
    · have : b = it ∨ b = a := by simpa using hb
      rcases this with e | e
      · exact .inl e
      · exact .inr (by rw [e])
    · have q : its[j]? = some v := by simpa using q
      exact vals_get' rv q
  | tup =>
    cases x <;> first | exact hs.elim | skip
    rename_i a
    cases r
    obtain ⟨its, rv, p, _⟩ := I.tuple hs
    have hl : its.toArray.size = xs.length := by rw [rv.length]; simp
    refine ⟨[it, a], fun j v => its.toArray[j]? = some v, fun j h => h.IsTupleIter it a j ∧ h.IsTuple a its.toArray, by rw [← hl]; exact .tuple hh it a (hne a rfl) its.toArray, by simp, fun b hb => ?_, ⟨st, p⟩, fun j h q => q.1, fun j v q => ?_⟩
    · have : b = it ∨ b = a := by simpa using hb
      rcases this with e | e
      · exact .inl e
      · exact .inr (by rw [e])
    · have q : its[j]? = some v := by simpa using q
      exact vals_get' rv q
  | txt =>
    cases x <;> first | exact hs.elim | skip
    rename_i z
    obtain ⟨t, rfl⟩ := r
    have hl : z.cps.size = xs.length := by rw [show xs = signsV z from hs]; simp [signsV]
    refine ⟨[it], _, _, by rw [← hl]; exact .text hh it z t, by simp, fun b hb => .inl (by simpa using hb), st, fun j h q => q, fun j v q => ?_⟩
    obtain ⟨c, u, h1, rfl⟩ := q
    exact ⟨.str ⟨#[c]⟩, by rw [show xs = signsV z from hs]; exact signs_get h1, ⟨u, rfl⟩⟩
end
/-- pairs of two, one by one; st: both have to end at once -/
def ItzS (K : PySem.W.Frag) (k1 k2 : SK) (x1 x2 : V) : It :=
  ⟨fun i H => ∃ (xs ys : List V) (x y : V), srcV K k1 x1 H xs ∧ srcV K k2 x2 H ys ∧ xs[i]? = some x ∧ ys[i]? = some y,
    fun i H v H' => ∃ T x y, v = .ref T ∧ H T = none ∧ H' = upd H T (.tup [x, y]) ∧ (∀ xs, srcV K k1 x1 H xs → xs[i]? = some x) ∧ ∀ ys, srcV K k2 x2 H ys → ys[i]? = some y,
    fun i H => ∃ xs ys : List V, srcV K k1 x1 H xs ∧ srcV K k2 x2 H ys ∧ xs.length = i ∧ ys.length = i⟩
theorem itS_keep {k : SK} {it : Addr} {u : Value} {i : Nat} {h h' : Heap} (st : itS k it u i h) (hk : ∀ o, h.get? it = some o → h'.get? it = some o) : itS k it u i h' := by
  cases k with
  | lst => cases u <;> first | exact st.elim | (obtain ⟨o, ho, r⟩ := st; exact ⟨o, hk o ho, r⟩)
  | tup => cases u <;> first | exact st.elim | (obtain ⟨o, ho, r⟩ := st; exact ⟨o, hk o ho, r⟩)
  | txt => cases u <;> first | exact st.elim | (obtain ⟨o, ho, r⟩ := st; exact ⟨o, hk o ho, r⟩)
theorem itS_obj {k : SK} {it : Addr} {u : Value} {i : Nat} {h : Heap} (st : itS k it u i h) : ∃ o, h.get? it = some o ∧ ∀ v, o.data ≠ .cell v := by
  cases k with
  | lst => cases u <;> first | exact st.elim | (obtain ⟨o, ho, _, d⟩ := st; exact ⟨o, ho, fun v q => by rw [d] at q; cases q⟩)
  | tup => cases u <;> first | exact st.elim | (obtain ⟨o, ho, _, d⟩ := st; exact ⟨o, ho, fun v q => by rw [d] at q; cases q⟩)
  | txt => cases u <;> first | exact st.elim | (obtain ⟨o, ho, _, d⟩ := st; exact ⟨o, ho, fun v q => by rw [d] at q; cases q⟩)
/-- the cells of the zip lie apart from one another and from the sources -/
structure Apart5 (z TI TO i1 i2 : Addr) (u1 u2 : Value) : Prop where
  a1 : TI ≠ z
  a2 : TO ≠ z
  a3 : TI ≠ TO
  a4 : TI ≠ i1
  a5 : TI ≠ i2
  a6 : z ≠ i1
  a7 : z ≠ i2
  a8 : TO ≠ i1
  a9 : TO ≠ i2
  b1 : i1 ≠ i2
  s1 : ∀ b, b = z ∨ b = TO ∨ b = i1 ∨ b = i2 → srcNe u1 b ∧ srcNe u2 b
theorem apart5_of (I : Nat) (u1 u2 : Value) (l1 : ∀ a : Nat, u1 = .ref a → a < I) (l2 : ∀ a : Nat, u2 = .ref a → a < I) : Apart5 (I + 4) (I + 2) (I + 3) I (I + 1) u1 u2 where
  a1 := by show I + 2 ≠ I + 4; omega
  a2 := by show I + 3 ≠ I + 4; omega
  a3 := by show I + 2 ≠ I + 3; omega
  a4 := by show I + 2 ≠ I; omega
  a5 := by show I + 2 ≠ I + 1; omega
  a6 := by show I + 4 ≠ I; omega
  a7 := by show I + 4 ≠ I + 1; omega
  a8 := by show I + 3 ≠ I; omega
  a9 := by show I + 3 ≠ I + 1; omega
  b1 := by show I ≠ I + 1; omega
  s1 := fun b hb => by
    have k : ∀ a : Nat, a < I → (a : Addr) ≠ b := fun a ha => by
      rcases hb with e | e | e | e
      · rw [e]; exact Nat.ne_of_lt (show a < I + 4 by omega)
      · rw [e]; exact Nat.ne_of_lt (show a < I + 3 by omega)
      · rw [e]; exact Nat.ne_of_lt (show a < I by omega)
      · rw [e]; exact Nat.ne_of_lt (show a < I + 1 by omega)
    exact ⟨fun a ea => k a (l1 a ea), fun a ea => k a (l2 a ea)⟩
theorem sep_of {z TI TO i1 i2 : Addr} {u1 u2 : Value} {fp1 fp2 : List Addr} (D : Apart5 z TI TO i1 i2 u1 u2) (m1 : i1 ∈ fp1) (f1 : ∀ b ∈ fp1, b = i1 ∨ u1 = .ref b) (m2 : i2 ∈ fp2) (f2 : ∀ b ∈ fp2, b = i2 ∨ u2 = .ref b) : ZipSep2 z TI TO i1 i2 fp1 fp2 where
  TIz := D.a1
  TOz := D.a2
  TITO := D.a3
  TIi1 := D.a4
  mem1 := m1
  zf1 := fun h => (f1 _ h).elim (fun e => D.a6 e) fun e => (D.s1 z (.inl rfl)).1 _ e rfl
  Tf1 := fun h => (f1 _ h).elim (fun e => D.a8 e) fun e => (D.s1 TO (.inr (.inl rfl))).1 _ e rfl
  TIi2 := D.a5
  mem2 := m2
  zf2 := fun h => (f2 _ h).elim (fun e => D.a7 e) fun e => (D.s1 z (.inl rfl)).2 _ e rfl
  Tf2 := fun h => (f2 _ h).elim (fun e => D.a9 e) fun e => (D.s1 TO (.inr (.inl rfl))).2 _ e rfl
  sep1_2 := fun h => (f2 _ h).elim (fun e => D.b1 e) fun e => (D.s1 i1 (.inr (.inr (.inl rfl)))).2 _ e rfl
  sep2_1 := fun h => (f1 _ h).elim (fun e => D.b1 e.symm) fun e => (D.s1 i2 (.inr (.inr (.inr rfl)))).1 _ e rfl
theorem turn_zipS {P : Program} {w : World} {K : PySem.W.Frag} {elts : List Expr} {kk : Nat} {tpos : Pos} {k1 k2 : SK} {x1 x2 : V} {u1 u2 : Value} {z TI TO i1 i2 : Addr} (r1 : RelV x1 u1) (r2 : RelV x2 u2) (D : Apart5 z TI TO i1 i2 u1 u2) :
    Turn P w K (.Tuple elts kk tpos) (ItzS K k1 k2 x1 x2) [z, TI, TO, i1, i2] z (fun i h => IsZipB true h z TI TO .none ∧ IsTupOf2 h TI (.ref i1) (.ref i2) ∧ (∃ x y, IsTupOf2 h TO x y) ∧ itS k1 i1 u1 i h ∧ itS k2 i2 u2 i h) where
  mem := by simp
  obj := fun i h st c hc => by
    obtain ⟨hz, hTI, ⟨x, y, hTO⟩, h1, h2⟩ := st
    have e' : c = z ∨ c = TI ∨ c = TO ∨ c = i1 ∨ c = i2 := by simpa using hc
    rcases e' with q | q | q | q | q
    · rw [q]; exact ⟨_, hz, fun v q => nomatch q⟩
    · rw [q]; exact ⟨_, hTI, fun v q => nomatch q⟩
    · rw [q]; exact ⟨_, hTO, fun v q => nomatch q⟩
    · rw [q]; exact itS_obj h1
    · rw [q]; exact itS_obj h2
  keep := fun i h h' st k => by
    obtain ⟨hz, hTI, ⟨x, y, hTO⟩, h1, h2⟩ := st
    exact ⟨k z (by simp) _ hz, k TI (by simp) _ hTI, ⟨x, y, k TO (by simp) _ hTO⟩, itS_keep h1 fun o q => k i1 (by simp) o q, itS_keep h2 fun o q => k i2 (by simp) o q⟩
  item := by
    intro X hP hw hK hc i pins s σ H E I hf st hg
    subst hP hw hK
    obtain ⟨hz, hTI, ⟨x0, y0, hTO⟩, h1, h2⟩ := st
    obtain ⟨xs, ys, x, y, hqx, hqy, hx, hy⟩ := hg
    obtain ⟨fp1, P1, St1, D1, m1, f1, st1, b1, g1⟩ := drw (A := X.A.in1) (I.ok.hd hc) I hqx r1 h1 (D.s1 i1 (by simp)).1
    obtain ⟨fp2, P2, St2, D2, m2, f2, st2, b2, g2⟩ := drw (A := X.A.in1) (I.ok.hd hc) I hqy r2 h2 (D.s1 i2 (by simp)).2
    have hl1 := (List.getElem?_eq_some_iff.mp hx).1
    have hl2 := (List.getElem?_eq_some_iff.mp hy).1
    have hzl : z < s.heap.objs.size := Heap.lt_size hz
    refine pyNextS_item (sep_of D m1 f1 m2 f2) D1 D2 hz hTI hTO st1 st2 hl1 hl2 fun u v h' tk p1 p2 z' TO' h1' h2' hT hsz hk => ?_
    obtain ⟨x', ex, ru⟩ := g1 _ _ p1
    obtain ⟨y', ey, rv⟩ := g2 _ _ p2
    rw [hx] at ex
    rw [hy] at ey
    cases ex
    cases ey
    refine ⟨_, rfl, letGoB (s := { s with heap := h', toks := tk }) z' fun h'' z'' sb => ?_⟩
    have hT2 : h''.get? s.heap.objs.size = some { cls := .type "tuple", data := .seq #[u, v] } := (sb.2 _ (Nat.ne_of_gt hzl)).trans hT
    have new : ObjOk X.prog X.w (upd H s.heap.objs.size (.tup [x, y])) h'' s.heap.objs.size (.tup [x, y]) :=
      ⟨by show 2 ≤ sizeLine; decide, [u, v], .cons ru (.cons rv .nil), ⟨_, hT2, rfl, _, rfl⟩⟩
    have I1 : Inv X pins σ (upd H s.heap.objs.size (.tup [x, y])) { s with heap := h'', toks := tk } :=
      I.turnedNew (t' := tk) (ch := [z, TI, TO, i1, i2]) (fun c o hb q => (sb.2 c (fun q' => hb (by simp [q']))).trans (hk c o (fun q' => hb (by simp [q'])) (fun q' => hb (by simp [q'])) (fun q' => hb (by simp [q'])) (fun q' => hb (by simp [q'])) q)) hf (Nat.le_refl _) new
    have e1 := b1 _ _ h1'
    have e2 := b2 _ _ h2'
    refine ⟨.ref s.heap.objs.size, _, I1, rfl, ⟨_, x, y, rfl, I.hok.fresh (Nat.le_refl _), rfl, fun l hl => by rw [srcV_inj I hl hqx]; exact hx, fun l hl => by rw [srcV_inj I hl hqy]; exact hy⟩, ⟨z'', ?_, ⟨u, v, ?_⟩, ?_, ?_⟩, fun c hcm => ?_⟩
    · exact (sb.2 _ D.a1).trans (hk _ _ D.a1 D.a3 D.a4 D.a5 hTI)
    · exact (sb.2 _ D.a2).trans TO'
    · exact itS_keep e1 fun o q => (sb.2 _ D.a6.symm).trans q
    · exact itS_keep e2 fun o q => (sb.2 _ D.a7.symm).trans q
    · have hlt : c < s.heap.objs.size := by
        have e' : c = z ∨ c = TI ∨ c = TO ∨ c = i1 ∨ c = i2 := by simpa using hcm
        rcases e' with q | q | q | q | q
        · rw [q]; exact hzl
        · rw [q]; exact Heap.lt_size hTI
        · rw [q]; exact Heap.lt_size hTO
        · rw [q]; obtain ⟨_, e1, _⟩ := itS_obj h1; exact Heap.lt_size e1
        · rw [q]; obtain ⟨_, e1, _⟩ := itS_obj h2; exact Heap.lt_size e1
      rw [upd_ne (Nat.ne_of_lt hlt)]
      exact (hf c hcm).1
  done := by
    intro X hP hw hK hc i pins s σ H E I hf st hg
    subst hP hw hK
    obtain ⟨hz, hTI, ⟨x0, y0, hTO⟩, h1, h2⟩ := st
    obtain ⟨xs, ys, hqx, hqy, e1, e2⟩ := hg
    obtain ⟨fp1, P1, St1, D1, m1, f1, st1, b1, g1⟩ := drw (A := X.A.in1) (I.ok.hd hc) I hqx r1 h1 (D.s1 i1 (by simp)).1
    obtain ⟨fp2, P2, St2, D2, m2, f2, st2, b2, g2⟩ := drw (A := X.A.in1) (I.ok.hd hc) I hqy r2 h2 (D.s1 i2 (by simp)).2
    exact pyNextS_end (I.ok.hd hc) (sep_of D m1 f1 m2 f2) D1 D2 hz hTI hTO (by rw [e1]; exact st1) (by rw [e2]; exact st2) fun h' tk hk => ⟨rfl, I.turnedL (t' := tk) (ch := [z, TI, TO, i1, i2]) (fun c o hb q =>
      hk c o (fun q' => hb (by simp [q'])) (fun q' => hb (by simp [q'])) (fun q' => hb (by simp [q'])) (fun q' => hb (by simp [q'])) q) hf⟩
  self := fun A i s Q E st h => pyIterB st.1 h
/-- the iterator of a source, as it begins -/
def itO (k : SK) (u : Value) : Obj := match k, u with
  | .lst, .ref a => { cls := .type "list_iterator", data := .fields #[.ref a, .int 0 0] }
  | .tup, .ref a => { cls := .type "tuple_iterator", data := .fields #[.ref a, .int 0 0] }
  | .txt, .str x t => { cls := .type (strIterType x), data := .fields #[.str x t, .int 0 0] }
  | _, _ => { cls := .none, data := .fields #[] }
theorem begins_of {X : Cx} {pins : List (Addr × Obj)} {σ : L2.St} {H : Hp} {s : Shared} (I : Inv X pins σ H s) {k : SK} {x : V} {u : Value} {xs : List V} (hs : srcV X.K k x H xs) (r : RelV x u) :
    ∃ H1 : Heap → Prop, Begins u (itO k u) H1 ∧ H1 s.heap ∧ (∀ h it, h.get? it = some (itO k u) → itS k it u 0 h) ∧ (∀ a, u = .ref a → a < s.heap.objs.size) := by
  cases k with
  | lst =>
    cases x <;> first | exact hs.elim | skip
    rename_i a
    cases r
    obtain ⟨its, rv, p, _⟩ := I.list hs
    exact ⟨_, begins_list a its.toArray, p.isList, fun h it e => ⟨_, e, rfl, rfl⟩, fun b e => by cases e; exact p.lt⟩
  | tup =>
    cases x <;> first | exact hs.elim | skip
    rename_i a
    cases r
    obtain ⟨its, rv, p, _⟩ := I.tuple hs
    exact ⟨_, begins_tuple a its.toArray, p, fun h it e => ⟨_, e, rfl, rfl⟩, fun b e => by cases e; obtain ⟨o, ho, _⟩ := p; exact Heap.lt_size ho⟩
  | txt =>
    cases x <;> first | exact hs.elim | skip
    obtain ⟨t, rfl⟩ := r
    exact ⟨_, begins_text _ t, trivial, fun h it e => ⟨_, e, rfl, rfl⟩, fun b e => by cases e⟩
def tZipS (K : PySem.W.Frag) (ta : TA) : TI := fun σ H R => ta σ H fun vs H1 => ∃ k1 k2 x1 x2 xs ys, vs = [x1, x2] ∧ srcV K k1 x1 H1 xs ∧ srcV K k2 x2 H1 ys ∧ R (ItzS K k1 k2 x1 x2) H1
section
variable {X : Cx} {e e2 : Expr} {ta : TA} {p pos tpos cpos kpos : Pos} {elts : List Expr} {kk j : Nat}
theorem pi_zipS (hg : Gl X "zip") (hm : X.mg "zip" = none) (ha : PA X [e, e2] ta)
    (hs : starEach [e, e2] X.env = (false, eval e X.env) :: starEach [e2] X.env := by rfl) (hpl : ((backTo pos (starEach [e, e2] X.env)).any (·.1) || (backToKw pos (keywordEach [⟨some "strict", .Constant (.bool true) j cpos, kpos⟩] X.env)).any (·.1.isNone)) = false := by rfl)
    (hall : (backToKw pos (keywordEach [⟨some "strict", .Constant (.bool true) j cpos, kpos⟩] X.env)).all (·.1.isSome) = true := by rfl)
    (hks : (backToKw pos (keywordEach [⟨some "strict", .Constant (.bool true) j cpos, kpos⟩] X.env)).filterMap (·.1) = [Str.ofString "strict"] := by rfl) (hkeep : PySem.W.keepIn X.K (.type "zip") = true := by rfl) :
    PI X (.Tuple elts kk tpos) (.Call (.Name "zip" p) [e, e2] [⟨some "strict", .Constant (.bool true) j cpos, kpos⟩] pos) (tZipS X.K ta) := by
  refine ⟨fun pins s σ H R I h => ?_⟩
  refine wpAny_Call_Name_kw (ld_blt I hg hm PyProof.Rows.boot_zip ?_)
  refine PySem.W.callWith_KW (h₀ := X.base) (first := []) I.ok.mod.kin hkeep hall (thn (ha.run pos pins s σ H _ I h) fun us s1 ⟨vs, H1, I1, r1, q1⟩ => ?_) hpl hs
  have hk : PK X [⟨some "strict", .Constant (.bool true) j cpos, kpos⟩] _ := pk_cons pe_bl pk_nil
  refine thn (hk.run pos pins s1 σ H1 (fun vs H' => vs = [.bl true] ∧ H' = H1) I1 (by exact ⟨rfl, rfl⟩)) fun ws s2 ⟨zs, H2, I2, rz, ez, eH⟩ => ⟨I2.kIn, ?_⟩
  subst ez eH
  obtain ⟨w1, ew, rw1⟩ := vals1 rz
  subst ew
  cases rw1
  rw [hks]
  obtain ⟨k1, k2, x1, x2, xs, ys, rfl, sx, sy, q⟩ := q1
  cases r1 with
  | @cons _ u1 _ _ r rr =>
    cases rr with
    | @cons _ u2 _ _ r' rr =>
      cases rr
      obtain ⟨G1, B1, g1, t1, l1⟩ := begins_of I2 sx r
      obtain ⟨G2, B2, g2, t2, l2⟩ := begins_of I2 sy r'
      have fresh5 : ∀ c, c ∈ [s2.heap.objs.size + 4, s2.heap.objs.size + 2, s2.heap.objs.size + 3, s2.heap.objs.size, s2.heap.objs.size + 1] → FpOk X pins H2 c := fun c hcm => by
        have e' : c = s2.heap.objs.size + 4 ∨ c = s2.heap.objs.size + 2 ∨ c = s2.heap.objs.size + 3 ∨ c = s2.heap.objs.size ∨ c = s2.heap.objs.size + 1 := by simpa using hcm
        have hle : s2.heap.objs.size ≤ c := by omega
        exact I2.fpOk hle (I2.hok.fresh hle)
      refine zipS_begins B1 B2 g1 g2 fun h' hz hTI hTO h1 h2 hsz hk => pyIterB hz ?_
      have I3 : Inv X pins σ H2 { s2 with heap := h' } := I2.kept (t' := s2.toks) hk
      have D := apart5_of s2.heap.objs.size u1 u2 l1 l2
      exact ⟨s2.heap.objs.size + 4, _, _, _, H2, rfl, I3, turn_zipS r r' D, ⟨hz, hTI, ⟨_, _, hTO⟩, t1 _ _ h1, t2 _ _ h2⟩, fresh5, q⟩
end
end MP
set_option Elab.async false
set_option linter.all false
set_option maxRecDepth 100000
set_option maxHeartbeats 4000000
/-! mirrors: further walks, signs in texts, slices of texts, three at once, times -/
namespace MP
open PySem PySem.Spec L2
open PyProof.Rows hiding St

/-! ### walks -/
def iAlt (p : Sl → AH → Bool) (a b : MI) : MI := fun s h => if p s h = true then a s h else b s h
theorem i_alt {X : Cx} {T : Nat → Addr} {W : WX} {tg e : Expr} {ma mb : MI} {p : Sl → AH → Bool} (h1 : PI X tg e (tI (Wd.mk X.K T) W ma)) (h2 : PI X tg e (tI (Wd.mk X.K T) W mb)) : PI X tg e (tI (Wd.mk X.K T) W (iAlt p ma mb)) :=
  ⟨fun pins s σ H R I ⟨c, sl, h, R0, S, o⟩ => by
    unfold iAlt at o
    split at o
    · exact h1.run pins s σ H R I ⟨c, sl, h, R0, S, o⟩
    · exact h2.run pins s σ H R I ⟨c, sl, h, R0, S, o⟩⟩
def signsD (z : Str) : List D := z.cps.toList.map fun c => .str ⟨#[c]⟩
def iTxt (a : ME) : MI := fun s h => (a s h).bind fun x h1 => match x with
  | .str z => .ok ⟨signsD z, fun _ => true⟩ h1
  | _ => .st
theorem signs_rep {w : Wd} {c : Cf} (z : Str) : RepL w c (signsD z) (signsV z) := by
  unfold signsD signsV
  induction z.cps.toList with
  | nil => simp [RepL]
  | cons a l ih =>
    simp only [List.map_cons]
    exact .cons (by simp [Rep]) ih
theorem i_txt {X : Cx} {T : Nat → Addr} {W : WX} {tg e : Expr} {ma : ME} (ha : PE X e (tM (Wd.mk X.K T) W ma)) : PI X tg e (tI (Wd.mk X.K T) W (iTxt ma)) :=
  PIi (pi_str ha) fun σ H R ⟨c, s, h, R0, S, z⟩ => ⟨c, s, h, R0, S, (OutW.bind (A := Rep (Wd.mk X.K T)) z).mono (by
    rintro v H1 ⟨c1, h1, d, R1, E1, r1, o⟩
    split at o
    · rename_i x
      refine ⟨x, rp_str r1, o c1 _ H1 R1 (.refl R1.sub) ?_⟩
      intro c2 h2 H2 i R2 E2 hk
      have hl : (signsD x).length = x.cps.size := by simp [signsD]
      refine ⟨fun hi => ?_, fun d hd => ?_⟩
      · show x.cps.size ≤ i
        have hi : i = (signsD x).length := hi
        rw [hi, hl]
        exact Nat.le_refl _
      · have hi := (List.getElem?_eq_some_iff.mp hd).1
        rw [hl] at hi
        refine ⟨hi, ?_⟩
        rintro v H' ⟨rfl, cc, ec, rfl⟩
        refine ⟨c2, R2, .refl R2.sub, ?_⟩
        unfold signsD at hd
        rw [List.getElem?_map] at hd
        have : x.cps.toList[i]? = some cc := by simpa using ec
        rw [this] at hd
        cases hd
        simp [Rep]
    · exact o.elim)⟩
def isTxtD (a : ME) : Sl → AH → Bool := fun s h => match a s h with
  | .ok (.str _) _ => true
  | _ => false
/-- a text, a list or a tuple -/
def iSeqT (a : ME) : MI := iAlt (isTxtD a) (iTxt a) (iSeq a)
theorem i_seqT {X : Cx} {T : Nat → Addr} {W : WX} {tg e : Expr} {ma : ME} (ha : PE X e (tM (Wd.mk X.K T) W ma)) : PI X tg e (tI (Wd.mk X.K T) W (iSeqT ma)) := i_alt (i_txt ha) (i_seq ha)

/-! ### zip(.., strict=True) -/
def srcD (h : AH) : D → Option (List D)
  | .str z => some (signsD z)
  | d => seqX h d
def iZipS (as : MA) : MI := fun s h => (as s h).bind fun ds h1 => match ds with
  | [x, y] => match srcD h1 x, srcD h1 y with
    | some xs, some ys => if xs.length = ys.length then .ok ⟨zipD xs ys, fun h => lstOk x xs h && lstOk y ys h⟩ h1 else .st
    | _, _ => .st
  | _ => .st
def kD : D → SK
  | .str _ => .txt
  | .tup _ => .tup
  | _ => .lst
theorem src_ok {w : Wd} {c : Cf} {h : AH} {H : Hp} (R : Rel w c h H) {d : D} {v : V} {xs : List D} (r : Rep w c d v) (q : srcD h d = some xs) : ∃ vs, srcV w.K (kD d) v H vs ∧ RepL w c xs vs := by
  have other : ∀ {d : D}, Rep w c d v → seqL h d = some xs → kD d = .lst → ∃ vs, srcV w.K (kD d) v H vs ∧ RepL w c xs vs := by
    intro d r q k
    obtain ⟨a, vs, rfl, t, rl⟩ := seqL_ok R r q
    rw [k]
    exact ⟨vs, t, rl⟩
  cases d with
  | str z =>
    cases q
    rw [rp_str r]
    exact ⟨_, rfl, signs_rep z⟩
  | tup ds =>
    have q : some ds = some xs := q
    cases q
    obtain ⟨a, vs, rfl, t, rl⟩ := seqT_ok R r rfl
    exact ⟨vs, t, rl⟩
  | lst ys => exact other r (by exact q) rfl
  | fz ys => exact other r (by exact q) rfl
  | ref k => exact other r (by exact q) rfl
  | non => cases q
  | bl b => cases q
  | int i => cases q
  | cst i => cases q
  | obj _ _ _ => cases q
theorem src_at {w : Wd} {c0 c : Cf} {H : Hp} {h0 h : AH} (R : Rel w c h H) (E : Mo c0 c) {d : D} {v : V} {xs : List D} (r : Rep w c0 d v) (q : srcD h0 d = some xs) (hk : lstOk d xs h = true) :
    ∃ vs, srcV w.K (kD d) v H vs ∧ RepL w c xs vs := by
  refine src_ok R (r.mo E) ?_
  cases d with
  | ref k =>
    simp only [lstOk] at hk
    split at hk
    · rename_i ys e
      rw [D.eqbL_eq hk] at e
      simp [srcD, seqX, seqT, seqL, e]
    · cases hk
  | _ => exact q
section
variable {X : Cx} {T : Nat → Addr} {W : WX} {e e2 : Expr} {ms : MA} {pos p tpos cpos kpos : Pos} {elts : List Expr} {kk j : Nat}
theorem i_zipS (hm : X.mg "zip" = none) (ha : PA X [e, e2] (tA (Wd.mk X.K T) W ms)) (hg : Gl X "zip" := by rfl)
    (hs : starEach [e, e2] X.env = (false, eval e X.env) :: starEach [e2] X.env := by rfl) (hpl : ((backTo pos (starEach [e, e2] X.env)).any (·.1) || (backToKw pos (keywordEach [⟨some "strict", .Constant (.bool true) j cpos, kpos⟩] X.env)).any (·.1.isNone)) = false := by rfl)
    (hall : (backToKw pos (keywordEach [⟨some "strict", .Constant (.bool true) j cpos, kpos⟩] X.env)).all (·.1.isSome) = true := by rfl)
    (hks : (backToKw pos (keywordEach [⟨some "strict", .Constant (.bool true) j cpos, kpos⟩] X.env)).filterMap (·.1) = [Str.ofString "strict"] := by rfl) (hkeep : PySem.W.keepIn X.K (.type "zip") = true := by rfl) :
    PI X (.Tuple elts kk tpos) (.Call (.Name "zip" p) [e, e2] [⟨some "strict", .Constant (.bool true) j cpos, kpos⟩] pos) (tI (Wd.mk X.K T) W (iZipS ms)) :=
  PIi (pi_zipS hg hm ha hs hpl hall hks hkeep) fun σ H R ⟨c, s, h, R0, S, z⟩ => ⟨c, s, h, R0, S, (OutW.bind (A := RepL (Wd.mk X.K T)) z).mono (by
    rintro vs H1 ⟨c1, h1, ds, R1, E1, r1, o⟩
    split at o
    · rename_i x y
      obtain ⟨v, u, rfl, rx, ry⟩ := rpl2 r1
      split at o
      · rename_i xs ys q1 q2
        split at o
        · rename_i hl
          obtain ⟨as, sa, ra⟩ := src_ok R1 rx q1
          obtain ⟨bs, sb, rb⟩ := src_ok R1 ry q2
          refine ⟨_, _, v, u, as, bs, rfl, sa, sb, o c1 _ H1 R1 (.refl R1.sub) ?_⟩
          intro c2 h2 H2 i R2 E2 hk
          have hk := Bool.and_eq_true_iff.mp hk
          obtain ⟨vs2, sa2, ra2⟩ := src_at R2 E2 rx q1 hk.1
          obtain ⟨us2, sb2, rb2⟩ := src_at R2 E2 ry q2 hk.2
          have hz : (zipD xs ys).length = min xs.length ys.length := by simp [zipD]
          refine ⟨fun hi => ⟨vs2, us2, sa2, sb2, ?_⟩, fun d hd => ?_⟩
          · have hi' : i = (zipD xs ys).length := hi
            have e1 := ra2.len
            have e2 := rb2.len
            omega
          · obtain ⟨dx, dy, g1, g2, rfl⟩ := zipD_get hd
            obtain ⟨vx, e1, r3⟩ := ra2.get g1
            obtain ⟨vy, e3, r4⟩ := rb2.get g2
            refine ⟨⟨vs2, us2, vx, vy, sa2, sb2, e1, e3⟩, ?_⟩
            rintro v H' ⟨T', x', y', rfl, hT, rfl, k1, k2⟩
            have z1 := k1 _ sa2
            have z2 := k2 _ sb2
            rw [e1] at z1
            rw [e3] at z2
            cases z1
            cases z2
            exact layTup R2 (ds := [dx, dy]) (vs := [vx, vy]) ⟨_, _, rfl, r3, _, _, rfl, r4, rfl⟩ hT
        · exact o.elim
      · exact o.elim
    · exact o.elim)⟩
end

/-! ### zip of two lists or of two tuples -/
def iZipA (as : MA) : MI := fun s h => (as s h).bind fun ds h1 => match ds with
  | [x, y] => match seqT x, seqT y with
    | some xs, some ys => .ok ⟨zipD xs ys, fun _ => true⟩ h1
    | none, none => (match seqL h1 x, seqL h1 y with
      | some xs, some ys => .ok ⟨zipD xs ys, fun h => lstOk x xs h && lstOk y ys h⟩ h1
      | _, _ => .st)
    | _, _ => .st
  | _ => .st
section
variable {X : Cx} {T : Nat → Addr} {W : WX} {e e2 : Expr} {ms : MA} {pos p tpos : Pos} {elts : List Expr} {kk : Nat}
theorem i_zipA (hm : X.mg "zip" = none) (ha : PA X [e, e2] (tA (Wd.mk X.K T) W ms)) (hg : Gl X "zip" := by rfl)
    (hs : starEach [e, e2] X.env = (false, eval e X.env) :: starEach [e2] X.env := by rfl) (hpl : (backTo pos (starEach [e2] X.env)).any (·.1) = false := by rfl) :
    PI X (.Tuple elts kk tpos) (.Call (.Name "zip" p) [e, e2] [] pos) (tI (Wd.mk X.K T) W (iZipA ms)) :=
  PIi (RZ.pi_zipA hg hm ha hs hpl) fun σ H R ⟨c, s, h, R0, S, z⟩ => ⟨c, s, h, R0, S, (OutW.bind (A := RepL (Wd.mk X.K T)) z).mono (by
    rintro vs H1 ⟨c1, h1, ds, R1, E1, r1, o⟩
    split at o
    · rename_i x y
      obtain ⟨v, u, rfl, rx, ry⟩ := rpl2 r1
      split at o
      · rename_i xs ys q1 q2
        obtain ⟨a, as, rfl, sa, ra⟩ := seqT_ok R1 rx q1
        obtain ⟨b, bs, rfl, sb, rb⟩ := seqT_ok R1 ry q2
        refine ⟨a, b, as, bs, rfl, .inr ⟨sa, sb, o c1 _ H1 R1 (.refl R1.sub) ?_⟩⟩
        intro c2 h2 H2 i R2 E2 hk
        obtain ⟨a2, vs2, ea, sa2, ra2⟩ := seqT_ok R2 (rx.mo E2) q1
        obtain ⟨b2, us2, eb, sb2, rb2⟩ := seqT_ok R2 (ry.mo E2) q2
        cases ea
        cases eb
        refine ⟨fun hi => ⟨vs2, us2, sa2, sb2, ?_⟩, fun d hd => ?_⟩
        · have hl : (zipD xs ys).length = min xs.length ys.length := by simp [zipD]
          have hi' : i = (zipD xs ys).length := hi
          rw [hl, ra2.len, rb2.len] at hi'
          omega
        · obtain ⟨dx, dy, g1, g2, rfl⟩ := zipD_get hd
          obtain ⟨vx, e1, r3⟩ := ra2.get g1
          obtain ⟨vy, e3, r4⟩ := rb2.get g2
          refine ⟨⟨vs2, us2, vx, vy, sa2, sb2, e1, e3⟩, ?_⟩
          rintro v H' ⟨T', x', y', rfl, hT, rfl, k1, k2⟩
          have z1 := k1 _ sa2
          have z2 := k2 _ sb2
          rw [e1] at z1
          rw [e3] at z2
          cases z1
          cases z2
          exact layTup R2 (ds := [dx, dy]) (vs := [vx, vy]) ⟨_, _, rfl, r3, _, _, rfl, r4, rfl⟩ hT
      · split at o
        · rename_i xs ys q1 q2
          obtain ⟨a, as, rfl, sa, ra⟩ := seqL_ok R1 rx q1
          obtain ⟨b, bs, rfl, sb, rb⟩ := seqL_ok R1 ry q2
          refine ⟨a, b, as, bs, rfl, .inl ⟨sa, sb, o c1 _ H1 R1 (.refl R1.sub) ?_⟩⟩
          intro c2 h2 H2 i R2 E2 hk
          have hk := Bool.and_eq_true_iff.mp hk
          obtain ⟨a2, vs2, ea, sa2, ra2⟩ := lst_at R1 R2 E2 rx q1 hk.1
          obtain ⟨b2, us2, eb, sb2, rb2⟩ := lst_at R1 R2 E2 ry q2 hk.2
          cases ea
          cases eb
          refine ⟨fun hi => ⟨vs2, us2, sa2, sb2, ?_⟩, fun d hd => ?_⟩
          · have hl : (zipD xs ys).length = min xs.length ys.length := by simp [zipD]
            have hi' : i = (zipD xs ys).length := hi
            rw [hl, ra2.len, rb2.len] at hi'
            omega
          · obtain ⟨dx, dy, g1, g2, rfl⟩ := zipD_get hd
            obtain ⟨vx, e1, r3⟩ := ra2.get g1
            obtain ⟨vy, e3, r4⟩ := rb2.get g2
            refine ⟨⟨vs2, us2, vx, vy, sa2, sb2, e1, e3⟩, ?_⟩
            rintro v H' ⟨T', x', y', rfl, hT, rfl, k1, k2⟩
            have z1 := k1 _ sa2
            have z2 := k2 _ sb2
            rw [e1] at z1
            rw [e3] at z2
            cases z1
            cases z2
            exact layTup R2 (ds := [dx, dy]) (vs := [vx, vy]) ⟨_, _, rfl, r3, _, _, rfl, r4, rfl⟩ hT
        · exact o.elim
      · exact o.elim
    · exact o.elim)⟩
end

/-! ### a sign in a text -/
def inTxt (x y : D) : Option Bool := match x, y with
  | .str ⟨⟨[c]⟩⟩, .str z => some (decide (c ∈ z.cps.toList))
  | _, _ => none
def pInT (h : AH) (x y : D) : Option D := match inTxt x y with
  | some b => some (.bl b)
  | none => pIn h x y
def rInT : L2.R2 := fun x y H Q => ∃ (c : Nat) (z : Str), x = .str ⟨#[c]⟩ ∧ y = .str z ∧ Q (.bl (decide (c ∈ z.cps.toList))) H
def rInA (K : PySem.W.Frag) : L2.R2 := fun x y H Q => rInT x y H Q ∨ rIn K false x y H Q
theorem o_inT {X : Cx} (hr : OpR X (compareOp .In) (rIn X.K false)) : OpR X (compareOp .In) (rInA X.K) := OpR.or op_in_sign hr
theorem inTxt_ok {x y : D} {b : Bool} (h : inTxt x y = some b) : ∃ (c : Nat) (z : Str), x = .str ⟨#[c]⟩ ∧ y = .str z ∧ b = decide (c ∈ z.cps.toList) := by
  unfold inTxt at h
  split at h
  · cases h
    exact ⟨_, _, rfl, rfl, rfl⟩
  · cases h
theorem g_inT {w : Wd} : Op2 w (rInA w.K) pInT := by
  intro c h H x y z v u Q R rx ry e G
  unfold pInT at e
  split at e
  · rename_i b e1
    cases e
    obtain ⟨cc, zz, rfl, rfl, rfl⟩ := inTxt_ok e1
    exact .inl ⟨cc, zz, rp_str rx, rp_str ry, G.bl R⟩
  · exact .inr (g_in c h H x y z v u Q R rx ry e G)

/-! ### slices of texts -/
def eSlT (a : ME) (lo hi : Option ME) : ME := fun s h => (a s h).bind fun x h1 => (partD lo s h1).bind fun l h2 => (partD hi s h2).bind fun u h3 => match x with
  | .str z => if z.length ≤ 100000 then .ok (.str (cutS z l u)) h3 else .st
  | _ => .st
section
variable {X : Cx} {T : Nat → Addr} {W : WX} {e : Expr} {ma : ME} {lo hi : Option Expr} {pos p2 : Pos}
theorem r_slT {l u : Option ME} (he : PE X e (tM (Wd.mk X.K T) W ma)) (hl : PO X lo (tO (Wd.mk X.K T) W (partD l))) (hu : PO X hi (tO (Wd.mk X.K T) W (partD u))) : PE X (.Subscript e (.Slice lo hi none p2) pos) (tM (Wd.mk X.K T) W (eSlT ma l u)) :=
  PEi (pe_slice sl_str he hl hu) fun σ H Q z => by
    obtain ⟨c, s, h, R, S, o⟩ := z
    refine ⟨c, s, h, R, S, (Out.bind (A := Rep (Wd.mk X.K T)) o).mono ?_⟩
    rintro v H1 ⟨c1, h1, d, R1, E1, r1, o1⟩
    refine ⟨c1, s, h1, R1, S.ext E1, (Out.bind (A := fun _ a b => a = b) o1).mono ?_⟩
    rintro vl H2 ⟨c2, h2, dl, R2, E2, rfl, o2⟩
    refine ⟨c2, s, h2, R2, (S.ext E1).ext E2, (Out.bind (A := fun _ a b => a = b) o2).mono ?_⟩
    rintro vu H3 ⟨c3, h3, du, R3, E3, rfl, o3⟩
    split at o3
    · rename_i zz
      split at o3
      · rename_i hz
        exact ⟨zz, rp_str r1, size5 hz, o3 c3 _ H3 R3 (.refl R3.sub) (by simp [Rep])⟩
      · exact o3.elim
    · exact o3.elim
def eSlA (a : ME) (lo hi : Option ME) : ME := eAlt (isTxtD a) (eSlT a lo hi) (eSl a lo hi)
theorem r_slA {l u : Option ME} (he : PE X e (tM (Wd.mk X.K T) W ma)) (hl : PO X lo (tO (Wd.mk X.K T) W (partD l))) (hu : PO X hi (tO (Wd.mk X.K T) W (partD u))) : PE X (.Subscript e (.Slice lo hi none p2) pos) (tM (Wd.mk X.K T) W (eSlA ma l u)) :=
  r_alt (r_slT he hl hu) (r_sl he hl hu)
end

/-! ### a, b, c = x, y, z -/
section
variable {X : Cx} {T : Nat → Addr} {W : WX} {a b c : Expr} {ma mb mc : ME} {pos : Pos}
theorem s_par3 {i j l : Nat} {x y z : Str} {px py pz pt : Pos} {kt k2 pt2} (hc : X.calm = true) (hN : X.N.Nodup) (ha : PE X a (tM (Wd.mk X.K T) W ma)) (hb : PE X b (tM (Wd.mk X.K T) W mb)) (hcc : PE X c (tM (Wd.mk X.K T) W mc))
    (hi : X.N[i]? = some x := by rfl) (hj : X.N[j]? = some y := by rfl) (hl : X.N[l]? = some z := by rfl) (hij : i ≠ j := by decide) (hil : i ≠ l := by decide) (hjl : j ≠ l := by decide)
    (hx : X.env.scope.names.lookup x = some .local := by rfl) (hy : X.env.scope.names.lookup y = some .local := by rfl) (hz : X.env.scope.names.lookup z = some .local := by rfl)
    (hw : swappedStores [.Tuple [.Name x px, .Name y py, .Name z pz] kt pt] (.Tuple [a, b, c] k2 pt2) X.env = pure (some [x, y, z]) := by rfl)
    (hs : swapsWithSole [.Tuple [.Name x px, .Name y py, .Name z pz] kt pt] (.Tuple [a, b, c] k2 pt2) pos.line X.env = pure false := by rfl)
    (h1 : starEach [a, b, c] X.env = (false, eval a X.env) :: starEach [b, c] X.env := by rfl) (h2 : starEach [b, c] X.env = (false, eval b X.env) :: starEach [c] X.env := by rfl) (h3 : starEach [c] X.env = (false, eval c X.env) :: starEach [] X.env := by rfl) :
    PS X (.Assign [.Tuple [.Name x px, .Name y py, .Name z pz] kt pt] (.Tuple [a, b, c] k2 pt2) pos) (tS (Wd.mk X.K T) W (sPar3 i j l ma mb mc)) :=
  PSi (ps_par3 hc hN hi hj hl hij hil hjl hx hy hz (pa_cons ha (pa_cons hb (pa_cons hcc pa_nil h3) h2) h1) hw hs) fun D σ H ⟨c, s, h, R, S, o⟩ => ⟨c, s, h, R, S, (OutS.bind (A := Rep (Wd.mk X.K T)) S o).mono (by
    rintro v H1 ⟨c1, h1, d, R1, E1, r1, o1⟩
    refine ⟨c1, s, h1, R1, S.ext E1, (OutS.bind (A := Rep (Wd.mk X.K T)) (S.ext E1) o1).mono ?_⟩
    rintro v2 H2 ⟨c2, h2, d2, R2, E2, r2, o2⟩
    refine ⟨c2, s, h2, R2, (S.ext E1).ext E2, (OutS.bind (A := Rep (Wd.mk X.K T)) ((S.ext E1).ext E2) o2).mono ?_⟩
    rintro v3 H3 ⟨c3, h3, d3, R3, E3, r3, o3⟩
    exact ⟨v, v2, v3, rfl, o3 c3 _ H3 R3 (.refl R3.sub) ((((((S.ext E1).ext E2).ext E3).set ((r1.ext E2).ext E3)).set (r2.ext E3)).set r3)⟩)⟩
end

/-! ### times: ints, a list, a tuple, a text -/
def rMulS : L2.R2 := fun x y H Q => ∃ z k, x = .str z ∧ y = .int k ∧ ((k = 0 ∧ Q (.str Str.empty) H) ∨ (k = 1 ∧ Q (.str z) H))
theorem op_mulS {X : Cx} : OpR X (binaryOp .Mult) rMulS := by
  intro pins s σ H x y v u Q I rx ry h
  obtain ⟨z, k, rfl, rfl, h⟩ := h
  obtain ⟨t, rfl⟩ := rx
  obtain ⟨t', rfl⟩ := ry
  rcases h with ⟨rfl, q⟩ | ⟨rfl, q⟩
  · exact PySem.P.mul_str_none (by decide) (by decide) ⟨.str _, H, I.tok _, ⟨_, rfl⟩, q⟩
  · refine PySem.P.mul_str (by decide) (fun _ h => absurd h (by simp)) (fun _ h => absurd h (by simp)) ?_
    rw [if_neg (by decide), if_pos (by simp)]
    exact ⟨.str _, H, I, ⟨_, rfl⟩, q⟩
abbrev rMulA (K : PySem.W.Frag) : L2.R2 := fun x y H Q => rI CMul (fun i j => .int (i * j)) x y H Q ∨ (rRep x y H Q ∨ (rRepT K x y H Q ∨ rMulS x y H Q))
theorem o_mulA {X : Cx} : OpR X (binaryOp .Mult) (rMulA X.K) := op_mul.or (op_rep.or (op_repT.or op_mulS))
theorem repL_flat {w : Wd} {c : Cf} {xs : List D} {vs : List V} (r : RepL w c xs vs) : ∀ n, RepL w c (List.replicate n xs).flatten (List.replicate n vs).flatten
  | 0 => by simp [RepL]
  | n + 1 => by
    simp only [List.replicate_succ, List.flatten_cons]
    exact r.append (repL_flat r n)
theorem g_mulA {w : Wd} : Op2 w (rMulA w.K) pMulA := by
  intro c h H x y z v u Q R rx ry e G
  unfold pMulA at e
  split at e
  · rename_i xs k
    split at e
    · rename_i hk
      cases e
      obtain ⟨a, vs, rfl, l, rl⟩ := seqM_ok R rx rfl
      rw [rp_int ry]
      refine .inr (.inl ⟨a, k, vs, rfl, rfl, l, by omega, by omega, ?_, fun p hp => Gives.lst (h := h) G R (repL_flat rl _) p hp⟩)
      refine size5 ?_
      rw [← rl.len]
      have := Nat.mul_le_mul hk.2.2 (show k.toNat ≤ 1000 by omega)
      omega
    · cases e
  · rename_i xs k
    split at e
    · rename_i hk
      cases e
      obtain ⟨a, vs, rfl, l, rl⟩ := seqT_ok R rx rfl
      rw [rp_int ry]
      refine .inr (.inr (.inl ⟨a, k, vs, rfl, rfl, l, ?_, hk.2.1, hk.2.2.1, by rw [← rl.len]; exact hk.2.2.2, fun p hp => Gives.tup (h := h) G R (repL_flat rl _) p hp⟩))
      intro z
      subst z
      have := rl.len
      exact hk.1 (List.length_eq_zero_iff.mp this)
    · cases e
  · rename_i z k
    rw [rp_str rx, rp_int ry]
    split at e
    · rename_i hk
      cases e
      exact .inr (.inr (.inr ⟨_, _, rfl, rfl, .inl ⟨hk, G.str R⟩⟩))
    · split at e
      · rename_i hk
        cases e
        exact .inr (.inr (.inr ⟨_, _, rfl, rfl, .inr ⟨hk, G.str R⟩⟩))
      · cases e
  · exact .inl (g_mul c h H x y z v u Q R rx ry e G)
/-! ### facts told by a look at the written part -/
def nzB (a : Addr) : Bool := decide (a ≠ 0)
theorem nz {K : PySem.W.Frag} {f : PySem.W.Frag → Addr} (h : (XFa.any fun K => nzB (f K)).ok K = true) : f K ≠ 0 := of_decide_eq_true (show decide (f K ≠ 0) = true from h)
theorem sbB {K : PySem.W.Frag} {f : PySem.W.Frag → Addr} (h : (XFa.any fun K => subB K (f K)).ok K = true) : subB K (f K) = true := h
/-- a value of the written part is what is told of it -/
def cstB (K : PySem.W.Frag) (T : Nat → Addr) : D → Value → Bool
  | .non, .none => true
  | .bl b, .bool c => b == c
  | .int i, .int j _ => i == j
  | .str x, .str y _ => decide (x = y)
  | .cst i, .ref a => decide (a = T i)
  | _, _ => false
def cstsB (K : PySem.W.Frag) (T : Nat → Addr) : List D → List Value → Bool
  | [], [] => true
  | d :: ds, v :: vs => cstB K T d v && cstsB K T ds vs
  | _, _ => false
def tupB (K : PySem.W.Frag) (T : Nat → Addr) (a : Addr) (ds : List D) : Bool := match K.lookup a with
  | some ⟨.type c, _, .seq its _, _⟩ => decide (c = "tuple") && (decide (its.size ≤ 1000) && cstsB K T ds its.toList)
  | _ => false
def cstV (T : Nat → Addr) : D → V
  | .non => .non
  | .bl b => .bl b
  | .int i => .int i
  | .str x => .str x
  | .cst i => .ref (T i)
  | _ => .non
theorem cstB_ok {K : PySem.W.Frag} {T : Nat → Addr} {d : D} {v : Value} (h : cstB K T d v = true) : RelV (cstV T d) v ∧ ∀ c, Rep ⟨K, T⟩ c d (cstV T d) := by
  unfold cstB at h
  split at h
  · exact ⟨rfl, fun c => by simp [Rep, cstV]⟩
  · exact ⟨by rw [beq_iff_eq.mp h]; rfl, fun c => by simp [Rep, cstV]⟩
  · exact ⟨⟨_, by rw [beq_iff_eq.mp h]⟩, fun c => by simp [Rep, cstV]⟩
  · exact ⟨⟨_, by rw [of_decide_eq_true h]⟩, fun c => by simp [Rep, cstV]⟩
  · exact ⟨by rw [of_decide_eq_true h]; rfl, fun c => by simp [Rep, cstV]⟩
  · cases h
theorem cstsB_ok {K : PySem.W.Frag} {T : Nat → Addr} : ∀ {ds : List D} {vs : List Value}, cstsB K T ds vs = true → Vals (ds.map (cstV T)) vs ∧ ∀ c, RepL ⟨K, T⟩ c ds (ds.map (cstV T))
  | [], [], _ => ⟨.nil, fun c => by simp [RepL]⟩
  | d :: ds, v :: vs, h => by
    obtain ⟨h1, h2⟩ := Bool.and_eq_true_iff.mp h
    obtain ⟨a, b⟩ := cstB_ok h1
    obtain ⟨e, f⟩ := cstsB_ok h2
    exact ⟨.cons a e, fun c => .cons (b c) (f c)⟩
  | [], _ :: _, h => by cases h
  | _ :: _, [], h => by cases h
theorem tupB_ok {K : PySem.W.Frag} {T : Nat → Addr} {a : Addr} {ds : List D} (h : tupB K T a ds = true) (c : Cf) : Rep ⟨K, T⟩ c (.tup ds) (.ref a) := by
  unfold tupB at h
  split at h
  · rename_i cl od its n sl e
    obtain ⟨h1, h2⟩ := Bool.and_eq_true_iff.mp h
    obtain ⟨h2, h3⟩ := Bool.and_eq_true_iff.mp h2
    obtain ⟨v, r⟩ := cstsB_ok h3
    have hc := of_decide_eq_true h1
    subst hc
    simp only [Rep]
    refine ⟨a, _, rfl, .inr (.inr ⟨_, its, n, e, rfl, rfl, ?_, v⟩), r c⟩
    have h4 : its.size ≤ 1000 := of_decide_eq_true h2
    exact size5 (by omega)
  · cases h
theorem glob_tup {X : Cx} {T : Nat → Addr} {W : WX} {x : Str} {a : Addr} {ds : List D} {pos : Pos} (hm : X.mg x = some (.ref a)) (h : tupB X.K T a ds = true) (hg : Gl X x := by rfl) (hd : (x == ("__debug__" : Str)) = false := by decide) : PE X (.Name x pos) (tM (Wd.mk X.K T) W (eC (.tup ds))) :=
  r_glob hm (fun c => tupB_ok h c) rfl hg hd
theorem tupB0 {K : PySem.W.Frag} {T T' : Nat → Addr} {a : Addr} {ds : List D} (h : tupB K T a ds = true) (hd : ds.all (fun d => match d with | .cst _ => false | _ => true) = true) : tupB K T' a ds = true := by
  unfold tupB at h ⊢
  split at h
  · rename_i cl od its n sl e
    obtain ⟨h1, h2⟩ := Bool.and_eq_true_iff.mp h
    obtain ⟨h2, h3⟩ := Bool.and_eq_true_iff.mp h2
    have key : ∀ (ds : List D) (vs : List Value), cstsB K T ds vs = true → ds.all (fun d => match d with | .cst _ => false | _ => true) = true → cstsB K T' ds vs = true := by
      intro ds
      induction ds with
      | nil => intro vs h _; cases vs <;> first | rfl | cases h
      | cons d ds ih =>
        intro vs h hd
        cases vs with
        | nil => cases h
        | cons v vs =>
          obtain ⟨a1, a2⟩ := Bool.and_eq_true_iff.mp h
          simp only [List.all_cons, Bool.and_eq_true] at hd
          refine Bool.and_eq_true_iff.mpr ⟨?_, ih vs a2 hd.2⟩
          cases d with
          | cst i => simp at hd
          | _ => cases v <;> exact a1
    exact Bool.and_eq_true_iff.mpr ⟨h1, Bool.and_eq_true_iff.mpr ⟨h2, key _ _ h3 hd⟩⟩
  · cases h
theorem glob_tup0 {X : Cx} {T : Nat → Addr} {W : WX} {x : Str} {a : Addr} {ds : List D} {pos : Pos} (hm : X.mg x = some (.ref a)) (h : tupB X.K (fun _ => 0) a ds = true) (hd : ds.all (fun d => match d with | .cst _ => false | _ => true) = true := by decide) (hg : Gl X x := by rfl) (hdb : (x == ("__debug__" : Str)) = false := by decide) : PE X (.Name x pos) (tM (Wd.mk X.K T) W (eC (.tup ds))) :=
  glob_tup hm (tupB0 h hd) hg hdb
end MP
set_option Elab.async false
set_option linter.all false
set_option maxRecDepth 100000
set_option maxHeartbeats 4000000
/-! mirrors: len(range(..)), dicts -/
namespace MP
open PySem PySem.Spec L2
open PyProof.Rows hiding St

/-! ### len(range(n)) -/
def eLenRng (a : ME) : ME := fun s h => (a s h).bind fun x h1 => match x with
  | .int n => if n < 4611686018427387904 then .ok (.int (if 0 < n then n else 0)) h1 else .st
  | _ => .st
section
variable {X : Cx} {T : Nat → Addr} {W : WX} {e : Expr} {ma : ME} {p pos p2 pos2 : Pos}
theorem rangeSize1 (n : Int) : Builtin.Range.rangeSize 0 n 1 = ((n.toNat : Nat) : Int) := by
  have := rangeSize_nat 0 n
  rw [this]
  congr 1
  omega
theorem r_lenRng (hm : X.mg "len" = none) (hm2 : X.mg "range" = none) (ha : PE X e (tM (Wd.mk X.K T) W ma)) (hg : Gl X "len" := by rfl) (hg2 : Gl X "range" := by rfl)
    (na : starEach [.Call (.Name "range" p2) [e] [] pos2] X.env = (false, eval (.Call (.Name "range" p2) [e] [] pos2) X.env) :: starEach [] X.env := by rfl)
    (nb : starEach [e] X.env = (false, eval e X.env) :: starEach [] X.env := by rfl) :
    PE X (.Call (.Name "len" p) [.Call (.Name "range" p2) [e] [] pos2] [] pos) (tM (Wd.mk X.K T) W (eLenRng ma)) := by
  have hp := prg_1 (p := p2) (pos := pos2) hg2 hm2 ha nb
  refine ⟨fun pins s σ H Q I z => ?_⟩
  obtain ⟨c, sl, h, R, S, o⟩ := z
  refine Call_ (ld_blt I hg hm PySem.boot_len (PyProof.Rows.callWith_builtin1 (args_cons (thn (hp pins s σ H (fun a b H1 => a = 0 ∧ b < 4611686018427387904 ∧ Q (.int (if 0 < b then b else 0)) H1) I ⟨c, sl, h, R, S, (Out.bind (A := Rep (Wd.mk X.K T)) o).mono ?_⟩) fun x s1 ⟨r, a, b, t, u, v, H1, ex, hr, I1, q0, q1, q⟩ => args_nil ?_) na) na))
  · rintro v H1 ⟨c1, h1, d, R1, E1, r1, o1⟩
    split at o1
    · rename_i n
      split at o1
      · rename_i hn
        exact ⟨n, rp_int r1, rfl, hn, o1 c1 _ H1 R1 (.refl R1.sub) (by simp [Rep])⟩
      · exact o1.elim
    · exact o1.elim
  · subst ex q0
    refine call_len_range (n := b.toNat) hr (rangeSize1 b) (by omega) ⟨.int b.toNat, H1, (I1.tok (s1.toks + 1)).tok _, ⟨_, rfl⟩, ?_⟩
    have e : ((b.toNat : Nat) : Int) = if 0 < b then b else 0 := by split <;> omega
    rw [e]
    exact q
end

/-! ### dicts -/
def keyD : D → Option Key
  | .int i => some (.inl i)
  | .str x => some (.inr x)
  | _ => none
theorem keyD_ok {w : Wd} {c : Cf} {d : D} {v : V} {k : Key} (r : Rep w c d v) (e : keyD d = some k) : v = kV k := by
  cases d <;> first | cases e | skip
  · rw [rp_int r]; rfl
  · rw [rp_str r]; rfl
def lookD {κ : Type} [DecidableEq κ] (kvs : List (κ × D)) (k : κ) : Option D := (kvs.find? fun kv => decide (kv.1 = k)).map (·.2)
def putKD {κ : Type} [DecidableEq κ] (kvs : List (κ × D)) (k : κ) (v : D) : List (κ × D) :=
  if (kvs.any fun kv => decide (kv.1 = k)) = true then kvs.map (fun kv => if kv.1 = k then (kv.1, v) else kv) else kvs ++ [(k, v)]
def dropKD {κ : Type} [DecidableEq κ] (kvs : List (κ × D)) (k : κ) : List (κ × D) := kvs.filter fun kv => decide (kv.1 ≠ k)
section
variable {w : Wd} {c : Cf} {κ : Type} [DecidableEq κ]
theorem kv_len : ∀ {l : List (κ × D)} {vs : List (κ × V)}, RepKV w c l vs → l.length = vs.length
  | [], vs, r => by obtain rfl : vs = [] := r; rfl
  | p :: l, vs, r => by
    obtain ⟨x, xs, rfl, r1, r2⟩ := r
    simp [kv_len r2]
theorem kv_look {k : κ} : ∀ {l : List (κ × D)} {vs : List (κ × V)}, RepKV w c l vs → (lookD l k = none ∧ valV vs k = none) ∨ ∃ d v, lookD l k = some d ∧ valV vs k = some v ∧ Rep w c d v
  | [], vs, r => by obtain rfl : vs = [] := r; exact .inl ⟨rfl, rfl⟩
  | p :: l, vs, r => by
    obtain ⟨x, xs, rfl, r1, r2⟩ := r
    by_cases e : p.1 = k
    · exact .inr ⟨p.2, x, by simp [lookD, List.find?_cons, e], by simp [valV, List.find?_cons, e], r1⟩
    · rcases kv_look (k := k) r2 with ⟨a, b⟩ | ⟨d, v, a, b, r3⟩
      · refine .inl ⟨?_, ?_⟩
        · simpa [lookD, List.find?_cons, e] using a
        · simpa [valV, List.find?_cons, e] using b
      · refine .inr ⟨d, v, ?_, ?_, r3⟩
        · simpa [lookD, List.find?_cons, e] using a
        · simpa [valV, List.find?_cons, e] using b
theorem kv_any {k : κ} : ∀ {l : List (κ × D)} {vs : List (κ × V)}, RepKV w c l vs → (l.any fun kv => decide (kv.1 = k)) = (vs.any fun kv => decide (kv.1 = k))
  | [], vs, r => by obtain rfl : vs = [] := r; rfl
  | p :: l, vs, r => by
    obtain ⟨x, xs, rfl, r1, r2⟩ := r
    simp only [List.any_cons, kv_any r2]
theorem kv_map {k : κ} {d : D} {v : V} (rd : Rep w c d v) : ∀ {l : List (κ × D)} {vs : List (κ × V)}, RepKV w c l vs → RepKV w c (l.map fun kv => if kv.1 = k then (kv.1, d) else kv) (vs.map fun kv => if kv.1 = k then (kv.1, v) else kv)
  | [], vs, r => by obtain rfl : vs = [] := r; exact rfl
  | p :: l, vs, r => by
    obtain ⟨x, xs, rfl, r1, r2⟩ := r
    simp only [List.map_cons]
    by_cases e : p.1 = k
    · simp only [e, if_true]
      exact ⟨v, _, rfl, rd, kv_map rd r2⟩
    · simp only [e, if_false]
      exact ⟨x, _, rfl, r1, kv_map rd r2⟩
theorem kv_put {k : κ} {d : D} {v : V} (rd : Rep w c d v) {l : List (κ × D)} {vs : List (κ × V)} (r : RepKV w c l vs) : RepKV w c (putKD l k d) (putK vs k v) := by
  unfold putKD putK
  rw [kv_any r]
  split
  · exact kv_map rd r
  · exact repKV_append r ⟨v, [], rfl, rd, rfl⟩
theorem kv_drop {k : κ} : ∀ {l : List (κ × D)} {vs : List (κ × V)}, RepKV w c l vs → RepKV w c (dropKD l k) (dropK vs k)
  | [], vs, r => by obtain rfl : vs = [] := r; exact rfl
  | p :: l, vs, r => by
    obtain ⟨x, xs, rfl, r1, r2⟩ := r
    have ih := kv_drop (k := k) r2
    by_cases e : p.1 = k
    · simpa [dropKD, dropK, List.filter_cons, e] using ih
    · have : RepKV w c (p :: dropKD l k) ((p.1, x) :: dropK xs k) := ⟨x, _, rfl, r1, ih⟩
      simpa [dropKD, dropK, List.filter_cons, e] using this
end
def mergeD (kvs more : List (Key × D)) : List (Key × D) := more.foldl (fun acc kv => putKD acc kv.1 kv.2) kvs
theorem kv_merge {w : Wd} {c : Cf} : ∀ {m : List (Key × D)} {ms : List (Key × V)} {l : List (Key × D)} {vs : List (Key × V)}, RepKV w c m ms → RepKV w c l vs → RepKV w c (mergeD l m) (mergeK vs ms)
  | [], ms, l, vs, r, r0 => by obtain rfl : ms = [] := r; exact r0
  | p :: m, ms, l, vs, r, r0 => by
    obtain ⟨x, xs, rfl, r1, r2⟩ := r
    show RepKV w c (mergeD (putKD l p.1 p.2) m) (mergeK (putK vs p.1 x) xs)
    exact kv_merge (ms := xs) (vs := putK vs p.1 x) r2 (kv_put r1 r0)
/-- the pairs of a display -/
def ePrs : List (ME × ME) → Sl → AH → Res (List (Key × D))
  | [] => fun _ h => .ok [] h
  | (k, v) :: r => fun s h => (k s h).bind fun x h1 => (v s h1).bind fun y h2 => match keyD x with
    | some kk => (ePrs r s h2).bind fun l h3 => .ok ((kk, y) :: l) h3
    | none => .st
def eDsp (ps : List (ME × ME)) : ME := fun s h => (ePrs ps s h).bind fun l h1 => if l.length ≤ 15 then .ok (.ref h1.n) (h1.new (.dct (mergeD [] l))) else .st
section
variable {X : Cx} {T : Nat → Addr} {W : WX} {a b e k v o : Expr} {ma mb mc : ME} {pos p : Pos}
inductive RPs (X : Cx) (T : Nat → Addr) (W : WX) (pos : Pos) : List (Option Expr) → List Expr → List (ME × ME) → Prop where
  | nil : RPs X T W pos [] [] []
  | cons {k v : Expr} {ks : List (Option Expr)} {vs : List Expr} {mk mv : ME} {ms : List (ME × ME)} (hk : PE X k (tM (Wd.mk X.K T) W mk)) (hv : PE X v (tM (Wd.mk X.K T) W mv)) (r : RPs X T W pos ks vs ms) : RPs X T W pos (some k :: ks) (v :: vs) ((mk, mv) :: ms)
theorem RPs.pps {ks : List (Option Expr)} {vs : List Expr} {ms : List (ME × ME)} (h : RPs X T W pos ks vs ms) : PPs X pos ks vs (ms.map fun m => (tM (Wd.mk X.K T) W m.1, tM (Wd.mk X.K T) W m.2)) := by
  induction h with
  | nil => exact pps_nil
  | cons h1 h2 r ih => exact pps_cons h1 h2 ih
theorem tM_mono {K : PySem.W.Frag} {m : ME} {σ : L2.St} {H : Hp} {Q Q' : VK} (z : tM (Wd.mk K T) W m σ H Q) (q : ∀ v H', Q v H' → Q' v H') : tM (Wd.mk K T) W m σ H Q' := by
  obtain ⟨c, s, h, R, S, o⟩ := z
  exact ⟨c, s, h, R, S, o.mono q⟩
theorem tPairs_mono {K : PySem.W.Frag} : ∀ {ms : List (ME × ME)} {σ : L2.St} {H : Hp} {Q Q' : List (V × V) → Hp → Prop}, tPairs (ms.map fun m => (tM (Wd.mk K T) W m.1, tM (Wd.mk K T) W m.2)) σ H Q → (∀ ps H', Q ps H' → Q' ps H') →
    tPairs (ms.map fun m => (tM (Wd.mk K T) W m.1, tM (Wd.mk K T) W m.2)) σ H Q'
  | [], σ, H, Q, Q', z, q => q _ _ z
  | (mk, mv) :: ms, σ, H, Q, Q', z, q => tM_mono z fun x H1 z1 => tM_mono z1 fun y H2 z2 => tPairs_mono (ms := ms) z2 fun ps H3 z3 => q _ _ z3
theorem Res.bind_assoc {α β γ : Type} (r : Res α) (f : α → AH → Res β) (g : β → AH → Res γ) : (r.bind f).bind g = r.bind fun a h => (f a h).bind g := by cases r <;> rfl
theorem Out.bind0 {w : Wd} {c0 c : Cf} {H0 H : Hp} {E : XK} {α β γ δ : Type} {A : Cf → α → β → Prop} {B : Cf → γ → δ → Prop} (E0 : Ext c0 H0 c H) {Q : δ → Hp → Prop} {f : α → AH → Res γ} : ∀ {r : Res α}, Out w c0 H0 E B Q (r.bind f) →
    Out w c H E A (fun b H1 => ∃ c1 h1 a, Rel w c1 h1 H1 ∧ Ext c H c1 H1 ∧ A c1 a b ∧ Out w c0 H0 E B Q (f a h1)) r
  | .ok a h', o => fun c' b H' R e q => ⟨c', h', a, R, e, q, o⟩
  | .ex _ _, o => fun c' cls dd H' R e q => o c' cls dd H' R (E0.trans e) q
  | .st, o => o
theorem prs_aux {K : PySem.W.Frag} {σ : L2.St} {E : XK} {c0 : Cf} {H0 : Hp} : ∀ {ms : List (ME × ME)} {c : Cf} {s : Sl} {h : AH} {H : Hp} {Q : VK} {f : List (Key × D) → AH → Res D}, (E = fun cls dd H' => W cls dd σ H') → Ext c0 H0 c H → Rel (Wd.mk K T) c h H → RelS (Wd.mk K T) c s σ →
    Out (Wd.mk K T) c0 H0 E (Rep (Wd.mk K T)) Q ((ePrs ms s h).bind f) →
    tPairs (ms.map fun m => (tM (Wd.mk K T) W m.1, tM (Wd.mk K T) W m.2)) σ H fun ps H2 => ∃ c2 h2 l kvs, Rel (Wd.mk K T) c2 h2 H2 ∧ Ext c H c2 H2 ∧ ps = kvs.map (fun kv : Key × V => (kV kv.1, kv.2)) ∧ RepKV (Wd.mk K T) c2 l kvs ∧ Out (Wd.mk K T) c0 H0 E (Rep (Wd.mk K T)) Q (f l h2)
  | [], c, s, h, H, Q, f, eE, E0, R, S, o => ⟨c, h, [], [], R, .refl R.sub, rfl, rfl, o⟩
  | (mk, mv) :: ms, c, s, h, H, Q, f, eE, E0, R, S, o => by
    subst eE
    simp only [ePrs, Res.bind_assoc] at o
    refine ⟨c, s, h, R, S, (Out.bind0 (A := Rep (Wd.mk K T)) E0 o).mono ?_⟩
    rintro x H1 ⟨c1, h1, d1, R1, E1, r1, o1⟩
    refine ⟨c1, s, h1, R1, S.ext E1, (Out.bind0 (A := Rep (Wd.mk K T)) (E0.trans E1) o1).mono ?_⟩
    rintro y H2 ⟨c2, h2, d2, R2, E2, r2, o2⟩
    cases ek : keyD d1 with
    | none => rw [ek] at o2; exact o2.elim
    | some kk =>
      rw [ek] at o2
      have hx := keyD_ok r1 ek
      dsimp only at o2
      rw [Res.bind_assoc] at o2
      have ih := prs_aux (ms := ms) rfl ((E0.trans E1).trans E2) R2 ((S.ext E1).ext E2) o2
      refine tPairs_mono ih ?_
      rintro ps H3 ⟨c3, h3, l, kvs, R3, E3, rfl, rk, o3⟩
      exact ⟨c3, h3, (kk, d2) :: l, (kk, y) :: kvs, R3, (E1.trans E2).trans E3, by rw [hx]; rfl, ⟨y, kvs, rfl, r2.ext E3, rk⟩, o3⟩
theorem r_dsp {ks : List (Option Expr)} {vs : List Expr} {ms : List (ME × ME)} (h : RPs X T W pos ks vs ms) (hall : ks.all (·.isSome) = true := by rfl) (hl : ks.length = vs.length := by rfl) (h0 : ks ≠ [] := by exact nofun) (h15 : ks.length ≤ 15 := by decide) :
    PE X (.Dict ks vs pos) (tM (Wd.mk X.K T) W (eDsp ms)) :=
  PEi (pe_disp h.pps hall hl h0 h15) fun σ H Q z => by
    obtain ⟨c, s, h, R, S, o⟩ := z
    intro p hp
    have gp := R.gfree hp
    have X0 := R.ext0 (H' := upd H p (.dK [])) fun a u e => by rw [upd_ne (ne_of_none e hp)]; exact e
    refine tPairs_mono (prs_aux rfl X0.2 X0.1 S o) ?_
    rintro ps H2 ⟨c2, h2, l, kvs, R2, E2, rfl, rk, o2⟩
    have hpn : (upd H p (.dK [])) p ≠ none := by rw [upd_same]; exact nofun
    have gp2 := E2.gnone gp hpn
    refine ⟨E2.keep p _ upd_same (R.noidNew hp), kvs, rfl, ?_⟩
    split at o2
    · rename_i hl
      refine ⟨by rw [← kv_len rk]; exact hl, ?_⟩
      have R3 := R2.priv (p := p) (o := .dK (mergeK [] kvs)) gp2
      have J := R3.joinId gp2 upd_same (o := .dct (mergeD [] l)) ⟨_, rfl, kv_merge rk rfl⟩
      have EE : Ext c H (c2.add p (.dK (mergeK [] kvs))) (upd H2 p (.dK (mergeK [] kvs))) := ((X0.2.trans E2).priv hp).joinId hp
      refine o2 _ _ _ J.1 EE ?_
      simp only [Rep]
      refine ⟨?_, ?_⟩
      · show V.ref p = V.ref (if h2.n = c2.n then p else _)
        rw [if_pos R2.n.symm]
      · show h2.n < c2.n + 1
        rw [R2.n]
        exact Nat.lt_succ_self _
    · exact o2.elim
/-! d[k], d.get(k, v), k in d, d[k] = v -/
def dctOf (h : AH) : D → Option (Nat × List (Key × D))
  | .ref k => match h.g k with
    | some (.dct l) => some (k, l)
    | _ => none
  | _ => none
theorem dctAt {w : Wd} {c : Cf} {h : AH} {H : Hp} (R : Rel w c h H) {d : D} {v : V} (r : Rep w c d v) {k : Nat} {l : List (Key × D)} (e : dctOf h d = some (k, l)) :
    d = .ref k ∧ h.g k = some (.dct l) ∧ v = .ref (c.ρ k) ∧ ∃ vs, c.G (c.ρ k) = some (.dK vs) ∧ H (c.ρ k) = some (.dK vs) ∧ RepKV w c l vs := by
  cases d with
  | ref j =>
    simp only [dctOf] at e
    split at e
    · rename_i l' q
      simp only [Option.some.injEq, Prod.mk.injEq] at e
      obtain ⟨rfl, rfl⟩ := e
      simp only [Rep] at r
      obtain ⟨u, e1, vs, rfl, rk⟩ := R.at_ _ _ q
      exact ⟨rfl, q, r.1, vs, e1, R.sub _ _ e1, rk⟩
    · cases e
  | _ => simp [dctOf] at e
def isDct (a : ME) : Sl → AH → Bool := fun s h => match a s h with
  | .ok x h1 => (dctOf h1 x).isSome
  | _ => false
def eDIx (a b : ME) : ME := fun s h => (a s h).bind fun x h1 => (b s h1).bind fun y h2 => match dctOf h2 x, keyD y with
  | some (_, l), some k => optR (lookD l k) h2
  | _, _ => .st
def eIxA (a b : ME) : ME := eAlt (isDct a) (eDIx a b) (eBin pIx a b)
theorem r_dix {k0 : Nat} (hr : Rm k0 X.A) (ha : PE X a (tM (Wd.mk X.K T) W ma)) (hb : PE X b (tM (Wd.mk X.K T) W mb)) (hs : NoSl b := by intro _ _; rfl) : PE X (.Subscript a b pos) (tM (Wd.mk X.K T) W (eDIx ma mb)) :=
  PEi (pe_dget (show X.A.units + 1 < cLine by have := hr.r.units; omega) ha hb hs) fun σ H Q z => two z fun c2 s h2 H2 x y v u R2 S2 r1 r2 o => by
    split at o
    · rename_i kk l k e1 e2
      obtain ⟨d, e, G⟩ := optOut o
      obtain ⟨rfl, q, rfl, vs, g1, g2, rk⟩ := dctAt R2 r1 e1
      have hu := keyD_ok r2 e2
      rcases kv_look (k := k) rk with ⟨z, _⟩ | ⟨d', v', z, z2, rr⟩
      · rw [z] at e; cases e
      · rw [z] at e; cases e
        refine ⟨_, v', rfl, ?_, G.same R2 rr⟩
        rw [hu, ← z2]
        exact DGet.k g2
    · exact o.elim
theorem r_ixA {k0 : Nat} (hr : Rm k0 X.A) (ha : PE X a (tM (Wd.mk X.K T) W ma)) (hb : PE X b (tM (Wd.mk X.K T) W mb)) (hs : NoSl b := by intro _ _; rfl) (hs2 : PlainIx b := by intro _ _; rfl) : PE X (.Subscript a b pos) (tM (Wd.mk X.K T) W (eIxA ma mb)) := r_alt (r_dix hr ha hb hs) (r_ix ha hb hs2)
def eDGet2 (a b c : ME) : ME := fun s h => (a s h).bind fun x h1 => match dctOf h1 x with
  | some _ => (b s h1).bind fun y h2 => (c s h2).bind fun z h3 => match dctOf h3 x, keyD y with
    | some (_, l), some k => .ok ((lookD l k).getD z) h3
    | _, _ => .st
  | none => .st
theorem r_dget2 {k0 : Nat} {c : Expr} {apos : Pos} (hr : Rm k0 X.A) (ha : PE X a (tM (Wd.mk X.K T) W ma)) (hb : PE X b (tM (Wd.mk X.K T) W mb)) (hc : PE X c (tM (Wd.mk X.K T) W mc)) (m : M2 X a "get" apos b c pos := by exact ⟨rfl, rfl, rfl, rfl⟩) :
    PE X (.Call (.Attribute a "get" apos) [b, c] [] pos) (tM (Wd.mk X.K T) W (eDGet2 ma mb mc)) :=
  PEi (pe_dget2 (show X.A.units + 1 < cLine by have := hr.r.units; omega) ha hb hc m) fun σ H Q z => by
    obtain ⟨c0, s, h, R, S, o⟩ := z
    refine ⟨c0, s, h, R, S, (Out.bind (A := Rep (Wd.mk X.K T)) o).mono ?_⟩
    rintro v H1 ⟨c1, h1, x, R1, E1, r1, o1⟩
    split at o1
    · rename_i p0 e0
      obtain ⟨rfl, q, rfl, vs, g1, g2, rk⟩ := dctAt R1 r1 (show dctOf h1 x = some (p0.1, p0.2) from e0)
      refine ⟨_, rfl, .inl ⟨vs, .inl g2⟩, c1, s, h1, R1, S.ext E1, (Out.bind (A := Rep (Wd.mk X.K T)) o1).mono ?_⟩
      rintro u H2 ⟨c2, h2, y, R2, E2, r2, o2⟩
      refine ⟨c2, s, h2, R2, (S.ext E1).ext E2, (Out.bind (A := Rep (Wd.mk X.K T)) o2).mono ?_⟩
      rintro uz H3 ⟨c3, h3, z, R3, E3, r3, o3⟩
      split at o3
      · rename_i kk l k e1 e2
        have hu := keyD_ok r2 e2
        obtain ⟨ea, q3, eb, ws, g3, g4, rk3⟩ := dctAt R3 ((r1.ext E2).ext E3) e1
        cases ea
        have hd : DGet H3 (c3.ρ p0.1) u (valV ws k) := by rw [hu]; exact DGet.k g4
        have e5 : c1.ρ p0.1 = c3.ρ p0.1 := by injection eb
        rw [e5]
        refine ⟨_, hd, ?_⟩
        rcases kv_look (k := k) rk3 with ⟨z1, z2⟩ | ⟨d', v', z1, z2, rr⟩
        · rw [z1] at o3
          rw [z2]
          exact o3 c3 _ H3 R3 (.refl R3.sub) r3
        · rw [z1] at o3
          rw [z2]
          exact o3 c3 _ H3 R3 (.refl R3.sub) rr
      · exact o3.elim
    · exact o1.elim
end
end MP
set_option Elab.async false
set_option linter.all false
set_option maxRecDepth 100000
set_option maxHeartbeats 4000000
/-! mirrors: x[::-1], a tuple or a list -/
namespace MP
open PySem PySem.Spec L2 HT
open PyProof.Rows hiding St
section
variable {prog : Program} {w : World} {A : Around} {E : Value → Shared → Prop} {s : Shared}
theorem sliceApplied_rev {sl : Addr} {vl vu vs : Value} {n : Nat} {Q : Int × Int × Nat → Shared → Prop} (hs : s.heap.IsSliceOf sl vl vu vs) (pl : IsPart vl none) (pu : IsPart vu none) (ps : IsPart vs (some (-1)))
    (h : Q ((n : Int) - 1, -1, n) s) : wpAny (model prog w) A (Builtin.Slice.sliceApplied (.ref sl) (pure (n : Int))) Q E s := by
  obtain ⟨os, hos, hcs, hds⟩ := id hs
  unfold Builtin.Slice.sliceApplied Builtin.Slice.sliceFields
  refine wpAny_bind (wpAny_bind (wpAny_field hos hds (x := vl) rfl (wpAny_bind (wpAny_field hos hds (x := vu) rfl (wpAny_bind (wpAny_field hos hds (x := vs) rfl (wpAny_pure ?_)))))))
  refine wpAny_bind (slicePart_ ps ?_)
  show wpAny _ _ (if ((-1 : Int) == 0) = true then _ else _) _ _ s
  rw [if_neg (by decide)]
  refine wpAny_bind (slicePart_ pl (wpAny_bind (slicePart_ pu (wpAny_bind (wpAny_pure ?_)))))
  have e1 : Builtin.Slice.sliceAdjust none none (-1) (n : Int) = ((n : Int) - 1, -1) := by simp [Builtin.Slice.sliceAdjust]
  have e2 : Builtin.Slice.slicePlaces ((n : Int) - 1) (-1) (-1) = n := by
    unfold Builtin.Slice.slicePlaces
    rw [if_neg (by decide)]
    split
    · simp
    · omega
  show wpAny _ _ (match Builtin.Slice.sliceAdjust none none (-1) (n : Int) with | (lo, hi) => pure (lo, (-1 : Int), Builtin.Slice.slicePlaces lo hi (-1))) _ _ s
  rw [e1]
  show wpAny _ _ (pure ((n : Int) - 1, (-1 : Int), Builtin.Slice.slicePlaces ((n : Int) - 1) (-1) (-1))) _ _ s
  rw [e2]
  exact wpAny_pure h
theorem fm_congr {α β : Type} {f g : α → Option β} : ∀ l : List α, (∀ k ∈ l, f k = g k) → l.filterMap f = l.filterMap g
  | [], _ => rfl
  | k :: l, h => by rw [List.filterMap_cons, List.filterMap_cons, h k List.mem_cons_self, fm_congr l fun j hj => h j (List.mem_cons_of_mem _ hj)]
theorem pick_rev (xs : Array Value) : ((List.range xs.size).filterMap fun (m : Nat) => xs[(((xs.size : Int) - 1) + (m : Int) * (-1)).toNat]?).toArray = xs.toList.reverse.toArray := by
  have h := pick_gen xs.toList.reverse.toArray 0 xs.size
  rw [List.drop_zero, List.take_of_length_le (by simp)] at h
  have e : (List.range xs.size).filterMap (fun (m : Nat) => xs[(((xs.size : Int) - 1) + (m : Int) * (-1)).toNat]?) = (List.range xs.size).filterMap fun (m : Nat) => xs.toList.reverse.toArray[(((0 : Nat) : Int) + (m : Int) * 1).toNat]? := by
    refine fm_congr _ fun k hk => ?_
    have hk := List.mem_range.mp hk
    have a1 : (((xs.size : Int) - 1) + (k : Int) * (-1)).toNat = xs.size - 1 - k := by omega
    have a2 : (((0 : Nat) : Int) + (k : Int) * 1).toNat = k := by omega
    rw [a1, a2, show xs.toList.reverse.toArray[k]? = xs.toList.reverse[k]? from by simp, List.getElem?_reverse (by simpa using hk), Array.length_toList, Array.getElem?_toList]
  rw [e, h]
theorem getItem_tuple_rev {t sl : Addr} {items : Array Value} {vl vu vs : Value} {Q : Value → Shared → Prop} (ht : IsTup s.heap t items) (hs : s.heap.IsSliceOf sl vl vu vs) (pl : IsPart vl none) (pu : IsPart vu none) (ps : IsPart vs (some (-1)))
    (h : Q (.ref s.heap.objs.size) { s with heap := s.heap.push { cls := .type "tuple", data := .seq items.toList.reverse.toArray } })
    (hsz : items.size ≤ sizeLine) : wpAny (model prog w) A (getItem (.ref t) (.ref sl)) Q E s := by
  have htake : sizeOk (.seq items.toList.reverse.toArray) := by
    show items.toList.reverse.toArray.size ≤ sizeLine
    simpa using hsz
  obtain ⟨os, hos, hcs, hds⟩ := id hs
  have hTs : s.TypeIs (.ref sl) "slice" := ⟨os, hos, hcs⟩
  unfold getItem
  try with_reducible refine wpAny_holding ?_
  first | refine wpAny_bind (wpAny_pure ?_) | skip
  refine wpAny_bind (wpAny_sequenceKey ht.typeIs (by decide) ?_)
  refine wpAny_bind (wpAny_callSpecial?_slot (name := Str.ofString "__getitem__") ht.typeIs PyProof.Rows.slot_tuple_getitem
    (wpAny_call_entry PyProof.Rows.slot_tuple_getitem ht.typeIs entry_tuple_getitem ?_ (args_tuple_getitem _ _)))
  show wpAny _ _ (Builtin.Tuple.tupleItemsOf (.ref t) >>= _) _ _ s
  refine wpAny_bind (tupleItemsOf_ ht ?_)
  refine wpAny_bind (wpAny_typeOf hTs ?_)
  rw [if_pos (by decide)]
  refine wpAny_bind (sliceApplied_rev hs pl pu ps ?_)
  have hno : ¬ ((((items.size : Int) - 1) == 0 && (-1 : Int) == 1 && items.size == items.size) = true) := by simp
  show wpAny _ _ (if (((items.size : Int) - 1) == 0 && (-1 : Int) == 1 && items.size == items.size) = true then _ else _) _ _ s
  rw [if_neg hno, pick_rev]
  first
    | exact wpAny_bind (m := Builtin.Tuple.tupleExact _) (wpAny_newObj_type (wpAny_pure ⟨_, rfl, wpAny_pure h⟩) htake)
    | exact wpAny_bind (m := Builtin.Tuple.tupleExact _) (wpAny_newObj_type (wpAny_bind (wpAny_pure (wpAny_pure ⟨_, rfl, wpAny_pure h⟩))) htake)
    | exact wpAny_bind (wpAny_bind (m := Builtin.Tuple.tupleExact _) (wpAny_newObj_type (wpAny_pure (wpAny_pure ⟨_, rfl, wpAny_pure h⟩)) htake))
    | exact wpAny_bind (wpAny_bind (m := Builtin.Tuple.tupleExact _) (wpAny_newObj_type (wpAny_pure ⟨_, rfl, wpAny_pure h⟩) htake))
end
def tRevA (K : PySem.W.Frag) (te : TE) : TE := fun σ H Q => te σ H fun x H1 => ∃ a xs, x = .ref a ∧ ((SqT K H1 a xs ∧ ∀ p, H1 p = none → Q (.ref p) (upd H1 p (.tup xs.reverse))) ∨ (SqL K H1 a xs ∧ ∀ p, H1 p = none → Q (.ref p) (upd H1 p (.lst xs.reverse))))
section
variable {X : Cx}
theorem pe_revA {e : Expr} {te : TE} {k : Nat} {p1 p2 p3 pos : Pos} (he : PE X e te) : PE X (.Subscript e (.Slice none none (some (.UnaryOp .USub (.Constant (.int 1) k p1) p2)) p3) pos) (tRevA X.K te) := by
  refine ⟨fun pins s σ H Q I h => ?_⟩
  refine Subscript_ (thn (he.run pins s σ H _ I h) fun v s1 ⟨x, H1, I1, r1, q1⟩ => ?_)
  obtain ⟨a, xs, ex, hx⟩ := q1
  subst ex
  cases r1
  have hst : PO X (some (.UnaryOp .USub (.Constant (.int 1) k p1) p2)) (tPart (tUn (rU fun i => .int (-i)) (tC (.int 1)))) := po_some (pe_un un_neg pe_int)
  refine wpAny_Slice (thn (po_none.run pins s1 σ H1 (fun o H2 => o = none ∧ H2 = H1) I1 ⟨rfl, rfl⟩) fun vl s2 ⟨l, H2, I2, pl, el, e2⟩ => ?_)
  subst el e2
  refine thn (po_none.run pins s2 σ H2 (fun o H3 => o = none ∧ H3 = H2) I2 ⟨rfl, rfl⟩) fun vu s3 ⟨u, H3, I3, pu, eu, e3⟩ => ?_
  subst eu e3
  refine thn (hst.run pins s3 σ H3 (fun o H4 => o = some (-1) ∧ H4 = H3) I3 ⟨1, rfl, -1, rfl, rfl, rfl⟩) fun vs s4 ⟨o, H4, I4, ps, eo, e4⟩ => ?_
  subst eo e4
  have I5 : Inv X pins σ H4 { s4 with heap := s4.heap.push { cls := .type "slice", data := .fields #[vl, vu, vs] } } := I4.kept (t' := s4.toks) fun b ob q => Heap.get?_push_of_some _ q
  show wpAny (model X.prog X.w) X.A (subscriptTail e (.Slice none none (some (.UnaryOp .USub (.Constant (.int 1) k p1) p2)) p3) (.ref a) (.ref s4.heap.objs.size)) (EP X pins σ Q) X.xe { s4 with heap := s4.heap.push { cls := .type "slice", data := .fields #[vl, vu, vs] } }
  rcases hx with ⟨hx, q⟩ | ⟨hx, q⟩
  · obtain ⟨its, r, ht, hz⟩ := I5.tuple hx
    have hlen := r.length
    refine tail_any (ops := [.ref a, .ref s4.heap.objs.size]) ht.typeIs (PyProof.Rows.slot_tuple_getitem.lookup) ?_ (by with_unfolding_all rfl)
    refine getItem_tuple_rev ht (Heap.IsSliceOf.new _ vl vu vs) pl pu ps ?_ (by rw [List.size_toArray]; omega)
    refine ⟨.ref _, _, I5.laid (t' := s4.toks) (o := .tup xs.reverse) (fun b ob q => Heap.get?_push_of_some _ q) (Nat.le_refl _) ?_, rfl, q _ (I5.hok.fresh (Nat.le_refl _))⟩
    exact ⟨by rw [List.length_reverse]; exact hz, _, r.reverse, IsTup.new _ _⟩
  · obtain ⟨its, r, ht, hz⟩ := I5.list hx
    have hlen := r.length
    refine tail_any (ops := [.ref a, .ref s4.heap.objs.size]) ht.isList.typeIs (PySem.slot_list_getitem.lookup) ?_ (by with_unfolding_all rfl)
    refine wpAny_getItem_list_slice ht.isList (Heap.IsSliceOf.new _ vl vu vs) pl pu ps (by decide) ?_ (by rw [List.size_toArray]; omega)
    rw [PySem.W.krv_pick]
    refine ⟨.ref _, _, I5.laid (t' := s4.toks) (o := .lst xs.reverse) (fun b ob q => Heap.get?_push_of_some _ q) (Nat.le_refl _) ?_, rfl, q _ (I5.hok.fresh (Nat.le_refl _))⟩
    exact ⟨by rw [List.length_reverse]; exact hz, _, 0, r.reverse, Heap.get?_push_size _ rfl⟩
end
def eRevA (a : ME) : ME := fun s h => (a s h).bind fun x h1 => match seqT x with
  | some xs => .ok (.tup xs.reverse) h1
  | none => match seqL h1 x with
    | some xs => .ok (.lst xs.reverse) h1
    | none => .st
theorem repL_rev {w : Wd} {c : Cf} : ∀ {xs : List D} {vs : List V}, RepL w c xs vs → RepL w c xs.reverse vs.reverse
  | [], vs, r => by
    obtain rfl : vs = [] := by simpa [RepL] using r
    simp [RepL]
  | d :: xs, vs, r => by
    simp only [RepL] at r
    obtain ⟨x, ys, rfl, r1, r2⟩ := r
    rw [List.reverse_cons, List.reverse_cons]
    exact (repL_rev r2).append (by simp only [RepL]; exact ⟨x, [], rfl, r1, rfl⟩)
section
variable {X : Cx} {T : Nat → Addr} {W : WX} {e : Expr} {ma : ME} {k : Nat} {p1 p2 p3 pos : Pos}
theorem r_revA (he : PE X e (tM (Wd.mk X.K T) W ma)) : PE X (.Subscript e (.Slice none none (some (.UnaryOp .USub (.Constant (.int 1) k p1) p2)) p3) pos) (tM (Wd.mk X.K T) W (eRevA ma)) :=
  PEi (pe_revA he) fun σ H Q z => by
    obtain ⟨c, s, h, R, S, o⟩ := z
    refine ⟨c, s, h, R, S, (Out.bind (A := Rep (Wd.mk X.K T)) o).mono ?_⟩
    rintro v H1 ⟨c1, h1, d, R1, E1, r1, o1⟩
    split at o1
    · rename_i xs q
      obtain ⟨a, vs, rfl, t, rl⟩ := seqT_ok R1 r1 q
      exact ⟨a, vs, rfl, .inl ⟨t, fun p hp => Gives.tup (h := h1) o1 R1 (repL_rev rl) p hp⟩⟩
    · split at o1
      · rename_i xs q
        obtain ⟨a, vs, rfl, t, rl⟩ := seqL_ok R1 r1 q
        exact ⟨a, vs, rfl, .inr ⟨t, fun p hp => Gives.lst (h := h1) o1 R1 (repL_rev rl) p hp⟩⟩
      · exact o1.elim
end
end MP
set_option Elab.async false
set_option linter.all false
set_option maxRecDepth 100000
set_option maxHeartbeats 4000000
/-! mirrors: more of lists and texts -/
namespace MP
open PySem PySem.Spec L2
open PyProof.Rows hiding St
/-! ### min, max of a list of numbers -/
def minI : List Int → Int
  | [] => 0
  | [a] => a
  | a :: l => if minI l < a then minI l else a
def maxI : List Int → Int
  | [] => 0
  | [a] => a
  | a :: l => if maxI l > a then maxI l else a
theorem minI_is : ∀ {l : List Int}, l ≠ [] → minI l ∈ l ∧ ∀ y ∈ l, minI l ≤ y
  | [], h => absurd rfl h
  | [a], _ => by simp [minI]
  | a :: b :: l, _ => by
    obtain ⟨h1, h2⟩ := minI_is (l := b :: l) (by simp)
    have e : minI (a :: b :: l) = if minI (b :: l) < a then minI (b :: l) else a := rfl
    rw [e]
    split
    · rename_i hl
      exact ⟨List.mem_cons_of_mem _ h1, fun y hy => (List.mem_cons.mp hy).elim (fun z => by omega) (h2 y)⟩
    · rename_i hl
      exact ⟨List.mem_cons_self, fun y hy => (List.mem_cons.mp hy).elim (fun z => by omega) (fun z => by have := h2 y z; omega)⟩
theorem maxI_is : ∀ {l : List Int}, l ≠ [] → maxI l ∈ l ∧ ∀ y ∈ l, y ≤ maxI l
  | [], h => absurd rfl h
  | [a], _ => by simp [maxI]
  | a :: b :: l, _ => by
    obtain ⟨h1, h2⟩ := maxI_is (l := b :: l) (by simp)
    have e : maxI (a :: b :: l) = if maxI (b :: l) > a then maxI (b :: l) else a := rfl
    rw [e]
    split
    · rename_i hl
      exact ⟨List.mem_cons_of_mem _ h1, fun y hy => (List.mem_cons.mp hy).elim (fun z => by omega) (h2 y)⟩
    · rename_i hl
      exact ⟨List.mem_cons_self, fun y hy => (List.mem_cons.mp hy).elim (fun z => by omega) (fun z => by have := h2 y z; omega)⟩
def fMinL (h : AH) : List D → Option D
  | [x] => match seqL h x with
    | some xs => (match intsL xs with
      | some ns => if ns ≠ [] then some (.int (minI ns)) else none
      | none => none)
    | none => none
  | _ => none
def fMaxL (h : AH) : List D → Option D
  | [x] => match seqL h x with
    | some xs => (match intsL xs with
      | some ns => if ns ≠ [] then some (.int (maxI ns)) else none
      | none => none)
    | none => none
  | _ => none
section
variable {w : Wd}
theorem n_minL : OpN w (rMin w.K) fMinL := by
  intro c h H xs z vs Q R r e G
  unfold fMinL at e
  split at e
  · obtain ⟨v, rfl, rv⟩ := rpl1 r
    split at e
    · rename_i ys q
      split at e
      · rename_i ns q2
        split at e
        · rename_i hne
          cases e
          obtain ⟨a, us, rfl, t, rl⟩ := seqL_ok R rv q
          refine ⟨a, ns, rfl, by rw [← intsL_ok rl q2]; exact t, List.length_pos_iff.mpr hne, fun m h1 h2 => ?_⟩
          have hm : m = minI ns := by
            have := minI_is hne
            have a1 := this.2 m h1
            have a2 := h2 _ this.1
            omega
          rw [hm]
          exact G.int R
        · cases e
      · cases e
    · cases e
  · cases e
theorem n_maxL : OpN w (rMax w.K) fMaxL := by
  intro c h H xs z vs Q R r e G
  unfold fMaxL at e
  split at e
  · obtain ⟨v, rfl, rv⟩ := rpl1 r
    split at e
    · rename_i ys q
      split at e
      · rename_i ns q2
        split at e
        · rename_i hne
          cases e
          obtain ⟨a, us, rfl, t, rl⟩ := seqL_ok R rv q
          refine ⟨a, ns, rfl, by rw [← intsL_ok rl q2]; exact t, List.length_pos_iff.mpr hne, fun m h1 h2 => ?_⟩
          have hm : m = maxI ns := by
            have := maxI_is hne
            have a1 := this.2 m h1
            have a2 := h2 _ this.1
            omega
          rw [hm]
          exact G.int R
        · cases e
      · cases e
    · cases e
  · cases e
end
/-! ### methods of lists -/
def mExtend : PM := fun h x xs => match x, xs with
  | .ref k, [y] => match h.g k, seqM h y with
    | some (.lst ds), some es => if ds.length + es.length ≤ 100000 then some (.non, h.put k (.lst (ds ++ es))) else none
    | _, _ => none
  | _, _ => none
theorem m_extend {w : Wd} : OpM w rExtend mExtend := by
  intro c h H x xs z h' v vs Q R rx rs e q
  unfold mExtend at e
  split at e
  · rename_i k y
    split at e
    · rename_i ds es e1 e3
      split at e
      · rename_i hl
        cases e
        obtain ⟨u, rfl, ru⟩ := rpl1 rs
        simp only [Rep] at rx
        obtain ⟨rfl, hk⟩ := rx
        obtain ⟨o, e2, us, rfl, rl⟩ := R.at_ _ _ e1
        obtain ⟨b, zs, rfl, hb, rz⟩ := seqM_ok R ru e3
        obtain ⟨R', E'⟩ := R.put e1 e2 (o' := .lst (ds ++ es)) (u' := .lst (us ++ zs)) ⟨_, rfl, rl.append rz⟩
        exact ⟨_, b, us, zs, rfl, rfl, R.sub _ _ e2, hb, by rw [← rl.len, ← rz.len]; exact size5 hl, q _ _ _ R' E' (by simp [Rep])⟩
      · cases e
    · cases e
  · cases e
def mReverse : PM := fun h x xs => match x, xs with
  | .ref k, [] => match h.g k with
    | some (.lst ds) => some (.non, h.put k (.lst ds.reverse))
    | _ => none
  | _, _ => none
theorem m_reverse {w : Wd} : OpM w rReverse mReverse := by
  intro c h H x xs z h' v vs Q R rx rs e q
  unfold mReverse at e
  split at e
  · rename_i k
    split at e
    · rename_i ds e1
      cases e
      obtain rfl : vs = [] := by simpa [RepL] using rs
      simp only [Rep] at rx
      obtain ⟨rfl, hk⟩ := rx
      obtain ⟨o, e2, us, rfl, rl⟩ := R.at_ _ _ e1
      obtain ⟨R', E'⟩ := R.put e1 e2 (o' := .lst ds.reverse) (u' := .lst us.reverse) ⟨_, rfl, repL_rev rl⟩
      exact ⟨_, us, rfl, rfl, R.sub _ _ e2, q _ _ _ R' E' (by simp [Rep])⟩
    · cases e
  · cases e
def mClear : PM := fun h x xs => match x, xs with
  | .ref k, [] => match h.g k with
    | some (.lst ds) => some (.non, h.put k (.lst []))
    | _ => none
  | _, _ => none
theorem m_clear {w : Wd} : OpM w rClear mClear := by
  intro c h H x xs z h' v vs Q R rx rs e q
  unfold mClear at e
  split at e
  · rename_i k
    split at e
    · rename_i ds e1
      cases e
      obtain rfl : vs = [] := by simpa [RepL] using rs
      simp only [Rep] at rx
      obtain ⟨rfl, hk⟩ := rx
      obtain ⟨o, e2, us, rfl, rl⟩ := R.at_ _ _ e1
      obtain ⟨R', E'⟩ := R.put e1 e2 (o' := .lst []) (u' := .lst []) ⟨_, rfl, .nil⟩
      exact ⟨_, us, rfl, rfl, R.sub _ _ e2, q _ _ _ R' E' (by simp [Rep])⟩
    · cases e
  · cases e
/-! ### methods of texts -/
theorem repL_strs {w : Wd} {c : Cf} : ∀ ys : List Str, RepL w c (ys.map .str) (ys.map V.str)
  | [] => by simp [RepL]
  | n :: ns => ⟨_, _, rfl, by simp [Rep], repL_strs ns⟩
abbrev rSplit : V → List V → Hp → VK → Prop := fun x xs H Q => ∃ a b, x = .str a ∧ xs = [.str b] ∧ (b.length == 0) = false ∧ a.length + 2 ≤ sizeLine ∧ rNewStrs (Txt.split a b) H Q
def mSplit : PM := fun h x xs => match x, xs with
  | .str a, [.str b] => if (b.length == 0) = false ∧ a.length + 2 ≤ 100000 then some (.lst ((Txt.split a b).map .str), h) else none
  | _, _ => none
theorem m_split {w : Wd} : OpM w rSplit mSplit := by
  intro c h H x xs z h' v vs Q R rx rs e q
  unfold mSplit at e
  split at e
  · rename_i a b
    split at e
    · rename_i hc
      cases e
      obtain ⟨u, rfl, ru⟩ := rpl1 rs
      rw [rp_str rx, rp_str ru]
      exact ⟨a, b, rfl, rfl, hc.1, size5 hc.2, fun p hp => Gives.lst (h := h) (fun c' v' H' R' E' r' => q c' v' H' R' E' r') R (repL_strs _) p hp⟩
    · cases e
  · cases e
abbrev rPart : V → List V → Hp → VK → Prop := fun x xs H Q => ∃ a b, x = .str a ∧ xs = [.str b] ∧ (b.length == 0) = false ∧ a.length ≤ sizeLine ∧
    ∀ p, H p = none → Q (.ref p) (upd H p (.tup [.str (Txt.partition a b).1, .str (Txt.partition a b).2.1, .str (Txt.partition a b).2.2]))
def mPart : PM := fun h x xs => match x, xs with
  | .str a, [.str b] => if (b.length == 0) = false ∧ a.length ≤ 100000 then some (.tup [.str (Txt.partition a b).1, .str (Txt.partition a b).2.1, .str (Txt.partition a b).2.2], h) else none
  | _, _ => none
theorem m_part {w : Wd} : OpM w rPart mPart := by
  intro c h H x xs z h' v vs Q R rx rs e q
  unfold mPart at e
  split at e
  · rename_i a b
    split at e
    · rename_i hc
      cases e
      obtain ⟨u, rfl, ru⟩ := rpl1 rs
      rw [rp_str rx, rp_str ru]
      refine ⟨a, b, rfl, rfl, hc.1, size5 hc.2, fun p hp => Gives.tup (h := h) (fun c' v' H' R' E' r' => q c' v' H' R' E' r') R ?_ p hp⟩
      exact repL_strs [_, _, _]
    · cases e
  · cases e
end MP
set_option Elab.async false
set_option linter.all false
set_option maxRecDepth 100000
set_option maxHeartbeats 4000000
/-! mirrors: != by an own __eq__ -/
namespace PySem.W
open PySem PySem.Spec PySem.Calls PyProof.Rows
section
variable {prog : Program} {w : World} {A : Around} {E : Value → Shared → Prop} {s : Shared} {K : Frag} {x C f : Addr} {ox : Obj} {od : Option Obj}
theorem ifBound_ne {args : List Value} {M : Model} {Q : Option Value → Shared → Prop} (X : K.In s.heap) (I : InstAt s.heap x ox C od) (hs : findIn K (.ref C) "__ne__" = some (some (.builtin "object.__ne__")))
    (h : wpAny M A (call (.builtin "object.__ne__") (.ref x :: args)) (fun v => Q (some v)) E s) : wpAny M A (callSpecialIfBound? (.ref x) "__ne__" args) Q E s := by
  simp only [callSpecialIfBound?, bindSpecialIfBound?]
  refine wpAny_holding (wpAny_bind (wpAny_bind (wpAny_bind (I.type.here ((looks_findIn X hs).here ?_)))))
  simp only [PySem.F.cmp_object.ne.bind]
  refine wpAny_bind (wpAny_askSetting (wpAny_ite ?_))
  have fin : wpAny M A (call (.builtin "object.__ne__") ([.ref x] ++ args) >>= fun v => pure (some v)) Q E s := wpAny_bind (wpAny_mono h (fun v s' h' => wpAny_pure h') fun _ _ h' => h')
  split
  · exact wpAny_bind (wpAny_pure (wpAny_pure (by exact fin)))
  · exact wpAny_tryCatch (wpAny_bind (wpAny_pure (wpAny_pure (by exact fin))))
theorem ne_K {L : Addr} {h₀ : Heap} {m : Str → Option Value} {b tb : Value} {Q : Value → Shared → Prop} (hu : A.units < cLine) (hu1 : A.in1.units < cLine) (F : Fr h₀ L s.heap m) (X₀ : K.In h₀) (I : InstAt s.heap x ox C od) (hb : Looks (model prog w) s.heap (typeOf b) tb) (hn : notFirst K C tb = true)
    (hne : findIn K (.ref C) "__ne__" = some (some (.builtin "object.__ne__"))) (hm : mroIn K C (.type "object") = some true) (hs : findIn K (.ref C) "__eq__" = some (some (.ref f))) (hf : isFn K (.ref f) = true)
    (h : wpAny (model prog w) A.in1 (call (.ref f) [.ref x, b]) (fun v s' => ∃ r, v = .bool r ∧ Q (.bool (!r)) s') E s) : wpAny (model prog w) A (richCompare .NotEq (.ref x) b) Q E s := by
  have X := X₀.keeps F.keep
  have one : wpAny (model prog w) A (tryCompare (.ref x) (cmpInfo .NotEq).2.1 b) (fun r s' => ∃ v, r = some v ∧ Q v s') E s := by
    unfold tryCompare
    refine wpAny_bind (ifBound_ne X I hne ?_)
    refine wpAny_call (codeAny_call_builtin PySem.F.cmp_object.ne.plain PySem.F.cmpEntry_ne (check_slot (i := "object.__ne__") (owner := "object") (n := "__ne__") (by decide +kernel) (by decide +kernel) (I.type.andThen (looks_mroIn X hm)) (PySem.F.cmpArgs_ne _ _) ?_))
    unfold Builtin.«object.__ne__»
    refine wpAny_bind (m := slotArgs "__ne__" 1 _) (wpAny_pure ?_)
    refine wpAny_bind (m := cRoomFor _ _) (wpAny_cRoomFor hu1 ?_)
    refine wpAny_bind (m := callSpecialIfBound? (.ref x) (Str.ofString "__eq__") _) (ifBound_K X I hs hf (wpAny_mono h (fun v s' hq => ?_) fun _ _ e => e))
    obtain ⟨r, rfl, hq⟩ := hq
    refine wpAny_bind (m := truthy (.bool r)) (wpAny_truthy_bool ?_)
    first
      | exact wpAny_pure ⟨_, rfl, wpAny_pure ⟨_, rfl, hq⟩⟩
      | exact wpAny_pure ⟨_, rfl, wpAny_pure (wpAny_pure ⟨_, rfl, hq⟩)⟩
      | exact wpAny_pure (wpAny_pure ⟨_, rfl, hq⟩)
      | exact wpAny_pure ⟨_, rfl, fun Γ p hp => wpAny_pure ⟨_, rfl, hq⟩ Γ p hp⟩
  unfold richCompare
  simp only [oneThing_ref]
  refine wpAny_holding (wpAny_bind (wpAny_cRoomFor hu ?_))
  refine wpAny_bind (I.type.here (wpAny_bind (hb.here ?_)))
  split
  · rename_i q
    have e : subIn K tb (.ref C) = some false := by
      rcases Bool.or_eq_true_iff.mp hn with e | e
      · rw [beq_iff_eq.mp e] at q; simp at q
      · exact beq_iff_eq.mp e
    refine wpAny_bind ((looks_subIn X e).here ?_)
    simp only [Bool.false_eq_true, if_false]
    refine wpAny_bind (wpAny_mono one (fun r s' z => ?_) fun _ _ e => e)
    obtain ⟨v, rfl, hq⟩ := z
    exact wpAny_pure hq
  · refine wpAny_bind (wpAny_pure ?_)
    simp only [Bool.false_eq_true, if_false]
    refine wpAny_bind (wpAny_mono one (fun r s' z => ?_) fun _ _ e => e)
    obtain ⟨v, rfl, hq⟩ := z
    exact wpAny_pure hq
end
end PySem.W

namespace MP
open PySem PySem.Spec L2
open PyProof.Rows hiding St
def neB (K : PySem.W.Frag) (C : Addr) : Bool := subB K C && (decide (PySem.W.findIn K (.ref C) "__ne__" = some (some (.builtin "object.__ne__"))) && decide (PySem.W.mroIn K C (.type "object") = some true))
theorem nbB {K : PySem.W.Frag} {f : PySem.W.Frag → Addr} (h : (XFa.any fun K => neB K (f K)).ok K = true) : neB K (f K) = true := h
/-- a != b, two instances of the class cl -/
def eOwnN (cl : Nat) (f : MF) (l : List (Src × Nat)) (a b : ME) : ME := fun s h => (a s h).bind fun x h1 => (b s h1).bind fun y h2 => match insOf h2 x, insOf h2 y with
  | some (_, c, _), some (_, c2, _) => if c = cl ∧ c2 = cl then match f (gSel l [x, y] [] [] []) h2 with
    | .ok (.bl r) h3 => .ok (.bl (!r)) h3
    | _ => .st
    else .st
  | _, _ => .st
/-- a != b, b data -/
def eOwnND (cl : Nat) (f : MF) (l : List (Src × Nat)) (a b : ME) : ME := fun s h => (a s h).bind fun x h1 => (b s h1).bind fun y h2 => match insOf h2 x, tyName h2 y with
  | some (_, c, _), some _ => if c = cl then match f (gSel l [x, y] [] [] []) h2 with
    | .ok (.bl r) h3 => .ok (.bl (!r)) h3
    | _ => .st
    else .st
  | _, _ => .st
def rOwnN (w : Wd) (cl : Nat) (f : MF) (l : List (Src × Nat)) : R2 := fun x y H Q => ∃ a dx fs, x = .ref a ∧ H a = some (.ins (w.T cl) dx fs) ∧ ((∃ b dy gs, y = .ref b ∧ H b = some (.ins (w.T cl) dy gs)) ∨ ∃ t, TyX w.K H y (.type t) ∧ t ∈ tyNames) ∧
  spM w f (gSel l [.ref a, y] [] [] []) H (fun v H' => ∃ r, v = .bl r ∧ Q (.bl (!r)) H') fun _ _ _ => False
section
variable {X : Cx} {T : Nat → Addr} {W : WX} {a b : Expr} {ma mb : ME} {mf : MF} {pos : Pos} {k : Nat} {f : Addr} {fd : FuncData} {ps : List Str} {l : List (Src × Nat)}
theorem op_ownN {cl : Nat} (me : Meth X.K (T cl) "__eq__" f) (nb : neB X.K (T cl) = true) (F : Fn X.prog X.w X.K T X.mg X.base k f fd ps mf) (hr : Rm (k + 1) X.A) (hb : Bd X.K fd ps 2 [] l [] []) :
    OpR X (compareOp .NotEq) (rOwnN (Wd.mk X.K T) cl mf l) := by
  intro pins s σ H x y v u Q I rx ry hq
  obtain ⟨a, dx, fs, rfl, ha, ty, hsp⟩ := hq
  cases rx
  obtain ⟨mA, J, _⟩ := ins_get I.hok ha
  obtain ⟨od, J, _⟩ := J.look
  obtain ⟨m, hF⟩ := I.fr
  simp only [neB, Bool.and_eq_true, decide_eq_true_eq] at nb
  obtain ⟨sb, n1, n2⟩ := nb
  show wpAny (model X.prog X.w) X.A (richCompare .NotEq (.ref a) u) (EP X pins σ Q) X.xe s
  have main : ∀ tb, PySem.W.Looks (model X.prog X.w) s.heap (typeOf u) tb → PySem.W.notFirst X.K (T cl) tb = true → wpAny (model X.prog X.w) X.A (richCompare .NotEq (.ref a) u) (EP X pins σ Q) X.xe s := by
    intro tb lk hn
    refine PySem.W.ne_K hr.r.units0 (hr.r.in1).units0 hF I.ok.mod.kin J lk hn n1 n2 me.at_ me.fn ?_
    obtain ⟨its, mw, v1, v2, B⟩ := hb.to
    have B2 := B s [.ref a, u] [] I.kIn rfl rfl
    cases v1
    cases v2
    refine wpAny_mono (run_mA (A := X.A.in1) (us := gSel l [Value.ref a, u] [] [] []) (vs := gSel l [V.ref a, y] [] [] []) (args := ⟨[.ref a, u], []⟩) F ⟨hr.r.in1, hr.g⟩ I.env0.in1 B2 I (gSel_vals (a := [V.ref a, y]) (b := [Value.ref a, u]) (.cons rfl (.cons ry .nil)) .nil .nil .nil l) hsp) (fun r s' z => ?_) fun _ _ e => e
    obtain ⟨v, H', I', rv, r', rfl, q⟩ := z
    cases rv
    exact ⟨r', rfl, .bl (!r'), H', I', rfl, q⟩
  rcases ty with ⟨b, dy, gs, rfl, hb'⟩ | ⟨t, ty, ht⟩
  · cases ry
    obtain ⟨mB, J', _⟩ := ins_get I.hok hb'
    obtain ⟨od', J', _⟩ := J'.look
    exact main (.ref (T cl)) J'.type (by simp [PySem.W.notFirst])
  · obtain ⟨P, kx, hP, _⟩ := kit_of I ry ty
    exact main (.type t) (kx.ty _ _ I.kIn hP) (by
      have := List.all_eq_true.mp sb t ht
      simp only [PySem.W.notFirst, this, Bool.or_true])
theorem ownN_k {cl : Nat} {c2 : Cf} {h2 : AH} {H2 : Hp} {x y : D} {v u : V} {Q : VK} {E : XK} (R2 : Rel (Wd.mk X.K T) c2 h2 H2) (r1 : Rep (Wd.mk X.K T) c2 x v) (r2 : Rep (Wd.mk X.K T) c2 y u)
    (o : Out (Wd.mk X.K T) c2 H2 E (Rep (Wd.mk X.K T)) Q (match insOf h2 x, insOf h2 y with
      | some (_, c, _), some (_, c2, _) => if c = cl ∧ c2 = cl then match mf (gSel l [x, y] [] [] []) h2 with
        | .ok (.bl r) h3 => .ok (.bl (!r)) h3
        | _ => .st
        else .st
      | _, _ => .st)) : rOwnN (Wd.mk X.K T) cl mf l v u H2 Q := by
  split at o
  · rename_i k1 c1 f1 k2 c2' f2 e1 e2
    split at o
    · rename_i hc
      obtain ⟨rfl, rfl⟩ := hc
      obtain ⟨_, dx, vs, rfl, _, g1, _⟩ := insAt R2 r1 e1
      obtain ⟨_, dy, us, rfl, _, g2, _⟩ := insAt R2 r2 e2
      refine ⟨_, dx, vs, rfl, g1, .inl ⟨_, dy, us, rfl, g2⟩, c2, _, h2, R2, gSel_rep (.cons r1 (.cons r2 .nil)) .nil .nil .nil l, ?_⟩
      split at o
      · rename_i r h3 q
        rw [q]
        intro c3 v3 H3 R3 E3 r3
        simp only [Rep] at r3
        subst r3
        exact ⟨r, rfl, o c3 _ H3 R3 E3 (by simp [Rep])⟩
      · exact o.elim
    · exact o.elim
  · exact o.elim
theorem ownND_k {cl : Nat} {c2 : Cf} {h2 : AH} {H2 : Hp} {x y : D} {v u : V} {Q : VK} {E : XK} (R2 : Rel (Wd.mk X.K T) c2 h2 H2) (r1 : Rep (Wd.mk X.K T) c2 x v) (r2 : Rep (Wd.mk X.K T) c2 y u)
    (o : Out (Wd.mk X.K T) c2 H2 E (Rep (Wd.mk X.K T)) Q (match insOf h2 x, tyName h2 y with
      | some (_, c, _), some _ => if c = cl then match mf (gSel l [x, y] [] [] []) h2 with
        | .ok (.bl r) h3 => .ok (.bl (!r)) h3
        | _ => .st
        else .st
      | _, _ => .st)) : rOwnN (Wd.mk X.K T) cl mf l v u H2 Q := by
  split at o
  · rename_i k1 c1 f1 t1 e1 e2
    split at o
    · rename_i hc
      subst hc
      obtain ⟨_, dx, vs, rfl, _, g1, _⟩ := insAt R2 r1 e1
      obtain ⟨ty, hm⟩ := ty_ok R2 r2 e2
      refine ⟨_, dx, vs, rfl, g1, .inr ⟨_, ty, hm⟩, c2, _, h2, R2, gSel_rep (.cons r1 (.cons r2 .nil)) .nil .nil .nil l, ?_⟩
      split at o
      · rename_i r h3 q
        rw [q]
        intro c3 v3 H3 R3 E3 r3
        simp only [Rep] at r3
        subst r3
        exact ⟨r, rfl, o c3 _ H3 R3 E3 (by simp [Rep])⟩
      · exact o.elim
    · exact o.elim
  · exact o.elim
theorem r_ownN {cl : Nat} (me : Meth X.K (T cl) "__eq__" f) (nb : neB X.K (T cl) = true) (F : Fn X.prog X.w X.K T X.mg X.base k f fd ps mf) (hr : Rm (k + 1) X.A) (hbd : Bd X.K fd ps 2 [] l [] [])
    (ha : PE X a (tM (Wd.mk X.K T) W ma)) (hb : PE X b (tM (Wd.mk X.K T) W mb)) (hm : behindInMarks .NotEq b = false := by rfl) : PE X (.Compare a [.NotEq] [b] pos) (tM (Wd.mk X.K T) W (eOwnN cl mf l ma mb)) :=
  PEi (pe_cmpR (op_ownN me nb F hr hbd) ha hb hm) fun σ H Q z => two z fun c2 s h2 H2 x y v u R2 S2 r1 r2 o => ownN_k R2 r1 r2 o
theorem r_ownND {cl : Nat} (me : Meth X.K (T cl) "__eq__" f) (nb : neB X.K (T cl) = true) (F : Fn X.prog X.w X.K T X.mg X.base k f fd ps mf) (hr : Rm (k + 1) X.A) (hbd : Bd X.K fd ps 2 [] l [] [])
    (ha : PE X a (tM (Wd.mk X.K T) W ma)) (hb : PE X b (tM (Wd.mk X.K T) W mb)) (hm : behindInMarks .NotEq b = false := by rfl) : PE X (.Compare a [.NotEq] [b] pos) (tM (Wd.mk X.K T) W (eOwnND cl mf l ma mb)) :=
  PEi (pe_cmpR (op_ownN me nb F hr hbd) ha hb hm) fun σ H Q z => two z fun c2 s h2 H2 x y v u R2 S2 r1 r2 o => ownND_k R2 r1 r2 o
theorem outB {w : Wd} {c : Cf} {H : Hp} {E : XK} {Q : Bool → Hp → Prop} {r : Res D} (o : Out w c H E (fun _ a b => a = b) Q (r.bind fun d h1 => match d with | .bl b => .ok b h1 | _ => .st)) : Out w c H E (Rep w) (fun v H' => ∃ b, v = .bl b ∧ Q b H') r := by
  cases r with
  | ok d h =>
    simp only [Res.bind] at o
    cases d with
    | bl b =>
      intro c' v H' R' E' rv
      simp only [Rep] at rv
      exact ⟨b, rv, o c' b H' R' E' rfl⟩
    | _ => exact o.elim
  | ex e h => exact o
  | st => exact o
theorem t_ownN {cl : Nat} (me : Meth X.K (T cl) "__eq__" f) (nb : neB X.K (T cl) = true) (F : Fn X.prog X.w X.K T X.mg X.base k f fd ps mf) (hr : Rm (k + 1) X.A) (hbd : Bd X.K fd ps 2 [] l [] [])
    (ha : PE X a (tM (Wd.mk X.K T) W ma)) (hb : PE X b (tM (Wd.mk X.K T) W mb)) (hm : behindInMarks .NotEq b = false := by rfl) : PT X (.Compare a [.NotEq] [b] pos) (tT (Wd.mk X.K T) W (tstB (eOwnN cl mf l ma mb))) :=
  PTi (pt_cmpR (op_ownN me nb F hr hbd) ha hb hm) fun σ H Q z => by
    obtain ⟨c, s, h, R, S, o⟩ := z
    exact two (W := W) ⟨c, s, h, R, S, outB o⟩ fun c2 s h2 H2 x y v u R2 S2 r1 r2 o => ownN_k R2 r1 r2 o
theorem t_ownND {cl : Nat} (me : Meth X.K (T cl) "__eq__" f) (nb : neB X.K (T cl) = true) (F : Fn X.prog X.w X.K T X.mg X.base k f fd ps mf) (hr : Rm (k + 1) X.A) (hbd : Bd X.K fd ps 2 [] l [] [])
    (ha : PE X a (tM (Wd.mk X.K T) W ma)) (hb : PE X b (tM (Wd.mk X.K T) W mb)) (hm : behindInMarks .NotEq b = false := by rfl) : PT X (.Compare a [.NotEq] [b] pos) (tT (Wd.mk X.K T) W (tstB (eOwnND cl mf l ma mb))) :=
  PTi (pt_cmpR (op_ownN me nb F hr hbd) ha hb hm) fun σ H Q z => by
    obtain ⟨c, s, h, R, S, o⟩ := z
    exact two (W := W) ⟨c, s, h, R, S, outB o⟩ fun c2 s h2 H2 x y v u R2 S2 r1 r2 o => ownND_k R2 r1 r2 o
end
end MP
set_option Elab.async false
set_option linter.all false
set_option maxRecDepth 100000
set_option maxHeartbeats 4000000
/-! mirrors: x is None, x is True -/
namespace MP
open PySem PySem.Spec L2
open PyProof.Rows hiding St
def pIsA (h : AH) (x y : D) : Option D := match x, y with
  | .bl a, .bl b => some (.bl (decide (a = b)))
  | _, _ => pIs h x y
abbrev rIsA : L2.R2 := fun x y H Q => (y = .non ∧ Q (.bl (decide (x = .non))) H) ∨ rIsB x y H Q
theorem o_isA {X : Cx} : OpR X (compareOp .Is) rIsA := op_isN.or op_isBl
theorem g_isA {w : Wd} : Op2 w rIsA pIsA := by
  intro c h H x y z v u Q R rx ry e G
  unfold pIsA at e
  split at e
  · cases e
    simp only [Rep] at rx ry
    subst rx ry
    exact .inr ⟨_, _, rfl, rfl, G.bl R⟩
  · exact .inl (g_is c h H x y z v u Q R rx ry e G)
end MP

set_option Elab.async false
set_option linter.all false
set_option maxRecDepth 100000
noncomputable section
namespace Pg
open PySem PySem.Spec L2 MP
open PyProof.Rows hiding St
/-- is_figures -/
def E_is_figures_1 : ME := eBin pInT (eVar 1) (eC (.str "0123456789"))
def b_is_figures : MS := sSeq (sIf (tOr (tstB (eBin pEq (eVar 0) (eC (.str "")))) (tNot (tst (eFn fAll (aCons (eComp [1] (iSeqT (eVar 0)) (.one 1) (tYesD) (E_is_figures_1)) (aNil)))))) (sRet (eC (.bl false))) (sNil)) (sRet (eOr (eBin pEq (eVar 0) (eC (.str "0"))) (eBin pNe (eBin pIx (eVar 0) (eC (.int 0))) (eC (.str "0")))))
def f_is_figures : MF := fnG 1 2 b_is_figures
end Pg
end
set_option Elab.async false
set_option linter.all false
set_option maxRecDepth 100000
noncomputable section
namespace Pg
open PySem PySem.Spec L2 MP
open PyProof.Rows hiding St
/-- is_whole -/
def b_is_whole : MS := sRet (eAnd (eIsi "int" (eVar 0)) (eNot (eIsi "bool" (eVar 0))))
def f_is_whole : MF := fnG 1 1 b_is_whole
/-- is_within -/
def b_is_within : MS := sRet (eAnd (eCall Pg.f_is_whole 1 0 [(.us, 0)] [] [] (aCons (eVar 0) (aNil)) (aNil)) (eChain pLe pLe (eVar 1) (eVar 0) (eVar 2)))
def f_is_within : MF := fnG 3 3 b_is_within
end Pg
end
set_option Elab.async false
set_option linter.all false
set_option maxRecDepth 100000
noncomputable section
namespace Pg
open PySem PySem.Spec L2 MP
open PyProof.Rows hiding St
/-- Pool.stretches -/
def b_Pool_stretches : MS := sRet (eFld [18] "kept" (eVar 0))
def f_Pool_stretches : MF := fnG 1 1 b_Pool_stretches
/-- left_of -/
def E_left_of_1 : ME := eVar 6
def Q_left_of_1 : MT := tstB (eBin pLe (eBin pIx (eVar 6) (eC (.int 0))) (eBin pIx (eVar 6) (eC (.int 1))))
def b_left_of : MS := sSeq (sAsg (eVar 0) (gSq 2 (gsCons (gNm 3) (gsCons (gNm 4) (gsNil))))) (sSeq (sSet 5 (eLst (aCons (eTup (aCons (eVar 3) (aCons (eFn fMin2 (aCons (eVar 4) (aCons (eBin pSub (eVar 1) (eC (.int 1))) (aNil)))) (aNil)))) (aCons (eTup (aCons (eFn fMax2 (aCons (eVar 3) (aCons (eBin pAdd (eVar 2) (eC (.int 1))) (aNil)))) (aCons (eVar 4) (aNil)))) (aNil))))) (sRet (eComp [6] (iSeqT (eVar 5)) (.one 6) (Q_left_of_1) (E_left_of_1))))
def f_left_of : MF := fnG 3 7 b_left_of
/-- fewest -/
def L_fewest_1 : MS := sIf (tAnd (tstB (eBin pNe (eVar 1) (eLst (aNil)))) (tstB (eBin pLe (eVar 2) (eBin pAdd (eBin pIx (eBin pIx (eVar 1) (eUn pNeg (eC (.int 1)))) (eC (.int 1))) (eC (.int 1)))))) (sAsg (eTup (aCons (eBin pIx (eBin pIx (eVar 1) (eUn pNeg (eC (.int 1)))) (eC (.int 0))) (aCons (eFn fMax2 (aCons (eBin pIx (eBin pIx (eVar 1) (eUn pNeg (eC (.int 1)))) (eC (.int 1))) (aCons (eVar 3) (aNil)))) (aNil)))) (gIx (eVar 1) (eUn pNeg (eC (.int 1))))) (sExp (eBm "list" mAppend (eVar 1) (aCons (eTup (aCons (eVar 2) (aCons (eVar 3) (aNil)))) (aNil))))
def b_fewest : MS := sSeq (sSet 1 (eLstN (aNil))) (sSeq (sFor (iSeqT (eFn fSortP (aCons (eVar 0) (aNil)))) (gSq 2 (gsCons (gNm 2) (gsCons (gNm 3) (gsNil)))) (L_fewest_1)) (sRet (eFn fTuple (aCons (eVar 1) (aNil)))))
def f_fewest : MF := fnG 1 4 b_fewest
/-- is_stretch -/
def E_is_stretch_1 : ME := eCall Pg.f_is_within 3 0 [(.us, 0), (.us, 1), (.us, 2)] [] [] (aCons (eVar 1) (aCons (eC (.int 0)) (aCons (eC (.int 999999)) (aNil)))) (aNil)
def b_is_stretch : MS := sSeq (sIf (tOr (tNot (tst (eIsi "tuple" (eVar 0)))) (tstB (eBin pNe (eFn fLen (aCons (eVar 0) (aNil))) (eC (.int 2))))) (sRet (eC (.bl false))) (sNil)) (sRet (eAnd (eFn fAll (aCons (eComp [1] (iSeqT (eVar 0)) (.one 1) (tYesD) (E_is_stretch_1)) (aNil))) (eBin pLe (eBin pIx (eVar 0) (eC (.int 0))) (eBin pIx (eVar 0) (eC (.int 1))))))
def f_is_stretch : MF := fnG 1 2 b_is_stretch
/-- look_stretches -/
def L_look_stretches_1 : MS := sIf (tNot (tst (eCall Pg.f_is_stretch 1 0 [(.us, 0)] [] [] (aCons (eVar 2) (aNil)) (aNil)))) (sRaise 0 ["at"] (aCons (eVar 1) (aNil))) (sNil)
def b_look_stretches : MS := sSeq (sIf (tOr (tNot (tst (eIsi "tuple" (eVar 0)))) (tstB (eBin pGt (eFn fLen (aCons (eVar 0) (aNil))) (eC (.int 20))))) (sRaise 0 ["at"] (aCons (eC .non) (aNil))) (sNil)) (sFor (iEnumA (aCons (eVar 0) (aNil))) (gSq 2 (gsCons (gNm 1) (gsCons (gNm 2) (gsNil)))) (L_look_stretches_1))
def f_look_stretches : MF := fnG 1 3 b_look_stretches
/-- Pool.__init__ -/
def b_Pool_init : MS := sSeq (sExp (eCall Pg.f_look_stretches 1 0 [(.us, 0)] [] [] (aCons (eVar 1) (aNil)) (aNil))) (sFld [18] "kept" (eVar 0) (eCall Pg.f_fewest 1 0 [(.us, 0)] [] [] (aCons (eVar 1) (aNil)) (aNil)))
def f_Pool_init : MF := fnG 2 2 b_Pool_init
/-- told_pool -/
def b_told_pool : MS := sSeq (sSet 1 (eMake0 18 Pg.f_Pool_init 0 0 [(.us, 0), (.its, 0)] [.tup []] [] (aNil) (aNil))) (sSeq (sFld [18] "kept" (eVar 1) (eCall Pg.f_fewest 1 0 [(.us, 0)] [] [] (aCons (eVar 0) (aNil)) (aNil))) (sRet (eVar 1)))
def f_told_pool : MF := fnG 1 2 b_told_pool
/-- Pool.without -/
def E_Pool_without_1 : ME := eVar 6
def I_Pool_without_1 : MI := iSeqT (eCall Pg.f_left_of 3 0 [(.us, 0), (.us, 1), (.us, 2)] [] [] (aCons (eVar 5) (aCons (eVar 3) (aCons (eVar 4) (aNil)))) (aNil))
def L_Pool_without_3 : MS := sSet 2 (eComp2 [5, 6] [6] (iSeqT (eVar 2)) (.one 5) (tYesD) (I_Pool_without_1) (.one 6) (tYesD) (E_Pool_without_1))
def b_Pool_without : MS := sSeq (sSet 2 (eFn fList (aCons (eFld [18] "kept" (eVar 0)) (aNil)))) (sSeq (sFor (iSeqT (eMeth 18 "stretches" Pg.f_Pool_stretches 0 0 [(.us, 0)] [] [] (eVar 1) (aNil) (aNil))) (gSq 2 (gsCons (gNm 3) (gsCons (gNm 4) (gsNil)))) (L_Pool_without_3)) (sRet (eCall Pg.f_told_pool 1 0 [(.us, 0)] [] [] (aCons (eVar 2) (aNil)) (aNil))))
def f_Pool_without : MF := fnG 2 7 b_Pool_without
/-- Pool.dealt -/
def E_Pool_dealt_1 : ME := eVar 9
def I_Pool_dealt_1 : MI := iRng2 (eVar 7) (eBin pAdd (eVar 8) (eC (.int 1)))
def E_Pool_dealt_2 : ME := eVar 9
def Q_Pool_dealt_2 : MT := tstB (eBin pGt (eBin pDiv (eBin pMulA (eBin pAdd (eVar 10) (eC (.int 1))) (eVar 1)) (eVar 4)) (eBin pDiv (eBin pMulA (eVar 10) (eVar 1)) (eVar 4)))
def E_Pool_dealt_3 : ME := eTup (aCons (eVar 9) (aCons (eVar 9) (aNil)))
def R_Pool_dealt_1_4 : MS := sSeq (sSet 6 (eCall Pg.f_told_pool 1 0 [(.us, 0)] [] [] (aCons (eComp [9] (iSeqT (eVar 5)) (.one 9) (tYesD) (E_Pool_dealt_3)) (aNil)) (aNil))) (sRet (eTup (aCons (eVar 6) (aCons (eMeth 18 "without" Pg.f_Pool_without 1 0 [(.us, 0), (.us, 1)] [] [] (eVar 0) (aCons (eVar 6) (aNil)) (aNil)) (aNil)))))
def R_Pool_dealt_1_3 : MS := sSeq (sSet 5 (eComp [10, 9] (iEnumA (aCons (eVar 3) (aNil))) (.tup [10, 9]) (Q_Pool_dealt_2) (E_Pool_dealt_2))) (R_Pool_dealt_1_4)
def R_Pool_dealt_1_2 : MS := sSeq (sSet 4 (eBin pAdd (eVar 1) (eVar 2))) (R_Pool_dealt_1_3)
def R_Pool_dealt_1_1 : MS := sSeq (sSet 3 (eComp2 [7, 8, 9] [9] (iSeqT (eFld [18] "kept" (eVar 0))) (.tup [7, 8]) (tYesD) (I_Pool_dealt_1) (.one 9) (tYesD) (E_Pool_dealt_1))) (R_Pool_dealt_1_2)
def b_Pool_dealt : MS := sSeq (sIf (tOr (tNot (tstB (eChain pLe pLe (eC (.int 0)) (eVar 1) (eC (.int 1000))))) (tOr (tNot (tstB (eChain pLe pLe (eC (.int 0)) (eVar 2) (eC (.int 1000))))) (tstB (eBin pEq (eBin pAdd (eVar 1) (eVar 2)) (eC (.int 0)))))) (sRaise0 3) (sNil)) (R_Pool_dealt_1_1)
def f_Pool_dealt : MF := fnG 3 11 b_Pool_dealt
/-- Pool.__eq__ -/
def b_Pool_eq : MS := sRet (eAnd (eIsiC 18 (eVar 1)) (eBin pEq (eFld [18] "kept" (eVar 0)) (eMeth 18 "stretches" Pg.f_Pool_stretches 0 0 [(.us, 0)] [] [] (eVar 1) (aNil) (aNil))))
def f_Pool_eq : MF := fnG 2 2 b_Pool_eq
/-- Pool.has -/
def E_Pool_has_1 : ME := eChain pLe pLe (eVar 2) (eVar 1) (eVar 3)
def b_Pool_has : MS := sRet (eFn fAny (aCons (eComp [2, 3] (iSeqT (eFld [18] "kept" (eVar 0))) (.tup [2, 3]) (tYesD) (E_Pool_has_1)) (aNil)))
def f_Pool_has : MF := fnG 2 4 b_Pool_has
/-- Pool.joined -/
def b_Pool_joined : MS := sRet (eCall Pg.f_told_pool 1 0 [(.us, 0)] [] [] (aCons (eBin pAdd (eFld [18] "kept" (eVar 0)) (eMeth 18 "stretches" Pg.f_Pool_stretches 0 0 [(.us, 0)] [] [] (eVar 1) (aNil) (aNil))) (aNil)) (aNil))
def f_Pool_joined : MF := fnG 2 2 b_Pool_joined
/-- Pool.__len__ -/
def E_Pool_len_1 : ME := eBin pSub (eBin pAdd (eVar 2) (eC (.int 1))) (eVar 1)
def b_Pool_len : MS := sRet (eLenRng (eFn fSum (aCons (eComp [1, 2] (iSeqT (eFld [18] "kept" (eVar 0))) (.tup [1, 2]) (tYesD) (E_Pool_len_1)) (aNil))))
def f_Pool_len : MF := fnG 1 3 b_Pool_len
/-- Pool.met -/
def E_Pool_met_1 : ME := eTup (aCons (eFn fMax2 (aCons (eVar 3) (aCons (eVar 5) (aNil)))) (aCons (eFn fMin2 (aCons (eVar 4) (aCons (eVar 6) (aNil)))) (aNil)))
def I_Pool_met_1 : MI := iSeqT (eMeth 18 "stretches" Pg.f_Pool_stretches 0 0 [(.us, 0)] [] [] (eVar 1) (aNil) (aNil))
def E_Pool_met_2 : ME := eTup (aCons (eVar 7) (aCons (eVar 8) (aNil)))
def Q_Pool_met_2 : MT := tstB (eBin pLe (eVar 7) (eVar 8))
def b_Pool_met : MS := sSeq (sSet 2 (eComp2 [3, 4, 5, 6] [5, 6] (iSeqT (eFld [18] "kept" (eVar 0))) (.tup [3, 4]) (tYesD) (I_Pool_met_1) (.tup [5, 6]) (tYesD) (E_Pool_met_1))) (sRet (eCall Pg.f_told_pool 1 0 [(.us, 0)] [] [] (aCons (eComp [7, 8] (iSeqT (eVar 2)) (.tup [7, 8]) (Q_Pool_met_2) (E_Pool_met_2)) (aNil)) (aNil)))
def f_Pool_met : MF := fnG 2 9 b_Pool_met
/-- Pool.number_at -/
def L_Pool_number_at_1 : MS := sSeq (sIf (tstB (eChain pLe pLe (eC (.int 0)) (eVar 2) (eBin pSub (eVar 4) (eVar 3)))) (sRet (eBin pAdd (eVar 3) (eVar 2))) (sNil)) (sAug 2 pSubI (eBin pSub (eBin pAdd (eVar 4) (eC (.int 1))) (eVar 3)))
def b_Pool_number_at : MS := sSeq (sSet 2 (eVar 1)) (sSeq (sFor (iSeqT (eFld [18] "kept" (eVar 0))) (gSq 2 (gsCons (gNm 3) (gsCons (gNm 4) (gsNil)))) (L_Pool_number_at_1)) (sRaise 1 ["place", "many"] (aCons (eVar 1) (aCons (eOwn1 18 Pg.f_Pool_len lenOk (eVar 0)) (aNil)))))
def f_Pool_number_at : MF := fnG 2 5 b_Pool_number_at
/-- Pool.place_of -/
def L_Pool_place_of_1 : MS := sSeq (sIf (tstB (eChain pLe pLe (eVar 3) (eVar 1) (eVar 4))) (sRet (eBin pSub (eBin pAdd (eVar 2) (eVar 1)) (eVar 3))) (sNil)) (sAug 2 pAddI (eBin pSub (eBin pAdd (eVar 4) (eC (.int 1))) (eVar 3)))
def b_Pool_place_of : MS := sSeq (sSet 2 (eC (.int 0))) (sSeq (sFor (iSeqT (eFld [18] "kept" (eVar 0))) (gSq 2 (gsCons (gNm 3) (gsCons (gNm 4) (gsNil)))) (L_Pool_place_of_1)) (sRaise 2 ["number"] (aCons (eVar 1) (aNil))))
def f_Pool_place_of : MF := fnG 2 5 b_Pool_place_of
/-- Pool.__repr__ -/
def b_Pool_repr : MS := sRet (eJs [eC (.str "Pool("), eFmt false (eFld [18] "kept" (eVar 0)), eC (.str ")")] Str.empty)
def f_Pool_repr : MF := fnG 1 1 b_Pool_repr
/-- stretch_text -/
def b_stretch_text : MS := sSeq (sIf (tstB (eBin pEq (eVar 0) (eVar 1))) (sRet (eFn fStr (aCons (eVar 0) (aNil)))) (sNil)) (sRet (eJs [eFmt false (eVar 0), eC (.str "-"), eFmt false (eVar 1)] Str.empty))
def f_stretch_text : MF := fnG 2 2 b_stretch_text
/-- Pool.__str__ -/
def E_Pool_str_1 : ME := eCall Pg.f_stretch_text 2 0 [(.us, 0), (.us, 1)] [] [] (aCons (eVar 1) (aCons (eVar 2) (aNil))) (aNil)
def b_Pool_str : MS := sSeq (sIf (tstB (eBin pEq (eFld [18] "kept" (eVar 0)) (eTup (aNil)))) (sRet (eC (.str "none"))) (sNil)) (sRet (eBm "str" mJoin (eC (.str ",")) (aCons (eComp [1, 2] (iSeqT (eFld [18] "kept" (eVar 0))) (.tup [1, 2]) (tYesD) (E_Pool_str_1)) (aNil))))
def f_Pool_str : MF := fnG 1 3 b_Pool_str
/-- look_number -/
def b_look_number : MS := sIf (tOr (tstB (eBin pGt (eFn fLen (aCons (eVar 0) (aNil))) (eC (.int 6)))) (tNot (tst (eCall Pg.f_is_figures 1 0 [(.us, 0)] [] [] (aCons (eVar 0) (aNil)) (aNil))))) (sRaise0 4) (sNil)
def f_look_number : MF := fnG 1 1 b_look_number
/-- stretch_read -/
def R_stretch_read_1_4 : MS := sSeq (sIf (tstB (eBin pGe (eFn fInt (aCons (eVar 1) (aNil))) (eFn fInt (aCons (eVar 3) (aNil))))) (sRaise0 4) (sNil)) (sRet (eTup (aCons (eFn fInt (aCons (eVar 1) (aNil))) (aCons (eFn fInt (aCons (eVar 3) (aNil))) (aNil)))))
def R_stretch_read_1_3 : MS := sSeq (sExp (eCall Pg.f_look_number 1 0 [(.us, 0)] [] [] (aCons (eVar 3) (aNil)) (aNil))) (R_stretch_read_1_4)
def R_stretch_read_1_2 : MS := sSeq (sIf (tstB (eBin pEq (eVar 2) (eC (.str "")))) (sRet (eTup (aCons (eFn fInt (aCons (eVar 1) (aNil))) (aCons (eFn fInt (aCons (eVar 1) (aNil))) (aNil))))) (sNil)) (R_stretch_read_1_3)
def R_stretch_read_1_1 : MS := sSeq (sExp (eCall Pg.f_look_number 1 0 [(.us, 0)] [] [] (aCons (eVar 1) (aNil)) (aNil))) (R_stretch_read_1_2)
def b_stretch_read : MS := sSeq (sAsg (eBm "str" mPart (eVar 0) (aCons (eC (.str "-")) (aNil))) (gSq 3 (gsCons (gNm 1) (gsCons (gNm 2) (gsCons (gNm 3) (gsNil)))))) (R_stretch_read_1_1)
def f_stretch_read : MF := fnG 1 4 b_stretch_read
/-- pool_read -/
def E_pool_read_1 : ME := eCall Pg.f_stretch_read 1 0 [(.us, 0)] [] [] (aCons (eVar 2) (aNil)) (aNil)
def b_pool_read : MS := sSeq (sIf (tstB (eBin pEq (eVar 0) (eC (.str "none")))) (sRet (eMake 18 Pg.f_Pool_init 0 0 [(.us, 0), (.its, 0)] [.tup []] [] (aNil) (aNil))) (sNil)) (sSeq (sSet 1 (eFn fTuple (aCons (eComp [2] (iSeqT (eBm "str" mSplit (eVar 0) (aCons (eC (.str ",")) (aNil)))) (.one 2) (tYesD) (E_pool_read_1)) (aNil)))) (sSeq (sIf (tstB (eBin pNe (eCall Pg.f_fewest 1 0 [(.us, 0)] [] [] (aCons (eVar 1) (aNil)) (aNil)) (eVar 1))) (sRaise0 4) (sNil)) (sRet (eCall Pg.f_told_pool 1 0 [(.us, 0)] [] [] (aCons (eVar 1) (aNil)) (aNil)))))
def f_pool_read : MF := fnG 1 3 b_pool_read
theorem Pool_get_kept (x0 : D) : List.lookup ("kept" : Str) ([("kept", x0)] : List (Str × D)) = some x0 := rfl
theorem Pool_set_kept (v x0 : D) : putFD "kept" v ([("kept", x0)] : List (Str × D)) = ([("kept", v)] : List (Str × D)) := rfl
theorem Pool_put_0 (x0 : D) : putFD "kept" x0 ([] : List (Str × D)) = ([("kept", x0)] : List (Str × D)) := rfl
theorem Pool_no_stretches (x0 : D) : List.lookup ("stretches" : Str) ([("kept", x0)] : List (Str × D)) = none := rfl
theorem Pool_no___len__ (x0 : D) : List.lookup ("__len__" : Str) ([("kept", x0)] : List (Str × D)) = none := rfl
theorem Pool_no_has (x0 : D) : List.lookup ("has" : Str) ([("kept", x0)] : List (Str × D)) = none := rfl
theorem Pool_no_number_at (x0 : D) : List.lookup ("number_at" : Str) ([("kept", x0)] : List (Str × D)) = none := rfl
theorem Pool_no_place_of (x0 : D) : List.lookup ("place_of" : Str) ([("kept", x0)] : List (Str × D)) = none := rfl
theorem Pool_no_first_from (x0 : D) : List.lookup ("first_from" : Str) ([("kept", x0)] : List (Str × D)) = none := rfl
theorem Pool_no_joined (x0 : D) : List.lookup ("joined" : Str) ([("kept", x0)] : List (Str × D)) = none := rfl
theorem Pool_no_met (x0 : D) : List.lookup ("met" : Str) ([("kept", x0)] : List (Str × D)) = none := rfl
theorem Pool_no_without (x0 : D) : List.lookup ("without" : Str) ([("kept", x0)] : List (Str × D)) = none := rfl
theorem Pool_no_dealt (x0 : D) : List.lookup ("dealt" : Str) ([("kept", x0)] : List (Str × D)) = none := rfl
theorem Pool_no___eq__ (x0 : D) : List.lookup ("__eq__" : Str) ([("kept", x0)] : List (Str × D)) = none := rfl
theorem Pool_no___str__ (x0 : D) : List.lookup ("__str__" : Str) ([("kept", x0)] : List (Str × D)) = none := rfl
theorem Pool_no___repr__ (x0 : D) : List.lookup ("__repr__" : Str) ([("kept", x0)] : List (Str × D)) = none := rfl
end Pg
end
set_option Elab.async false
set_option linter.all false
set_option maxRecDepth 100000
noncomputable section
namespace K01
open PySem PySem.Spec L2 MP
open PyProof.Rows hiding St
/-- _law_has -/
def E_law_has_1 : ME := eChain pLe pLe (eVar 2) (eVar 1) (eVar 3)
def b_law_has : MS := sRet (eFn fAny (aCons (eComp [2, 3] (iSeqT (eVar 0)) (.tup [2, 3]) (tYesD) (E_law_has_1)) (aNil)))
def f_law_has : MF := fnG 2 4 b_law_has
/-- _law_fewest -/
def E_law_fewest_1 : ME := eVar 3
def Q_law_fewest_1 : MT := tNot (tst (eCall K01.f_law_has 2 0 [(.us, 0), (.us, 1)] [] [] (aCons (eVar 0) (aCons (eBin pSub (eVar 3) (eC (.int 1))) (aNil))) (aNil)))
def E_law_fewest_2 : ME := eVar 4
def Q_law_fewest_2 : MT := tNot (tst (eCall K01.f_law_has 2 0 [(.us, 0), (.us, 1)] [] [] (aCons (eVar 0) (aCons (eBin pAdd (eVar 4) (eC (.int 1))) (aNil))) (aNil)))
def E_law_fewest_3 : ME := eTup (aCons (eVar 3) (aCons (eVar 4) (aNil)))
def b_law_fewest : MS := sSeq (sSet 1 (eFn fSortSet (aCons (eComp [3, 4] (iSeqT (eVar 0)) (.tup [3, 4]) (Q_law_fewest_1) (E_law_fewest_1)) (aNil)))) (sSeq (sSet 2 (eFn fSortSet (aCons (eComp [3, 4] (iSeqT (eVar 0)) (.tup [3, 4]) (Q_law_fewest_2) (E_law_fewest_2)) (aNil)))) (sRet (eFn fTuple (aCons (eComp [3, 4] (iZipA (aCons (eVar 1) (aCons (eVar 2) (aNil)))) (.tup [3, 4]) (tYesD) (E_law_fewest_3)) (aNil)))))
def f_law_fewest : MF := fnG 1 5 b_law_fewest
/-- _law_alike -/
def E_law_alike_1 : ME := eVar 4
def Q_law_alike_1 : MT := tNot (tst (eCall K01.f_law_has 2 0 [(.us, 0), (.us, 1)] [] [] (aCons (eVar 1) (aCons (eVar 4) (aNil))) (aNil)))
def R_law_alike_1_4 : MS := sSeq (sIf (tAnd (tstB (eBin pLt (eFn fLen (aCons (eVar 1) (aNil))) (eC (.int 20)))) (tAnd (tstB (eBin pNe (eVar 3) (eLst (aNil)))) (tAlt (isIns 18 (eVar 0)) (tstB (eOwn 18 Pg.f_Pool_eq [(.us, 0), (.us, 1)] (eMake 18 Pg.f_Pool_init 1 0 [(.us, 0), (.us, 1)] [.tup []] [] (aCons (eBin pAdd (eVar 1) (eTup (aCons (eTup (aCons (eBin pIx (eVar 3) (eC (.int 0))) (aCons (eBin pIx (eVar 3) (eC (.int 0))) (aNil)))) (aNil)))) (aNil)) (aNil)) (eVar 0))) (tstB (eOwnD 18 Pg.f_Pool_eq [(.us, 0), (.us, 1)] (eMake 18 Pg.f_Pool_init 1 0 [(.us, 0), (.us, 1)] [.tup []] [] (aCons (eBin pAdd (eVar 1) (eTup (aCons (eTup (aCons (eBin pIx (eVar 3) (eC (.int 0))) (aCons (eBin pIx (eVar 3) (eC (.int 0))) (aNil)))) (aNil)))) (aNil)) (aNil)) (eVar 0)))))) (sRet (eC (.bl false))) (sNil)) (sRet (eAnd (eNot (eAlt (isIns 18 (eVar 2)) (eOwn 18 Pg.f_Pool_eq [(.us, 0), (.us, 1)] (eVar 0) (eVar 2)) (eOwnD 18 Pg.f_Pool_eq [(.us, 0), (.us, 1)] (eVar 0) (eVar 2)))) (eAnd (eNot (eAlt (isIns 18 (eOwn1 18 Pg.f_Pool_repr strOk (eVar 0))) (eOwn 18 Pg.f_Pool_eq [(.us, 0), (.us, 1)] (eVar 0) (eOwn1 18 Pg.f_Pool_repr strOk (eVar 0))) (eOwnD 18 Pg.f_Pool_eq [(.us, 0), (.us, 1)] (eVar 0) (eOwn1 18 Pg.f_Pool_repr strOk (eVar 0))))) (eAnd (eNot (eAlt (isIns 18 (eC .non)) (eOwn 18 Pg.f_Pool_eq [(.us, 0), (.us, 1)] (eVar 0) (eC .non)) (eOwnD 18 Pg.f_Pool_eq [(.us, 0), (.us, 1)] (eVar 0) (eC .non)))) (eAlt (isIns 18 (eOwn1 18 Pg.f_Pool_len lenOk (eVar 0))) (eOwnN 18 Pg.f_Pool_eq [(.us, 0), (.us, 1)] (eVar 0) (eOwn1 18 Pg.f_Pool_len lenOk (eVar 0))) (eOwnND 18 Pg.f_Pool_eq [(.us, 0), (.us, 1)] (eVar 0) (eOwn1 18 Pg.f_Pool_len lenOk (eVar 0))))))))
def R_law_alike_1_3 : MS := sSeq (sSet 3 (eComp [4] (iRng1 (eC (.int 22))) (.one 4) (Q_law_alike_1) (E_law_alike_1))) (R_law_alike_1_4)
def R_law_alike_1_2 : MS := sSeq (sIf (tAnd (tstB (eBin pLt (eFn fLen (aCons (eVar 1) (aNil))) (eC (.int 20)))) (tNot (tAlt (isIns 18 (eVar 0)) (tstB (eOwn 18 Pg.f_Pool_eq [(.us, 0), (.us, 1)] (eMake 18 Pg.f_Pool_init 1 0 [(.us, 0), (.us, 1)] [.tup []] [] (aCons (eBin pAdd (eVar 1) (eSlA (eVar 1) none (some (eC (.int 1))))) (aNil)) (aNil)) (eVar 0))) (tstB (eOwnD 18 Pg.f_Pool_eq [(.us, 0), (.us, 1)] (eMake 18 Pg.f_Pool_init 1 0 [(.us, 0), (.us, 1)] [.tup []] [] (aCons (eBin pAdd (eVar 1) (eSlA (eVar 1) none (some (eC (.int 1))))) (aNil)) (aNil)) (eVar 0)))))) (sRet (eC (.bl false))) (sNil)) (R_law_alike_1_3)
def R_law_alike_1_1 : MS := sSeq (sIf (tOr (tNot (tAlt (isIns 18 (eVar 0)) (tstB (eOwn 18 Pg.f_Pool_eq [(.us, 0), (.us, 1)] (eMake 18 Pg.f_Pool_init 1 0 [(.us, 0), (.us, 1)] [.tup []] [] (aCons (eVar 2) (aNil)) (aNil)) (eVar 0))) (tstB (eOwnD 18 Pg.f_Pool_eq [(.us, 0), (.us, 1)] (eMake 18 Pg.f_Pool_init 1 0 [(.us, 0), (.us, 1)] [.tup []] [] (aCons (eVar 2) (aNil)) (aNil)) (eVar 0))))) (tOr (tNot (tAlt (isIns 18 (eMake 18 Pg.f_Pool_init 0 1 [(.us, 0), (.ws, 0)] [.tup []] [] (aNil) (aCons (eRevA (eVar 1)) (aNil)))) (tstB (eOwn 18 Pg.f_Pool_eq [(.us, 0), (.us, 1)] (eVar 0) (eMake 18 Pg.f_Pool_init 0 1 [(.us, 0), (.ws, 0)] [.tup []] [] (aNil) (aCons (eRevA (eVar 1)) (aNil))))) (tstB (eOwnD 18 Pg.f_Pool_eq [(.us, 0), (.us, 1)] (eVar 0) (eMake 18 Pg.f_Pool_init 0 1 [(.us, 0), (.ws, 0)] [.tup []] [] (aNil) (aCons (eRevA (eVar 1)) (aNil))))))) (tAlt (isIns 18 (eMake 18 Pg.f_Pool_init 1 0 [(.us, 0), (.us, 1)] [.tup []] [] (aCons (eVar 1) (aNil)) (aNil))) (tstB (eOwnN 18 Pg.f_Pool_eq [(.us, 0), (.us, 1)] (eVar 0) (eMake 18 Pg.f_Pool_init 1 0 [(.us, 0), (.us, 1)] [.tup []] [] (aCons (eVar 1) (aNil)) (aNil)))) (tstB (eOwnND 18 Pg.f_Pool_eq [(.us, 0), (.us, 1)] (eVar 0) (eMake 18 Pg.f_Pool_init 1 0 [(.us, 0), (.us, 1)] [.tup []] [] (aCons (eVar 1) (aNil)) (aNil))))))) (sRet (eC (.bl false))) (sNil)) (R_law_alike_1_2)
def b_law_alike : MS := sSeq (sSet 2 (eCall K01.f_law_fewest 1 0 [(.us, 0)] [] [] (aCons (eVar 1) (aNil)) (aNil))) (R_law_alike_1_1)
def f_law_alike : MF := fnG 2 5 b_law_alike
/-- _law_bag -/
def b_law_bag : MS := sSeq (sSet 2 (eBin pAdd (eBin pMulA (eC (.int 5081)) (eVar 1)) (eC (.int 3)))) (sSeq (sIf (tstB (eBin pLt (eVar 1) (eFn fLen (aCons (eVar 0) (aNil))))) (sSet 2 (eBin pIx (eVar 0) (eVar 1))) (sNil)) (sRet (eLstN (aCons (eBin pMulA (eFn fAbs (aCons (eVar 2) (aNil))) (eFn fInt (aCons (eBin pGe (eFn fAbs (aCons (eVar 2) (aNil))) (eBin pPow (eC (.int 10)) (eC (.int 18)))) (aNil)))) (aCons (eBin pAdd (eBin pMod (eVar 2) (eC (.int 1000000000000000003))) (eBin pMulA (eC (.int 40009)) (eVar 1))) (aCons (eC (.int 0)) (aNil)))))))
def f_law_bag : MF := fnG 2 3 b_law_bag
/-- _law_same -/
def b_law_same (self : MF) : MS := sSeq (sIf (tOr (tstB (eBin pNe (eIsi "list" (eVar 0)) (eIsi "list" (eVar 1)))) (tstB (eBin pNe (eIsi "tuple" (eVar 0)) (eIsi "tuple" (eVar 1))))) (sRet (eC (.bl false))) (sNil)) (sSeq (sIf (tOr (tst (eIsi "list" (eVar 0))) (tst (eIsi "tuple" (eVar 0)))) (sRet (eAnd (eBin pEq (eFn fLen (aCons (eVar 0) (aNil))) (eFn fLen (aCons (eVar 1) (aNil)))) (eFn fAll (aCons (eComp [2, 3] (iZipA (aCons (eVar 0) (aCons (eVar 1) (aNil)))) (.tup [2, 3]) (tYesD) (eCall self 2 0 [(.us, 0), (.us, 1)] [] [] (aCons (eVar 2) (aCons (eVar 3) (aNil))) (aNil))) (aNil))))) (sNil)) (sRet (eAnd (eBin pEq (eIsi "bool" (eVar 0)) (eIsi "bool" (eVar 1))) (eBin pEq (eVar 0) (eVar 1)))))
def f_law_same : Nat → MF
  | 0 => fun _ _ => .st
  | n + 1 => fnG 2 4 (b_law_same (f_law_same n))
/-- _law_right -/
def E_law_right_1 : ME := eBin pSub (eBin pAdd (eVar 5) (eC (.int 1))) (eVar 4)
def L_law_right_2 : MS := sSeq (sSet 7 (eMeth 18 "has" Pg.f_Pool_has 1 0 [(.us, 0), (.us, 1)] [] [] (eVar 1) (aCons (eVar 6) (aNil)) (aNil))) (sIf (tOr (tNot (tst (eIsi "bool" (eVar 7)))) (tstB (eBin pNe (eVar 7) (eCall K01.f_law_has 2 0 [(.us, 0), (.us, 1)] [] [] (aCons (eVar 0) (aCons (eVar 6) (aNil))) (aNil))))) (sRet (eC (.bl false))) (sNil))
def L_law_right_3 : MS := sFor (iSeqT (eLst (aCons (eBin pSub (eVar 4) (eC (.int 1))) (aCons (eVar 4) (aCons (eBin pDiv (eBin pAdd (eVar 4) (eVar 5)) (eC (.int 2))) (aCons (eVar 5) (aCons (eBin pAdd (eVar 5) (eC (.int 1))) (aNil)))))))) (gNm 6) (L_law_right_2)
def b_law_right : MS := sSeq (sSet 2 (eCall K01.f_law_fewest 1 0 [(.us, 0)] [] [] (aCons (eVar 0) (aNil)) (aNil))) (sSeq (sSet 3 (eFn fSum (aCons (eComp [4, 5] (iSeqT (eVar 2)) (.tup [4, 5]) (tYesD) (E_law_right_1)) (aNil)))) (sSeq (sIf (tOr (tNot (tst (eCall (K01.f_law_same 8) 2 0 [(.us, 0), (.us, 1)] [] [] (aCons (eMeth 18 "stretches" Pg.f_Pool_stretches 0 0 [(.us, 0)] [] [] (eVar 1) (aNil) (aNil)) (aCons (eVar 2) (aNil))) (aNil)))) (tNot (tst (eCall (K01.f_law_same 8) 2 0 [(.us, 0), (.us, 1)] [] [] (aCons (eOwn1 18 Pg.f_Pool_len lenOk (eVar 1)) (aCons (eVar 3) (aNil))) (aNil))))) (sRet (eC (.bl false))) (sNil)) (sSeq (sFor (iSeqT (eVar 0)) (gSq 2 (gsCons (gNm 4) (gsCons (gNm 5) (gsNil)))) (L_law_right_3)) (sRet (eAnd (eBin pIsA (eMeth 18 "has" Pg.f_Pool_has 1 0 [(.us, 0), (.us, 1)] [] [] (eVar 1) (aCons (eUn pNeg (eC (.int 1))) (aNil)) (aNil)) (eC (.bl false))) (eBin pIsA (eMeth 18 "has" Pg.f_Pool_has 1 0 [(.us, 0), (.us, 1)] [] [] (eVar 1) (aCons (eBin pPow (eC (.int 10)) (eC (.int 6))) (aNil)) (aNil)) (eC (.bl false))))))))
def f_law_right : MF := fnG 2 8 b_law_right
/-- _law_take -/
def R_law_take_1_5 : MS := sSeq (sSet 6 (eBin pMod (eBin pPow (eVar 5) (eC (.int 3))) (eBin pIx (eVar 3) (eBin pMod (eVar 4) (eC (.int 8)))))) (sRet (eBin pMod (eBin pDiv (eBin pMod (eBin pMulA (eVar 6) (eBin pAdd (eBin pDiv (eVar 6) (eC (.int 8192))) (eC (.int 11)))) (eBin pIx (eVar 3) (eBin pMod (eBin pAdd (eVar 4) (eC (.int 3))) (eC (.int 8))))) (eC (.int 32))) (eVar 1)))
def R_law_take_1_4 : MS := sSeq (sSet 5 (eBin pAdd (eBin pMulA (eBin pAdd (eBin pIx (eVar 0) (eC (.int 1))) (eC (.int 1))) (eBin pAdd (eBin pMulA (eC (.int 2)) (eVar 4)) (eC (.int 3)))) (eBin pMulA (eBin pMulA (eC (.int 6007)) (eVar 4)) (eVar 4)))) (R_law_take_1_5)
def R_law_take_1_3 : MS := sSeq (sSet 4 (eBin pIx (eVar 0) (eC (.int 2)))) (R_law_take_1_4)
def R_law_take_1_2 : MS := sSeq (sAsg (eBin pAdd (eBin pIx (eVar 0) (eC (.int 2))) (eC (.int 1))) (gIx (eVar 0) (eC (.int 2)))) (R_law_take_1_3)
def R_law_take_1_1 : MS := sSeq (sSet 3 (eTup (aCons (eC (.int 2147483647)) (aCons (eC (.int 2147483629)) (aCons (eC (.int 2147483587)) (aCons (eC (.int 2147483579)) (aCons (eC (.int 2147483563)) (aCons (eC (.int 2147483549)) (aCons (eC (.int 2147483543)) (aCons (eC (.int 2147483497)) (aNil))))))))))) (R_law_take_1_2)
def b_law_take : MS := sSeq (sIf (tstB (eBin pGt (eBin pIx (eVar 0) (eC (.int 0))) (eC (.int 0)))) (sSeq (sSet 2 (eBin pMod (eBin pIx (eVar 0) (eC (.int 0))) (eVar 1))) (sSeq (sAsg (eBin pDiv (eBin pIx (eVar 0) (eC (.int 0))) (eVar 1)) (gIx (eVar 0) (eC (.int 0)))) (sRet (eVar 2)))) (sNil)) (R_law_take_1_1)
def f_law_take : MF := fnG 2 7 b_law_take
/-- _law_stretches -/
def L_law_stretches_1 : MS := sSeq (sSet 6 (eCall K01.f_law_take 2 0 [(.us, 0), (.us, 1)] [] [] (aCons (eVar 0) (aCons (eVar 2) (aNil))) (aNil))) (sSeq (sIf (tAnd (tstB (eBin pNe (eVar 4) (eLst (aNil)))) (tstB (eBin pEq (eCall K01.f_law_take 2 0 [(.us, 0), (.us, 1)] [] [] (aCons (eVar 0) (aCons (eC (.int 5)) (aNil))) (aNil)) (eC (.int 0))))) (sSet 6 (eFn fMin2 (aCons (eC (.int 999999)) (aCons (eBin pAdd (eBin pIx (eBin pIx (eVar 4) (eUn pNeg (eC (.int 1)))) (eC (.int 1))) (eCall K01.f_law_take 2 0 [(.us, 0), (.us, 1)] [] [] (aCons (eVar 0) (aCons (eC (.int 3)) (aNil))) (aNil))) (aNil))))) (sNil)) (sExp (eBm "list" mAppend (eVar 4) (aCons (eTup (aCons (eVar 6) (aCons (eFn fMin2 (aCons (eC (.int 999999)) (aCons (eBin pAdd (eVar 6) (eCall K01.f_law_take 2 0 [(.us, 0), (.us, 1)] [] [] (aCons (eVar 0) (aCons (eVar 3) (aNil))) (aNil))) (aNil)))) (aNil)))) (aNil)))))
def b_law_stretches : MS := sSeq (sSet 2 (eBin pIx (eLst (aCons (eC (.int 12)) (aCons (eC (.int 60)) (aCons (eC (.int 400)) (aCons (eC (.int 1000000)) (aNil)))))) (eCall K01.f_law_take 2 0 [(.us, 0), (.us, 1)] [] [] (aCons (eVar 0) (aCons (eC (.int 4)) (aNil))) (aNil)))) (sSeq (sSet 3 (eBin pIx (eLst (aCons (eC (.int 1)) (aCons (eC (.int 2)) (aCons (eC (.int 9)) (aCons (eC (.int 200000)) (aNil)))))) (eCall K01.f_law_take 2 0 [(.us, 0), (.us, 1)] [] [] (aCons (eVar 0) (aCons (eC (.int 4)) (aNil))) (aNil)))) (sSeq (sSet 4 (eLstN (aNil))) (sSeq (sFor (iRng1 (eCall K01.f_law_take 2 0 [(.us, 0), (.us, 1)] [] [] (aCons (eVar 0) (aCons (eBin pIx (eLst (aCons (eC (.int 4)) (aCons (eBin pAdd (eVar 1) (eC (.int 1))) (aNil)))) (eCall K01.f_law_take 2 0 [(.us, 0), (.us, 1)] [] [] (aCons (eVar 0) (aCons (eC (.int 2)) (aNil))) (aNil))) (aNil))) (aNil))) (gNm 5) (L_law_stretches_1)) (sRet (eFn fTuple (aCons (eVar 4) (aNil)))))))
def f_law_stretches : MF := fnG 2 7 b_law_stretches
/-- law -/
def L_law_1 : MS := sIf (tOr (tNot (tst (eCall K01.f_law_right 2 0 [(.us, 0), (.us, 1)] [] [] (aCons (eVar 3) (aCons (eVar 4) (aNil))) (aNil)))) (tNot (tst (eCall K01.f_law_alike 2 0 [(.us, 0), (.us, 1)] [] [] (aCons (eVar 4) (aCons (eVar 3) (aNil))) (aNil))))) (sRet (eC (.bl false))) (sNil)
def R_law_1_6 : MS := sSeq (sIf (tOr (tstB (eBin pNe (eAlt (isIns 18 (eVar 4)) (eOwn 18 Pg.f_Pool_eq [(.us, 0), (.us, 1)] (eVar 7) (eVar 4)) (eOwnD 18 Pg.f_Pool_eq [(.us, 0), (.us, 1)] (eVar 7) (eVar 4))) (eBin pEq (eCall K01.f_law_fewest 1 0 [(.us, 0)] [] [] (aCons (eVar 6) (aNil)) (aNil)) (eCall K01.f_law_fewest 1 0 [(.us, 0)] [] [] (aCons (eVar 3) (aNil)) (aNil))))) (tNot (tst (eCall K01.f_law_right 2 0 [(.us, 0), (.us, 1)] [] [] (aCons (eVar 3) (aCons (eVar 4) (aNil))) (aNil))))) (sRet (eC (.bl false))) (sNil)) (sIf (tOr (tNot (tst (eCall K01.f_law_right 2 0 [(.us, 0), (.us, 1)] [] [] (aCons (eVar 6) (aCons (eVar 7) (aNil))) (aNil)))) (tOr (tNot (tst (eCall K01.f_law_right 2 0 [(.us, 0), (.us, 1)] [] [] (aCons (eTup (aNil)) (aCons (eMake 18 Pg.f_Pool_init 0 0 [(.us, 0), (.its, 0)] [.tup []] [] (aNil) (aNil)) (aNil))) (aNil)))) (tNot (tAlt (isIns 18 (eMake 18 Pg.f_Pool_init 0 0 [(.us, 0), (.its, 0)] [.tup []] [] (aNil) (aNil))) (tstB (eOwn 18 Pg.f_Pool_eq [(.us, 0), (.us, 1)] (eMake 18 Pg.f_Pool_init 1 0 [(.us, 0), (.us, 1)] [.tup []] [] (aCons (eTup (aNil)) (aNil)) (aNil)) (eMake 18 Pg.f_Pool_init 0 0 [(.us, 0), (.its, 0)] [.tup []] [] (aNil) (aNil)))) (tstB (eOwnD 18 Pg.f_Pool_eq [(.us, 0), (.us, 1)] (eMake 18 Pg.f_Pool_init 1 0 [(.us, 0), (.us, 1)] [.tup []] [] (aCons (eTup (aNil)) (aNil)) (aNil)) (eMake 18 Pg.f_Pool_init 0 0 [(.us, 0), (.its, 0)] [.tup []] [] (aNil) (aNil)))))))) (sRet (eC (.bl false))) (sNil))
def R_law_1_5 : MS := sSeq (sSet 7 (eMake 18 Pg.f_Pool_init 1 0 [(.us, 0), (.us, 1)] [.tup []] [] (aCons (eVar 6) (aNil)) (aNil))) (R_law_1_6)
def R_law_1_4 : MS := sSeq (sSet 6 (eCall K01.f_law_stretches 2 0 [(.us, 0), (.us, 1)] [] [] (aCons (eVar 2) (aCons (eC (.int 20)) (aNil))) (aNil))) (R_law_1_5)
def R_law_1_3 : MS := sSeq (sFor (iRng1 (eC (.int 2))) (gNm 5) (L_law_1)) (R_law_1_4)
def R_law_1_2 : MS := sSeq (sSet 4 (eMake 18 Pg.f_Pool_init 1 0 [(.us, 0), (.us, 1)] [.tup []] [] (aCons (eVar 3) (aNil)) (aNil))) (R_law_1_3)
def R_law_1_1 : MS := sSeq (sSet 3 (eCall K01.f_law_stretches 2 0 [(.us, 0), (.us, 1)] [] [] (aCons (eVar 2) (aCons (eC (.int 20)) (aNil))) (aNil))) (R_law_1_2)
def L_law_8 : MS := sSeq (sSet 2 (eCall K01.f_law_bag 2 0 [(.us, 0), (.us, 1)] [] [] (aCons (eVar 0) (aCons (eVar 1) (aNil))) (aNil))) (R_law_1_1)
def b_law : MS := sSeq (sFor (iRng1 (eFn fMax2 (aCons (eC (.int 1)) (aCons (eFn fMin2 (aCons (eC (.int 4)) (aCons (eFn fLen (aCons (eVar 0) (aNil))) (aNil)))) (aNil))))) (gNm 1) (L_law_8)) (sRet (eC (.bl true)))
def f_law : MF := fnG 1 8 b_law
end K01
end
set_option Elab.async false
set_option linter.all false
set_option maxRecDepth 100000
set_option maxHeartbeats 4000000
/-! what the pools' own functions compute -/
namespace XP
open PySem PySem.Spec L2 MP
theorem isi_il : isiB "int" "list" = false := by decide
theorem isi_it : isiB "int" "tuple" = false := by decide
theorem isi_sl : isiB "str" "list" = false := by decide
theorem isi_st : isiB "str" "tuple" = false := by decide
theorem isi_sb : isiB "str" "bool" = false := by decide
theorem isi_nl : isiB "NoneType" "list" = false := by decide
theorem isi_nt : isiB "NoneType" "tuple" = false := by decide
theorem isi_nb : isiB "NoneType" "bool" = false := by decide
theorem isi_ns : isiB "NoneType" "str" = false := by decide
theorem isi_bl : isiB "bool" "list" = false := by decide
theorem isi_bt : isiB "bool" "tuple" = false := by decide
theorem isi_bs : isiB "bool" "str" = false := by decide
theorem isi_ll : isiB "list" "list" = true := by decide
theorem isi_lt : isiB "list" "tuple" = false := by decide
theorem isi_lb : isiB "list" "bool" = false := by decide
theorem isi_ls : isiB "list" "str" = false := by decide
theorem isi_tl : isiB "tuple" "list" = false := by decide
theorem isi_tb : isiB "tuple" "bool" = false := by decide
theorem isi_ts : isiB "tuple" "str" = false := by decide
theorem fnG_obj {ar n : Nat} {b : MS} {ds : List D} {h h' : AH} {c : Nat} {fs : List (Str × D)} (e : fnM ar n b ds h = .ok (.ref h.n) h') (hi : h'.g h.n = some (.ins c fs)) (hc : immC c = true) (hf : undF h.n fs = true) (a : Old h h') : fnG ar n b ds h = .ok (.obj c (fs.map (·.1)) (fs.map (·.2))) h := by
  unfold fnG
  rw [e]
  exact make_obj hi hc hf a
def rowsD (ps : List PRow) : D := .tup (ps.map tupP)
theorem tupP_und (n : Nat) (p : PRow) : (tupP p).und n = true := rfl
theorem rows_undL (n : Nat) (ps : List PRow) : D.undL n (ps.map tupP) = true := undL_map (tupP_und n) ps
theorem rows_und (n : Nat) (ps : List PRow) : (rowsD ps).und n = true := by simp only [rowsD, D.und, rows_undL]
/-- a pool -/
def plO (m : List PRow) : AO := .ins 18 [("kept", rowsD m)]
def plD (m : List PRow) : D := .obj 18 ["kept"] [rowsD m]
theorem plD_und (n : Nat) (m : List PRow) : (plD m).und n = true := by simp only [plD, D.und, D.undL, rows_und, Bool.and_self]
theorem plO_und (n : Nat) (m : List PRow) : (plO m).und n = true := by simp only [plO, AO.und, undF, List.all_cons, List.all_nil, rows_und, Bool.and_self]

theorem has_ok (ps : List PRow) (x : Int) (h : AH) (hl : ps.length ≤ 100000) : K01.f_law_has [rowsD ps, .int x] h = .ok (.bl (hasB ps x)) h := by
  have C := compL_map (ok := fun _ => true) (own := [2, 3]) (g := .tup [2, 3]) (t := tYesD) (e := K01.E_law_has_1) (s := [some (rowsD ps), some (.int x), none, none]) (h := h) tupP (fun _ => true) (fun p => .bl (decide (p.1 ≤ x ∧ x ≤ p.2))) rfl ps [] (fun p _ => ⟨[some (rowsD ps), some (.int x), some (.int p.1), some (.int p.2)], rfl, rfl, fun _ => by
    by_cases h1 : p.1 ≤ x
    · simp (disch := omega) only [fnM, eVar, eC, eBin, eUn, aNil, aCons, eTup, eLst, eLstN, eFn, eIf, eFld, eCall, eMeth, eMake, insOf, tst, tstB, MP.tAnd, MP.tOr, MP.tNot, eAnd, eOr, eNot, eChain, truth, optR, Res.bind, Res.bindS, sNil, sSeq, sExp, sRet, sRetN, sIf, sAsg, sSet, sPar, MP.sFld, MP.sFldAug, sFor, nxO, gNm, gFld, gIx, setIx, setFld, gsNil, gsCons, gTp, gLs, MP.iRng1, MP.iRng2, iSeq, iLst, MP.iTup, seqL, seqM, seqT, seqX, eIsi, tyName, isi_ii, isi_ib, isi_bi, isi_bb, isi_ni, isi_si, isi_ss, isi_is, isi_tt, isi_ti, isi_li, pAdd, pSub, pMulA_int, pMul_ok, pDiv_ok, pMod_ok, pNeg, pLt, pLe, pGt, pGe, pEq, pNe, pEqB, sEq, pIs, pIsNot, MP.isNon, pIx, fAbs, fMax2, fMin2, fInt, fLen, gSel, pick, AH.put_g, AH.put_n, AH.new_g, AH.new_n, AH.put_put, AH.new_put, List.length_cons, List.length_nil, List.map_cons, List.map_nil, List.cons_append, List.nil_append, List.append_nil, List.replicate, List.getElem?_cons_zero, List.getElem?_cons_succ, List.getElem?_nil, List.set_cons_zero, List.set_cons_succ, List.flatMap_cons, List.flatMap_nil, List.drop_zero, List.drop_succ_cons, List.drop_nil, List.take_succ_cons, List.take_zero, List.take_nil, List.contains_cons, List.contains_nil, Bool.or_false, Bool.or_true, Bool.true_or, Bool.false_or, Bool.and_true, Bool.and_false, Bool.not_true, Bool.not_false, beq_self_eq_true, Nat.reduceAdd, Nat.reduceSub, Nat.reduceLeDiff, Nat.reduceLT, Nat.reduceEqDiff, Nat.reduceBEq, Int.reduceToNat, ↓reduceIte, reduceIte, Bool.false_eq_true, ne_true_f, decide_eq_true_eq, and_self, and_true, true_and, Nat.zero_le, Option.map_some, Option.map_none, Option.bind_some, Int.reduceLT, Int.reduceLE, Int.reduceNeg, decide_true, decide_false, ixN_0, ixN_1, ixN_2, ixN_3, ixN_m1, atI_1, atI_2, atI_3, eq_self, Option.some.injEq, false_and, atI_0, Nat.zero_add, Nat.add_zero, pow10_18, pow10_10, pow10_11, pow10_6, sRaise, sRaise0, sTryO, noEx, fAny, fAll, blsL, compL, wipeD, CT.set, eComp, eCompN, lstOk, fSum, fTuple, fList, sAug, pAddI, pSubI, pIn, pNotIn, inB, MP.iZip, iEnumA, fSortP, fSortSet, eSl, partD, zipD_ints, pairsL_map, eBm, mAppend, List.any_cons, List.any_nil, List.all_cons, List.all_nil, id, List.length_append, List.zip_cons_cons, List.zip_nil_left, List.reverse_cons, List.reverse_nil, eqb_int, eqb_str, eqb_bl, kc0, kc1, kc2, kc3, kc4, kc5, kc6, kc7, kc8, kc9, kc10, kc11, kc12, kc13, kc14, kc15, kc16, kc17, kc18, kc19, kc20, Int.reduceBEq, Int.reduceMul, Int.reduceSub, Pg.Pool_get_kept, Pg.Pool_set_kept, Pg.Pool_put_0, Pg.Pool_no_stretches, Pg.Pool_no___len__, Pg.Pool_no_has, Pg.Pool_no_number_at, Pg.Pool_no_place_of, Pg.Pool_no_first_from, Pg.Pool_no_joined, Pg.Pool_no_met, Pg.Pool_no_without, Pg.Pool_no_dealt, Pg.Pool_no___eq__, Pg.Pool_no___str__, Pg.Pool_no___repr__, K01.E_law_has_1, h1]
    · simp (disch := omega) only [fnM, eVar, eC, eBin, eUn, aNil, aCons, eTup, eLst, eLstN, eFn, eIf, eFld, eCall, eMeth, eMake, insOf, tst, tstB, MP.tAnd, MP.tOr, MP.tNot, eAnd, eOr, eNot, eChain, truth, optR, Res.bind, Res.bindS, sNil, sSeq, sExp, sRet, sRetN, sIf, sAsg, sSet, sPar, MP.sFld, MP.sFldAug, sFor, nxO, gNm, gFld, gIx, setIx, setFld, gsNil, gsCons, gTp, gLs, MP.iRng1, MP.iRng2, iSeq, iLst, MP.iTup, seqL, seqM, seqT, seqX, eIsi, tyName, isi_ii, isi_ib, isi_bi, isi_bb, isi_ni, isi_si, isi_ss, isi_is, isi_tt, isi_ti, isi_li, pAdd, pSub, pMulA_int, pMul_ok, pDiv_ok, pMod_ok, pNeg, pLt, pLe, pGt, pGe, pEq, pNe, pEqB, sEq, pIs, pIsNot, MP.isNon, pIx, fAbs, fMax2, fMin2, fInt, fLen, gSel, pick, AH.put_g, AH.put_n, AH.new_g, AH.new_n, AH.put_put, AH.new_put, List.length_cons, List.length_nil, List.map_cons, List.map_nil, List.cons_append, List.nil_append, List.append_nil, List.replicate, List.getElem?_cons_zero, List.getElem?_cons_succ, List.getElem?_nil, List.set_cons_zero, List.set_cons_succ, List.flatMap_cons, List.flatMap_nil, List.drop_zero, List.drop_succ_cons, List.drop_nil, List.take_succ_cons, List.take_zero, List.take_nil, List.contains_cons, List.contains_nil, Bool.or_false, Bool.or_true, Bool.true_or, Bool.false_or, Bool.and_true, Bool.and_false, Bool.not_true, Bool.not_false, beq_self_eq_true, Nat.reduceAdd, Nat.reduceSub, Nat.reduceLeDiff, Nat.reduceLT, Nat.reduceEqDiff, Nat.reduceBEq, Int.reduceToNat, ↓reduceIte, reduceIte, Bool.false_eq_true, ne_true_f, decide_eq_true_eq, and_self, and_true, true_and, Nat.zero_le, Option.map_some, Option.map_none, Option.bind_some, Int.reduceLT, Int.reduceLE, Int.reduceNeg, decide_true, decide_false, ixN_0, ixN_1, ixN_2, ixN_3, ixN_m1, atI_1, atI_2, atI_3, eq_self, Option.some.injEq, false_and, atI_0, Nat.zero_add, Nat.add_zero, pow10_18, pow10_10, pow10_11, pow10_6, sRaise, sRaise0, sTryO, noEx, fAny, fAll, blsL, compL, wipeD, CT.set, eComp, eCompN, lstOk, fSum, fTuple, fList, sAug, pAddI, pSubI, pIn, pNotIn, inB, MP.iZip, iEnumA, fSortP, fSortSet, eSl, partD, zipD_ints, pairsL_map, eBm, mAppend, List.any_cons, List.any_nil, List.all_cons, List.all_nil, id, List.length_append, List.zip_cons_cons, List.zip_nil_left, List.reverse_cons, List.reverse_nil, eqb_int, eqb_str, eqb_bl, kc0, kc1, kc2, kc3, kc4, kc5, kc6, kc7, kc8, kc9, kc10, kc11, kc12, kc13, kc14, kc15, kc16, kc17, kc18, kc19, kc20, Int.reduceBEq, Int.reduceMul, Int.reduceSub, Pg.Pool_get_kept, Pg.Pool_set_kept, Pg.Pool_put_0, Pg.Pool_no_stretches, Pg.Pool_no___len__, Pg.Pool_no_has, Pg.Pool_no_number_at, Pg.Pool_no_place_of, Pg.Pool_no_first_from, Pg.Pool_no_joined, Pg.Pool_no_met, Pg.Pool_no_without, Pg.Pool_no_dealt, Pg.Pool_no___eq__, Pg.Pool_no___str__, Pg.Pool_no___repr__, K01.E_law_has_1, h1]⟩) (by simpa using hl)
  rw [filter_true] at C
  refine fnG_same ?_ rfl
  unfold rowsD at C ⊢
  simp (disch := omega) only [fnM, eVar, eC, eBin, eUn, aNil, aCons, eTup, eLst, eLstN, eFn, eIf, eFld, eCall, eMeth, eMake, insOf, tst, tstB, MP.tAnd, MP.tOr, MP.tNot, eAnd, eOr, eNot, eChain, truth, optR, Res.bind, Res.bindS, sNil, sSeq, sExp, sRet, sRetN, sIf, sAsg, sSet, sPar, MP.sFld, MP.sFldAug, sFor, nxO, gNm, gFld, gIx, setIx, setFld, gsNil, gsCons, gTp, gLs, MP.iRng1, MP.iRng2, iSeq, iLst, MP.iTup, seqL, seqM, seqT, seqX, eIsi, tyName, isi_ii, isi_ib, isi_bi, isi_bb, isi_ni, isi_si, isi_ss, isi_is, isi_tt, isi_ti, isi_li, pAdd, pSub, pMulA_int, pMul_ok, pDiv_ok, pMod_ok, pNeg, pLt, pLe, pGt, pGe, pEq, pNe, pEqB, sEq, pIs, pIsNot, MP.isNon, pIx, fAbs, fMax2, fMin2, fInt, fLen, gSel, pick, AH.put_g, AH.put_n, AH.new_g, AH.new_n, AH.put_put, AH.new_put, List.length_cons, List.length_nil, List.map_cons, List.map_nil, List.cons_append, List.nil_append, List.append_nil, List.replicate, List.getElem?_cons_zero, List.getElem?_cons_succ, List.getElem?_nil, List.set_cons_zero, List.set_cons_succ, List.flatMap_cons, List.flatMap_nil, List.drop_zero, List.drop_succ_cons, List.drop_nil, List.take_succ_cons, List.take_zero, List.take_nil, List.contains_cons, List.contains_nil, Bool.or_false, Bool.or_true, Bool.true_or, Bool.false_or, Bool.and_true, Bool.and_false, Bool.not_true, Bool.not_false, beq_self_eq_true, Nat.reduceAdd, Nat.reduceSub, Nat.reduceLeDiff, Nat.reduceLT, Nat.reduceEqDiff, Nat.reduceBEq, Int.reduceToNat, ↓reduceIte, reduceIte, Bool.false_eq_true, ne_true_f, decide_eq_true_eq, and_self, and_true, true_and, Nat.zero_le, Option.map_some, Option.map_none, Option.bind_some, Int.reduceLT, Int.reduceLE, Int.reduceNeg, decide_true, decide_false, ixN_0, ixN_1, ixN_2, ixN_3, ixN_m1, atI_1, atI_2, atI_3, eq_self, Option.some.injEq, false_and, atI_0, Nat.zero_add, Nat.add_zero, pow10_18, pow10_10, pow10_11, pow10_6, sRaise, sRaise0, sTryO, noEx, fAny, fAll, blsL, compL, wipeD, CT.set, eComp, eCompN, lstOk, fSum, fTuple, fList, sAug, pAddI, pSubI, pIn, pNotIn, inB, MP.iZip, iEnumA, fSortP, fSortSet, eSl, partD, zipD_ints, pairsL_map, eBm, mAppend, List.any_cons, List.any_nil, List.all_cons, List.all_nil, id, List.length_append, List.zip_cons_cons, List.zip_nil_left, List.reverse_cons, List.reverse_nil, eqb_int, eqb_str, eqb_bl, kc0, kc1, kc2, kc3, kc4, kc5, kc6, kc7, kc8, kc9, kc10, kc11, kc12, kc13, kc14, kc15, kc16, kc17, kc18, kc19, kc20, Int.reduceBEq, Int.reduceMul, Int.reduceSub, Pg.Pool_get_kept, Pg.Pool_set_kept, Pg.Pool_put_0, Pg.Pool_no_stretches, Pg.Pool_no___len__, Pg.Pool_no_has, Pg.Pool_no_number_at, Pg.Pool_no_place_of, Pg.Pool_no_first_from, Pg.Pool_no_joined, Pg.Pool_no_met, Pg.Pool_no_without, Pg.Pool_no_dealt, Pg.Pool_no___eq__, Pg.Pool_no___str__, Pg.Pool_no___repr__, K01.b_law_has, iSeqT, iAlt, isTxtD, C, blsL_map, List.any_map, List.length_map]
  rfl
theorem lows_len (ps : List PRow) : (lows ps).length ≤ ps.length := by
  unfold lows
  rw [List.length_map]
  exact List.length_filter_le ..
theorem highs_len (ps : List PRow) : (highs ps).length ≤ ps.length := by
  unfold highs
  rw [List.length_map]
  exact List.length_filter_le ..
theorem sortU_len : ∀ l : List Int, (sortU l).length ≤ l.length
  | [] => Nat.le_refl _
  | p :: r => by
    have h : ∀ l, (insU p l).length ≤ l.length + 1 := by
      intro l
      induction l with
      | nil => simp [insU]
      | cons q r ih =>
        unfold insU
        split
        · simp only [List.length_cons]
          omega
        · split <;> simp
    have := h (sortU r)
    have := sortU_len r
    simp only [sortU, List.length_cons]
    omega
theorem fw_len (ps : List PRow) : (fw ps).length ≤ ps.length := by
  unfold fw
  rw [List.length_zip]
  have := sortU_len (lows ps)
  have := lows_len ps
  omega
theorem i_lows (ps : List PRow) : intsL ((ps.filter fun p => !hasB ps (p.1 - 1)).map fun p => D.int p.1) = some (lows ps) := intsL_mapf (fun p : PRow => p.1) _
theorem i_highs (ps : List PRow) : intsL ((ps.filter fun p => !hasB ps (p.2 + 1)).map fun p => D.int p.2) = some (highs ps) := intsL_mapf (fun p : PRow => p.2) _
theorem lawfewest_ok (ps : List PRow) (hl : ps.length < 4000) (h : AH) : K01.f_law_fewest [rowsD ps] h = .ok (rowsD (fw ps)) h := by
  have hh := has_ok ps
  have C1 := compL_map (ok := fun _ => true) (own := [3, 4]) (g := .tup [3, 4]) (t := K01.Q_law_fewest_1) (e := K01.E_law_fewest_1) (s := [some (rowsD ps), none, none, none, none]) (h := h) tupP (fun p => !hasB ps (p.1 - 1)) (fun p => .int p.1) rfl ps [] (fun p _ => ⟨[some (rowsD ps), none, none, some (.int p.1), some (.int p.2)], rfl, by
    simp (disch := omega) only [fnM, eVar, eC, eBin, eUn, aNil, aCons, eTup, eLst, eLstN, eFn, eIf, eFld, eCall, eMeth, eMake, insOf, tst, tstB, MP.tAnd, MP.tOr, MP.tNot, eAnd, eOr, eNot, eChain, truth, optR, Res.bind, Res.bindS, sNil, sSeq, sExp, sRet, sRetN, sIf, sAsg, sSet, sPar, MP.sFld, MP.sFldAug, sFor, nxO, gNm, gFld, gIx, setIx, setFld, gsNil, gsCons, gTp, gLs, MP.iRng1, MP.iRng2, iSeq, iLst, MP.iTup, seqL, seqM, seqT, seqX, eIsi, tyName, isi_ii, isi_ib, isi_bi, isi_bb, isi_ni, isi_si, isi_ss, isi_is, isi_tt, isi_ti, isi_li, pAdd, pSub, pMulA_int, pMul_ok, pDiv_ok, pMod_ok, pNeg, pLt, pLe, pGt, pGe, pEq, pNe, pEqB, sEq, pIs, pIsNot, MP.isNon, pIx, fAbs, fMax2, fMin2, fInt, fLen, gSel, pick, AH.put_g, AH.put_n, AH.new_g, AH.new_n, AH.put_put, AH.new_put, List.length_cons, List.length_nil, List.map_cons, List.map_nil, List.cons_append, List.nil_append, List.append_nil, List.replicate, List.getElem?_cons_zero, List.getElem?_cons_succ, List.getElem?_nil, List.set_cons_zero, List.set_cons_succ, List.flatMap_cons, List.flatMap_nil, List.drop_zero, List.drop_succ_cons, List.drop_nil, List.take_succ_cons, List.take_zero, List.take_nil, List.contains_cons, List.contains_nil, Bool.or_false, Bool.or_true, Bool.true_or, Bool.false_or, Bool.and_true, Bool.and_false, Bool.not_true, Bool.not_false, beq_self_eq_true, Nat.reduceAdd, Nat.reduceSub, Nat.reduceLeDiff, Nat.reduceLT, Nat.reduceEqDiff, Nat.reduceBEq, Int.reduceToNat, ↓reduceIte, reduceIte, Bool.false_eq_true, ne_true_f, decide_eq_true_eq, and_self, and_true, true_and, Nat.zero_le, Option.map_some, Option.map_none, Option.bind_some, Int.reduceLT, Int.reduceLE, Int.reduceNeg, decide_true, decide_false, ixN_0, ixN_1, ixN_2, ixN_3, ixN_m1, atI_1, atI_2, atI_3, eq_self, Option.some.injEq, false_and, atI_0, Nat.zero_add, Nat.add_zero, pow10_18, pow10_10, pow10_11, pow10_6, sRaise, sRaise0, sTryO, noEx, fAny, fAll, blsL, compL, wipeD, CT.set, eComp, eCompN, lstOk, fSum, fTuple, fList, sAug, pAddI, pSubI, pIn, pNotIn, inB, MP.iZip, iEnumA, fSortP, fSortSet, eSl, partD, zipD_ints, pairsL_map, eBm, mAppend, List.any_cons, List.any_nil, List.all_cons, List.all_nil, id, List.length_append, List.zip_cons_cons, List.zip_nil_left, List.reverse_cons, List.reverse_nil, eqb_int, eqb_str, eqb_bl, kc0, kc1, kc2, kc3, kc4, kc5, kc6, kc7, kc8, kc9, kc10, kc11, kc12, kc13, kc14, kc15, kc16, kc17, kc18, kc19, kc20, Int.reduceBEq, Int.reduceMul, Int.reduceSub, Pg.Pool_get_kept, Pg.Pool_set_kept, Pg.Pool_put_0, Pg.Pool_no_stretches, Pg.Pool_no___len__, Pg.Pool_no_has, Pg.Pool_no_number_at, Pg.Pool_no_place_of, Pg.Pool_no_first_from, Pg.Pool_no_joined, Pg.Pool_no_met, Pg.Pool_no_without, Pg.Pool_no_dealt, Pg.Pool_no___eq__, Pg.Pool_no___str__, Pg.Pool_no___repr__, K01.Q_law_fewest_1, hh _ _ (by omega)], fun _ => by simp (disch := omega) only [fnM, eVar, eC, eBin, eUn, aNil, aCons, eTup, eLst, eLstN, eFn, eIf, eFld, eCall, eMeth, eMake, insOf, tst, tstB, MP.tAnd, MP.tOr, MP.tNot, eAnd, eOr, eNot, eChain, truth, optR, Res.bind, Res.bindS, sNil, sSeq, sExp, sRet, sRetN, sIf, sAsg, sSet, sPar, MP.sFld, MP.sFldAug, sFor, nxO, gNm, gFld, gIx, setIx, setFld, gsNil, gsCons, gTp, gLs, MP.iRng1, MP.iRng2, iSeq, iLst, MP.iTup, seqL, seqM, seqT, seqX, eIsi, tyName, isi_ii, isi_ib, isi_bi, isi_bb, isi_ni, isi_si, isi_ss, isi_is, isi_tt, isi_ti, isi_li, pAdd, pSub, pMulA_int, pMul_ok, pDiv_ok, pMod_ok, pNeg, pLt, pLe, pGt, pGe, pEq, pNe, pEqB, sEq, pIs, pIsNot, MP.isNon, pIx, fAbs, fMax2, fMin2, fInt, fLen, gSel, pick, AH.put_g, AH.put_n, AH.new_g, AH.new_n, AH.put_put, AH.new_put, List.length_cons, List.length_nil, List.map_cons, List.map_nil, List.cons_append, List.nil_append, List.append_nil, List.replicate, List.getElem?_cons_zero, List.getElem?_cons_succ, List.getElem?_nil, List.set_cons_zero, List.set_cons_succ, List.flatMap_cons, List.flatMap_nil, List.drop_zero, List.drop_succ_cons, List.drop_nil, List.take_succ_cons, List.take_zero, List.take_nil, List.contains_cons, List.contains_nil, Bool.or_false, Bool.or_true, Bool.true_or, Bool.false_or, Bool.and_true, Bool.and_false, Bool.not_true, Bool.not_false, beq_self_eq_true, Nat.reduceAdd, Nat.reduceSub, Nat.reduceLeDiff, Nat.reduceLT, Nat.reduceEqDiff, Nat.reduceBEq, Int.reduceToNat, ↓reduceIte, reduceIte, Bool.false_eq_true, ne_true_f, decide_eq_true_eq, and_self, and_true, true_and, Nat.zero_le, Option.map_some, Option.map_none, Option.bind_some, Int.reduceLT, Int.reduceLE, Int.reduceNeg, decide_true, decide_false, ixN_0, ixN_1, ixN_2, ixN_3, ixN_m1, atI_1, atI_2, atI_3, eq_self, Option.some.injEq, false_and, atI_0, Nat.zero_add, Nat.add_zero, pow10_18, pow10_10, pow10_11, pow10_6, sRaise, sRaise0, sTryO, noEx, fAny, fAll, blsL, compL, wipeD, CT.set, eComp, eCompN, lstOk, fSum, fTuple, fList, sAug, pAddI, pSubI, pIn, pNotIn, inB, MP.iZip, iEnumA, fSortP, fSortSet, eSl, partD, zipD_ints, pairsL_map, eBm, mAppend, List.any_cons, List.any_nil, List.all_cons, List.all_nil, id, List.length_append, List.zip_cons_cons, List.zip_nil_left, List.reverse_cons, List.reverse_nil, eqb_int, eqb_str, eqb_bl, kc0, kc1, kc2, kc3, kc4, kc5, kc6, kc7, kc8, kc9, kc10, kc11, kc12, kc13, kc14, kc15, kc16, kc17, kc18, kc19, kc20, Int.reduceBEq, Int.reduceMul, Int.reduceSub, Pg.Pool_get_kept, Pg.Pool_set_kept, Pg.Pool_put_0, Pg.Pool_no_stretches, Pg.Pool_no___len__, Pg.Pool_no_has, Pg.Pool_no_number_at, Pg.Pool_no_place_of, Pg.Pool_no_first_from, Pg.Pool_no_joined, Pg.Pool_no_met, Pg.Pool_no_without, Pg.Pool_no_dealt, Pg.Pool_no___eq__, Pg.Pool_no___str__, Pg.Pool_no___repr__, K01.E_law_fewest_1]⟩) (by simp; omega)
  have C2 := fun l => compL_map (ok := fun _ => true) (own := [3, 4]) (g := .tup [3, 4]) (t := K01.Q_law_fewest_2) (e := K01.E_law_fewest_2) (s := [some (rowsD ps), some (.lst l), none, none, none]) (h := h) tupP (fun p => !hasB ps (p.2 + 1)) (fun p => .int p.2) rfl ps [] (fun p _ => ⟨[some (rowsD ps), some (.lst l), none, some (.int p.1), some (.int p.2)], rfl, by
    simp (disch := omega) only [fnM, eVar, eC, eBin, eUn, aNil, aCons, eTup, eLst, eLstN, eFn, eIf, eFld, eCall, eMeth, eMake, insOf, tst, tstB, MP.tAnd, MP.tOr, MP.tNot, eAnd, eOr, eNot, eChain, truth, optR, Res.bind, Res.bindS, sNil, sSeq, sExp, sRet, sRetN, sIf, sAsg, sSet, sPar, MP.sFld, MP.sFldAug, sFor, nxO, gNm, gFld, gIx, setIx, setFld, gsNil, gsCons, gTp, gLs, MP.iRng1, MP.iRng2, iSeq, iLst, MP.iTup, seqL, seqM, seqT, seqX, eIsi, tyName, isi_ii, isi_ib, isi_bi, isi_bb, isi_ni, isi_si, isi_ss, isi_is, isi_tt, isi_ti, isi_li, pAdd, pSub, pMulA_int, pMul_ok, pDiv_ok, pMod_ok, pNeg, pLt, pLe, pGt, pGe, pEq, pNe, pEqB, sEq, pIs, pIsNot, MP.isNon, pIx, fAbs, fMax2, fMin2, fInt, fLen, gSel, pick, AH.put_g, AH.put_n, AH.new_g, AH.new_n, AH.put_put, AH.new_put, List.length_cons, List.length_nil, List.map_cons, List.map_nil, List.cons_append, List.nil_append, List.append_nil, List.replicate, List.getElem?_cons_zero, List.getElem?_cons_succ, List.getElem?_nil, List.set_cons_zero, List.set_cons_succ, List.flatMap_cons, List.flatMap_nil, List.drop_zero, List.drop_succ_cons, List.drop_nil, List.take_succ_cons, List.take_zero, List.take_nil, List.contains_cons, List.contains_nil, Bool.or_false, Bool.or_true, Bool.true_or, Bool.false_or, Bool.and_true, Bool.and_false, Bool.not_true, Bool.not_false, beq_self_eq_true, Nat.reduceAdd, Nat.reduceSub, Nat.reduceLeDiff, Nat.reduceLT, Nat.reduceEqDiff, Nat.reduceBEq, Int.reduceToNat, ↓reduceIte, reduceIte, Bool.false_eq_true, ne_true_f, decide_eq_true_eq, and_self, and_true, true_and, Nat.zero_le, Option.map_some, Option.map_none, Option.bind_some, Int.reduceLT, Int.reduceLE, Int.reduceNeg, decide_true, decide_false, ixN_0, ixN_1, ixN_2, ixN_3, ixN_m1, atI_1, atI_2, atI_3, eq_self, Option.some.injEq, false_and, atI_0, Nat.zero_add, Nat.add_zero, pow10_18, pow10_10, pow10_11, pow10_6, sRaise, sRaise0, sTryO, noEx, fAny, fAll, blsL, compL, wipeD, CT.set, eComp, eCompN, lstOk, fSum, fTuple, fList, sAug, pAddI, pSubI, pIn, pNotIn, inB, MP.iZip, iEnumA, fSortP, fSortSet, eSl, partD, zipD_ints, pairsL_map, eBm, mAppend, List.any_cons, List.any_nil, List.all_cons, List.all_nil, id, List.length_append, List.zip_cons_cons, List.zip_nil_left, List.reverse_cons, List.reverse_nil, eqb_int, eqb_str, eqb_bl, kc0, kc1, kc2, kc3, kc4, kc5, kc6, kc7, kc8, kc9, kc10, kc11, kc12, kc13, kc14, kc15, kc16, kc17, kc18, kc19, kc20, Int.reduceBEq, Int.reduceMul, Int.reduceSub, Pg.Pool_get_kept, Pg.Pool_set_kept, Pg.Pool_put_0, Pg.Pool_no_stretches, Pg.Pool_no___len__, Pg.Pool_no_has, Pg.Pool_no_number_at, Pg.Pool_no_place_of, Pg.Pool_no_first_from, Pg.Pool_no_joined, Pg.Pool_no_met, Pg.Pool_no_without, Pg.Pool_no_dealt, Pg.Pool_no___eq__, Pg.Pool_no___str__, Pg.Pool_no___repr__, K01.Q_law_fewest_2, hh _ _ (by omega)], fun _ => by simp (disch := omega) only [fnM, eVar, eC, eBin, eUn, aNil, aCons, eTup, eLst, eLstN, eFn, eIf, eFld, eCall, eMeth, eMake, insOf, tst, tstB, MP.tAnd, MP.tOr, MP.tNot, eAnd, eOr, eNot, eChain, truth, optR, Res.bind, Res.bindS, sNil, sSeq, sExp, sRet, sRetN, sIf, sAsg, sSet, sPar, MP.sFld, MP.sFldAug, sFor, nxO, gNm, gFld, gIx, setIx, setFld, gsNil, gsCons, gTp, gLs, MP.iRng1, MP.iRng2, iSeq, iLst, MP.iTup, seqL, seqM, seqT, seqX, eIsi, tyName, isi_ii, isi_ib, isi_bi, isi_bb, isi_ni, isi_si, isi_ss, isi_is, isi_tt, isi_ti, isi_li, pAdd, pSub, pMulA_int, pMul_ok, pDiv_ok, pMod_ok, pNeg, pLt, pLe, pGt, pGe, pEq, pNe, pEqB, sEq, pIs, pIsNot, MP.isNon, pIx, fAbs, fMax2, fMin2, fInt, fLen, gSel, pick, AH.put_g, AH.put_n, AH.new_g, AH.new_n, AH.put_put, AH.new_put, List.length_cons, List.length_nil, List.map_cons, List.map_nil, List.cons_append, List.nil_append, List.append_nil, List.replicate, List.getElem?_cons_zero, List.getElem?_cons_succ, List.getElem?_nil, List.set_cons_zero, List.set_cons_succ, List.flatMap_cons, List.flatMap_nil, List.drop_zero, List.drop_succ_cons, List.drop_nil, List.take_succ_cons, List.take_zero, List.take_nil, List.contains_cons, List.contains_nil, Bool.or_false, Bool.or_true, Bool.true_or, Bool.false_or, Bool.and_true, Bool.and_false, Bool.not_true, Bool.not_false, beq_self_eq_true, Nat.reduceAdd, Nat.reduceSub, Nat.reduceLeDiff, Nat.reduceLT, Nat.reduceEqDiff, Nat.reduceBEq, Int.reduceToNat, ↓reduceIte, reduceIte, Bool.false_eq_true, ne_true_f, decide_eq_true_eq, and_self, and_true, true_and, Nat.zero_le, Option.map_some, Option.map_none, Option.bind_some, Int.reduceLT, Int.reduceLE, Int.reduceNeg, decide_true, decide_false, ixN_0, ixN_1, ixN_2, ixN_3, ixN_m1, atI_1, atI_2, atI_3, eq_self, Option.some.injEq, false_and, atI_0, Nat.zero_add, Nat.add_zero, pow10_18, pow10_10, pow10_11, pow10_6, sRaise, sRaise0, sTryO, noEx, fAny, fAll, blsL, compL, wipeD, CT.set, eComp, eCompN, lstOk, fSum, fTuple, fList, sAug, pAddI, pSubI, pIn, pNotIn, inB, MP.iZip, iEnumA, fSortP, fSortSet, eSl, partD, zipD_ints, pairsL_map, eBm, mAppend, List.any_cons, List.any_nil, List.all_cons, List.all_nil, id, List.length_append, List.zip_cons_cons, List.zip_nil_left, List.reverse_cons, List.reverse_nil, eqb_int, eqb_str, eqb_bl, kc0, kc1, kc2, kc3, kc4, kc5, kc6, kc7, kc8, kc9, kc10, kc11, kc12, kc13, kc14, kc15, kc16, kc17, kc18, kc19, kc20, Int.reduceBEq, Int.reduceMul, Int.reduceSub, Pg.Pool_get_kept, Pg.Pool_set_kept, Pg.Pool_put_0, Pg.Pool_no_stretches, Pg.Pool_no___len__, Pg.Pool_no_has, Pg.Pool_no_number_at, Pg.Pool_no_place_of, Pg.Pool_no_first_from, Pg.Pool_no_joined, Pg.Pool_no_met, Pg.Pool_no_without, Pg.Pool_no_dealt, Pg.Pool_no___eq__, Pg.Pool_no___str__, Pg.Pool_no___repr__, K01.E_law_fewest_2]⟩) (by simp; omega)
  have C3 := fun l m => compL_map (ok := fun h => lstOk (.lst l) l h && lstOk (.lst m) m h) (own := [3, 4]) (g := .tup [3, 4]) (t := tYesD) (e := K01.E_law_fewest_3) (s := [some (rowsD ps), some (.lst l), some (.lst m), none, none]) (h := h) tupP (fun _ => true) (fun p => .tup [.int p.1, .int p.2]) rfl (fw ps) [] (fun p _ => ⟨[some (rowsD ps), some (.lst l), some (.lst m), some (.int p.1), some (.int p.2)], rfl, rfl, fun _ => by
    simp (disch := omega) only [fnM, eVar, eC, eBin, eUn, aNil, aCons, eTup, eLst, eLstN, eFn, eIf, eFld, eCall, eMeth, eMake, insOf, tst, tstB, MP.tAnd, MP.tOr, MP.tNot, eAnd, eOr, eNot, eChain, truth, optR, Res.bind, Res.bindS, sNil, sSeq, sExp, sRet, sRetN, sIf, sAsg, sSet, sPar, MP.sFld, MP.sFldAug, sFor, nxO, gNm, gFld, gIx, setIx, setFld, gsNil, gsCons, gTp, gLs, MP.iRng1, MP.iRng2, iSeq, iLst, MP.iTup, seqL, seqM, seqT, seqX, eIsi, tyName, isi_ii, isi_ib, isi_bi, isi_bb, isi_ni, isi_si, isi_ss, isi_is, isi_tt, isi_ti, isi_li, pAdd, pSub, pMulA_int, pMul_ok, pDiv_ok, pMod_ok, pNeg, pLt, pLe, pGt, pGe, pEq, pNe, pEqB, sEq, pIs, pIsNot, MP.isNon, pIx, fAbs, fMax2, fMin2, fInt, fLen, gSel, pick, AH.put_g, AH.put_n, AH.new_g, AH.new_n, AH.put_put, AH.new_put, List.length_cons, List.length_nil, List.map_cons, List.map_nil, List.cons_append, List.nil_append, List.append_nil, List.replicate, List.getElem?_cons_zero, List.getElem?_cons_succ, List.getElem?_nil, List.set_cons_zero, List.set_cons_succ, List.flatMap_cons, List.flatMap_nil, List.drop_zero, List.drop_succ_cons, List.drop_nil, List.take_succ_cons, List.take_zero, List.take_nil, List.contains_cons, List.contains_nil, Bool.or_false, Bool.or_true, Bool.true_or, Bool.false_or, Bool.and_true, Bool.and_false, Bool.not_true, Bool.not_false, beq_self_eq_true, Nat.reduceAdd, Nat.reduceSub, Nat.reduceLeDiff, Nat.reduceLT, Nat.reduceEqDiff, Nat.reduceBEq, Int.reduceToNat, ↓reduceIte, reduceIte, Bool.false_eq_true, ne_true_f, decide_eq_true_eq, and_self, and_true, true_and, Nat.zero_le, Option.map_some, Option.map_none, Option.bind_some, Int.reduceLT, Int.reduceLE, Int.reduceNeg, decide_true, decide_false, ixN_0, ixN_1, ixN_2, ixN_3, ixN_m1, atI_1, atI_2, atI_3, eq_self, Option.some.injEq, false_and, atI_0, Nat.zero_add, Nat.add_zero, pow10_18, pow10_10, pow10_11, pow10_6, sRaise, sRaise0, sTryO, noEx, fAny, fAll, blsL, compL, wipeD, CT.set, eComp, eCompN, lstOk, fSum, fTuple, fList, sAug, pAddI, pSubI, pIn, pNotIn, inB, MP.iZip, iEnumA, fSortP, fSortSet, eSl, partD, zipD_ints, pairsL_map, eBm, mAppend, List.any_cons, List.any_nil, List.all_cons, List.all_nil, id, List.length_append, List.zip_cons_cons, List.zip_nil_left, List.reverse_cons, List.reverse_nil, eqb_int, eqb_str, eqb_bl, kc0, kc1, kc2, kc3, kc4, kc5, kc6, kc7, kc8, kc9, kc10, kc11, kc12, kc13, kc14, kc15, kc16, kc17, kc18, kc19, kc20, Int.reduceBEq, Int.reduceMul, Int.reduceSub, Pg.Pool_get_kept, Pg.Pool_set_kept, Pg.Pool_put_0, Pg.Pool_no_stretches, Pg.Pool_no___len__, Pg.Pool_no_has, Pg.Pool_no_number_at, Pg.Pool_no_place_of, Pg.Pool_no_first_from, Pg.Pool_no_joined, Pg.Pool_no_met, Pg.Pool_no_without, Pg.Pool_no_dealt, Pg.Pool_no___eq__, Pg.Pool_no___str__, Pg.Pool_no___repr__, K01.E_law_fewest_3]⟩) (by have := fw_len ps; simp; omega)
  have i1 := i_lows ps
  have i2 := i_highs ps
  have g1 : (lows ps).length < 4000 := by have := lows_len ps; omega
  have g2 : (highs ps).length < 4000 := by have := highs_len ps; omega
  have z : zipD ((sortU (lows ps)).map .int) ((sortU (highs ps)).map .int) = (fw ps).map tupP := zipD_ints _ _
  simp only [filter_true] at C3
  refine fnG_same ?_ (rows_und _ _)
  unfold rowsD at C1 C2 C3 ⊢
  simp (disch := omega) only [fnM, eVar, eC, eBin, eUn, aNil, aCons, eTup, eLst, eLstN, eFn, eIf, eFld, eCall, eMeth, eMake, insOf, tst, tstB, MP.tAnd, MP.tOr, MP.tNot, eAnd, eOr, eNot, eChain, truth, optR, Res.bind, Res.bindS, sNil, sSeq, sExp, sRet, sRetN, sIf, sAsg, sSet, sPar, MP.sFld, MP.sFldAug, sFor, nxO, gNm, gFld, gIx, setIx, setFld, gsNil, gsCons, gTp, gLs, MP.iRng1, MP.iRng2, iSeq, iLst, MP.iTup, seqL, seqM, seqT, seqX, eIsi, tyName, isi_ii, isi_ib, isi_bi, isi_bb, isi_ni, isi_si, isi_ss, isi_is, isi_tt, isi_ti, isi_li, pAdd, pSub, pMulA_int, pMul_ok, pDiv_ok, pMod_ok, pNeg, pLt, pLe, pGt, pGe, pEq, pNe, pEqB, sEq, pIs, pIsNot, MP.isNon, pIx, fAbs, fMax2, fMin2, fInt, fLen, gSel, pick, AH.put_g, AH.put_n, AH.new_g, AH.new_n, AH.put_put, AH.new_put, List.length_cons, List.length_nil, List.map_cons, List.map_nil, List.cons_append, List.nil_append, List.append_nil, List.replicate, List.getElem?_cons_zero, List.getElem?_cons_succ, List.getElem?_nil, List.set_cons_zero, List.set_cons_succ, List.flatMap_cons, List.flatMap_nil, List.drop_zero, List.drop_succ_cons, List.drop_nil, List.take_succ_cons, List.take_zero, List.take_nil, List.contains_cons, List.contains_nil, Bool.or_false, Bool.or_true, Bool.true_or, Bool.false_or, Bool.and_true, Bool.and_false, Bool.not_true, Bool.not_false, beq_self_eq_true, Nat.reduceAdd, Nat.reduceSub, Nat.reduceLeDiff, Nat.reduceLT, Nat.reduceEqDiff, Nat.reduceBEq, Int.reduceToNat, ↓reduceIte, reduceIte, Bool.false_eq_true, ne_true_f, decide_eq_true_eq, and_self, and_true, true_and, Nat.zero_le, Option.map_some, Option.map_none, Option.bind_some, Int.reduceLT, Int.reduceLE, Int.reduceNeg, decide_true, decide_false, ixN_0, ixN_1, ixN_2, ixN_3, ixN_m1, atI_1, atI_2, atI_3, eq_self, Option.some.injEq, false_and, atI_0, Nat.zero_add, Nat.add_zero, pow10_18, pow10_10, pow10_11, pow10_6, sRaise, sRaise0, sTryO, noEx, fAny, fAll, blsL, compL, wipeD, CT.set, eComp, eCompN, fSum, fTuple, fList, sAug, pAddI, pSubI, pIn, pNotIn, inB, MP.iZip, iEnumA, fSortP, fSortSet, eSl, partD, pairsL_map, eBm, mAppend, List.any_cons, List.any_nil, List.all_cons, List.all_nil, id, List.length_append, List.zip_cons_cons, List.zip_nil_left, List.reverse_cons, List.reverse_nil, eqb_int, eqb_str, eqb_bl, kc0, kc1, kc2, kc3, kc4, kc5, kc6, kc7, kc8, kc9, kc10, kc11, kc12, kc13, kc14, kc15, kc16, kc17, kc18, kc19, kc20, Int.reduceBEq, Int.reduceMul, Int.reduceSub, Pg.Pool_get_kept, Pg.Pool_set_kept, Pg.Pool_put_0, Pg.Pool_no_stretches, Pg.Pool_no___len__, Pg.Pool_no_has, Pg.Pool_no_number_at, Pg.Pool_no_place_of, Pg.Pool_no_first_from, Pg.Pool_no_joined, Pg.Pool_no_met, Pg.Pool_no_without, Pg.Pool_no_dealt, Pg.Pool_no___eq__, Pg.Pool_no___str__, Pg.Pool_no___repr__, K01.b_law_fewest, iSeqT, iAlt, isTxtD, iZipA, C1, C2, i1, i2, g1, g2, z, seqL]
  simp only [C3, List.nil_append, Res.bind, seqT, seqL, fTuple]
  rfl
def Good (ps : List PRow) : Prop := ∀ p ∈ ps, 0 ≤ p.1 ∧ p.1 ≤ p.2 ∧ p.2 ≤ 999999
theorem Good.val {ps : List PRow} (g : Good ps) : Val ps := fun p hp => (g p hp).2.1
theorem within_eq (x lo hi : Int) (h : AH) : Pg.f_is_within [.int x, .int lo, .int hi] h = .ok (.bl (decide (lo ≤ x ∧ x ≤ hi))) h := by
  have w : Pg.f_is_whole [.int x] h = .ok (.bl true) h := by
    refine fnG_same ?_ rfl
    simp (disch := omega) only [fnM, eVar, eC, eBin, eUn, aNil, aCons, eTup, eLst, eLstN, eFn, eIf, eFld, eCall, eMeth, eMake, insOf, tst, tstB, MP.tAnd, MP.tOr, MP.tNot, eAnd, eOr, eNot, eChain, truth, optR, Res.bind, Res.bindS, sNil, sSeq, sExp, sRet, sRetN, sIf, sAsg, sSet, sPar, MP.sFld, MP.sFldAug, sFor, nxO, gNm, gFld, gIx, setIx, setFld, gsNil, gsCons, gTp, gLs, MP.iRng1, MP.iRng2, iSeq, iLst, MP.iTup, seqL, seqM, seqT, seqX, eIsi, tyName, isi_ii, isi_ib, isi_bi, isi_bb, isi_ni, isi_si, isi_ss, isi_is, isi_tt, isi_ti, isi_li, pAdd, pSub, pMulA_int, pMul_ok, pDiv_ok, pMod_ok, pNeg, pLt, pLe, pGt, pGe, pEq, pNe, pEqB, sEq, pIs, pIsNot, MP.isNon, pIx, fAbs, fMax2, fMin2, fInt, fLen, gSel, pick, AH.put_g, AH.put_n, AH.new_g, AH.new_n, AH.put_put, AH.new_put, List.length_cons, List.length_nil, List.map_cons, List.map_nil, List.cons_append, List.nil_append, List.append_nil, List.replicate, List.getElem?_cons_zero, List.getElem?_cons_succ, List.getElem?_nil, List.set_cons_zero, List.set_cons_succ, List.flatMap_cons, List.flatMap_nil, List.drop_zero, List.drop_succ_cons, List.drop_nil, List.take_succ_cons, List.take_zero, List.take_nil, List.contains_cons, List.contains_nil, Bool.or_false, Bool.or_true, Bool.true_or, Bool.false_or, Bool.and_true, Bool.and_false, Bool.not_true, Bool.not_false, beq_self_eq_true, Nat.reduceAdd, Nat.reduceSub, Nat.reduceLeDiff, Nat.reduceLT, Nat.reduceEqDiff, Nat.reduceBEq, Int.reduceToNat, ↓reduceIte, reduceIte, Bool.false_eq_true, ne_true_f, decide_eq_true_eq, and_self, and_true, true_and, Nat.zero_le, Option.map_some, Option.map_none, Option.bind_some, Int.reduceLT, Int.reduceLE, Int.reduceNeg, decide_true, decide_false, ixN_0, ixN_1, ixN_2, ixN_3, ixN_m1, atI_1, atI_2, atI_3, eq_self, Option.some.injEq, false_and, atI_0, Nat.zero_add, Nat.add_zero, pow10_18, pow10_10, pow10_11, pow10_6, sRaise, sRaise0, sTryO, noEx, fAny, fAll, blsL, compL, wipeD, CT.set, eComp, eCompN, lstOk, fSum, fTuple, fList, sAug, pAddI, pSubI, pIn, pNotIn, inB, MP.iZip, iEnumA, fSortP, fSortSet, eSl, partD, zipD_ints, pairsL_map, eBm, mAppend, List.any_cons, List.any_nil, List.all_cons, List.all_nil, id, List.length_append, List.zip_cons_cons, List.zip_nil_left, List.reverse_cons, List.reverse_nil, eqb_int, eqb_str, eqb_bl, kc0, kc1, kc2, kc3, kc4, kc5, kc6, kc7, kc8, kc9, kc10, kc11, kc12, kc13, kc14, kc15, kc16, kc17, kc18, kc19, kc20, Int.reduceBEq, Int.reduceMul, Int.reduceSub, Pg.Pool_get_kept, Pg.Pool_set_kept, Pg.Pool_put_0, Pg.Pool_no_stretches, Pg.Pool_no___len__, Pg.Pool_no_has, Pg.Pool_no_number_at, Pg.Pool_no_place_of, Pg.Pool_no_first_from, Pg.Pool_no_joined, Pg.Pool_no_met, Pg.Pool_no_without, Pg.Pool_no_dealt, Pg.Pool_no___eq__, Pg.Pool_no___str__, Pg.Pool_no___repr__, Pg.b_is_whole]
  refine fnG_same ?_ rfl
  by_cases h1 : lo ≤ x
  · simp (disch := omega) only [fnM, eVar, eC, eBin, eUn, aNil, aCons, eTup, eLst, eLstN, eFn, eIf, eFld, eCall, eMeth, eMake, insOf, tst, tstB, MP.tAnd, MP.tOr, MP.tNot, eAnd, eOr, eNot, eChain, truth, optR, Res.bind, Res.bindS, sNil, sSeq, sExp, sRet, sRetN, sIf, sAsg, sSet, sPar, MP.sFld, MP.sFldAug, sFor, nxO, gNm, gFld, gIx, setIx, setFld, gsNil, gsCons, gTp, gLs, MP.iRng1, MP.iRng2, iSeq, iLst, MP.iTup, seqL, seqM, seqT, seqX, eIsi, tyName, isi_ii, isi_ib, isi_bi, isi_bb, isi_ni, isi_si, isi_ss, isi_is, isi_tt, isi_ti, isi_li, pAdd, pSub, pMulA_int, pMul_ok, pDiv_ok, pMod_ok, pNeg, pLt, pLe, pGt, pGe, pEq, pNe, pEqB, sEq, pIs, pIsNot, MP.isNon, pIx, fAbs, fMax2, fMin2, fInt, fLen, gSel, pick, AH.put_g, AH.put_n, AH.new_g, AH.new_n, AH.put_put, AH.new_put, List.length_cons, List.length_nil, List.map_cons, List.map_nil, List.cons_append, List.nil_append, List.append_nil, List.replicate, List.getElem?_cons_zero, List.getElem?_cons_succ, List.getElem?_nil, List.set_cons_zero, List.set_cons_succ, List.flatMap_cons, List.flatMap_nil, List.drop_zero, List.drop_succ_cons, List.drop_nil, List.take_succ_cons, List.take_zero, List.take_nil, List.contains_cons, List.contains_nil, Bool.or_false, Bool.or_true, Bool.true_or, Bool.false_or, Bool.and_true, Bool.and_false, Bool.not_true, Bool.not_false, beq_self_eq_true, Nat.reduceAdd, Nat.reduceSub, Nat.reduceLeDiff, Nat.reduceLT, Nat.reduceEqDiff, Nat.reduceBEq, Int.reduceToNat, ↓reduceIte, reduceIte, Bool.false_eq_true, ne_true_f, decide_eq_true_eq, and_self, and_true, true_and, Nat.zero_le, Option.map_some, Option.map_none, Option.bind_some, Int.reduceLT, Int.reduceLE, Int.reduceNeg, decide_true, decide_false, ixN_0, ixN_1, ixN_2, ixN_3, ixN_m1, atI_1, atI_2, atI_3, eq_self, Option.some.injEq, false_and, atI_0, Nat.zero_add, Nat.add_zero, pow10_18, pow10_10, pow10_11, pow10_6, sRaise, sRaise0, sTryO, noEx, fAny, fAll, blsL, compL, wipeD, CT.set, eComp, eCompN, lstOk, fSum, fTuple, fList, sAug, pAddI, pSubI, pIn, pNotIn, inB, MP.iZip, iEnumA, fSortP, fSortSet, eSl, partD, zipD_ints, pairsL_map, eBm, mAppend, List.any_cons, List.any_nil, List.all_cons, List.all_nil, id, List.length_append, List.zip_cons_cons, List.zip_nil_left, List.reverse_cons, List.reverse_nil, eqb_int, eqb_str, eqb_bl, kc0, kc1, kc2, kc3, kc4, kc5, kc6, kc7, kc8, kc9, kc10, kc11, kc12, kc13, kc14, kc15, kc16, kc17, kc18, kc19, kc20, Int.reduceBEq, Int.reduceMul, Int.reduceSub, Pg.Pool_get_kept, Pg.Pool_set_kept, Pg.Pool_put_0, Pg.Pool_no_stretches, Pg.Pool_no___len__, Pg.Pool_no_has, Pg.Pool_no_number_at, Pg.Pool_no_place_of, Pg.Pool_no_first_from, Pg.Pool_no_joined, Pg.Pool_no_met, Pg.Pool_no_without, Pg.Pool_no_dealt, Pg.Pool_no___eq__, Pg.Pool_no___str__, Pg.Pool_no___repr__, Pg.b_is_within, w, h1]
  · simp (disch := omega) only [fnM, eVar, eC, eBin, eUn, aNil, aCons, eTup, eLst, eLstN, eFn, eIf, eFld, eCall, eMeth, eMake, insOf, tst, tstB, MP.tAnd, MP.tOr, MP.tNot, eAnd, eOr, eNot, eChain, truth, optR, Res.bind, Res.bindS, sNil, sSeq, sExp, sRet, sRetN, sIf, sAsg, sSet, sPar, MP.sFld, MP.sFldAug, sFor, nxO, gNm, gFld, gIx, setIx, setFld, gsNil, gsCons, gTp, gLs, MP.iRng1, MP.iRng2, iSeq, iLst, MP.iTup, seqL, seqM, seqT, seqX, eIsi, tyName, isi_ii, isi_ib, isi_bi, isi_bb, isi_ni, isi_si, isi_ss, isi_is, isi_tt, isi_ti, isi_li, pAdd, pSub, pMulA_int, pMul_ok, pDiv_ok, pMod_ok, pNeg, pLt, pLe, pGt, pGe, pEq, pNe, pEqB, sEq, pIs, pIsNot, MP.isNon, pIx, fAbs, fMax2, fMin2, fInt, fLen, gSel, pick, AH.put_g, AH.put_n, AH.new_g, AH.new_n, AH.put_put, AH.new_put, List.length_cons, List.length_nil, List.map_cons, List.map_nil, List.cons_append, List.nil_append, List.append_nil, List.replicate, List.getElem?_cons_zero, List.getElem?_cons_succ, List.getElem?_nil, List.set_cons_zero, List.set_cons_succ, List.flatMap_cons, List.flatMap_nil, List.drop_zero, List.drop_succ_cons, List.drop_nil, List.take_succ_cons, List.take_zero, List.take_nil, List.contains_cons, List.contains_nil, Bool.or_false, Bool.or_true, Bool.true_or, Bool.false_or, Bool.and_true, Bool.and_false, Bool.not_true, Bool.not_false, beq_self_eq_true, Nat.reduceAdd, Nat.reduceSub, Nat.reduceLeDiff, Nat.reduceLT, Nat.reduceEqDiff, Nat.reduceBEq, Int.reduceToNat, ↓reduceIte, reduceIte, Bool.false_eq_true, ne_true_f, decide_eq_true_eq, and_self, and_true, true_and, Nat.zero_le, Option.map_some, Option.map_none, Option.bind_some, Int.reduceLT, Int.reduceLE, Int.reduceNeg, decide_true, decide_false, ixN_0, ixN_1, ixN_2, ixN_3, ixN_m1, atI_1, atI_2, atI_3, eq_self, Option.some.injEq, false_and, atI_0, Nat.zero_add, Nat.add_zero, pow10_18, pow10_10, pow10_11, pow10_6, sRaise, sRaise0, sTryO, noEx, fAny, fAll, blsL, compL, wipeD, CT.set, eComp, eCompN, lstOk, fSum, fTuple, fList, sAug, pAddI, pSubI, pIn, pNotIn, inB, MP.iZip, iEnumA, fSortP, fSortSet, eSl, partD, zipD_ints, pairsL_map, eBm, mAppend, List.any_cons, List.any_nil, List.all_cons, List.all_nil, id, List.length_append, List.zip_cons_cons, List.zip_nil_left, List.reverse_cons, List.reverse_nil, eqb_int, eqb_str, eqb_bl, kc0, kc1, kc2, kc3, kc4, kc5, kc6, kc7, kc8, kc9, kc10, kc11, kc12, kc13, kc14, kc15, kc16, kc17, kc18, kc19, kc20, Int.reduceBEq, Int.reduceMul, Int.reduceSub, Pg.Pool_get_kept, Pg.Pool_set_kept, Pg.Pool_put_0, Pg.Pool_no_stretches, Pg.Pool_no___len__, Pg.Pool_no_has, Pg.Pool_no_number_at, Pg.Pool_no_place_of, Pg.Pool_no_first_from, Pg.Pool_no_joined, Pg.Pool_no_met, Pg.Pool_no_without, Pg.Pool_no_dealt, Pg.Pool_no___eq__, Pg.Pool_no___str__, Pg.Pool_no___repr__, Pg.b_is_within, w, h1]
theorem stretch_ok {p : PRow} (g : 0 ≤ p.1 ∧ p.1 ≤ p.2 ∧ p.2 ≤ 999999) (h : AH) : Pg.f_is_stretch [tupP p] h = .ok (.bl true) h := by
  have h1 : decide (0 ≤ p.1 ∧ p.1 ≤ 999999) = true := decide_eq_true (by omega)
  have h2 : decide (0 ≤ p.2 ∧ p.2 ≤ 999999) = true := decide_eq_true (by omega)
  have h3 : decide (p.1 ≤ p.2) = true := decide_eq_true g.2.1
  refine fnG_same ?_ rfl
  unfold tupP
  simp (disch := omega) only [fnM, eVar, eC, eBin, eUn, aNil, aCons, eTup, eLst, eLstN, eFn, eIf, eFld, eCall, eMeth, eMake, insOf, tst, tstB, MP.tAnd, MP.tOr, MP.tNot, eAnd, eOr, eNot, eChain, truth, optR, Res.bind, Res.bindS, sNil, sSeq, sExp, sRet, sRetN, sIf, sAsg, sSet, sPar, MP.sFld, MP.sFldAug, sFor, nxO, gNm, gFld, gIx, setIx, setFld, gsNil, gsCons, gTp, gLs, MP.iRng1, MP.iRng2, iSeq, iLst, MP.iTup, seqL, seqM, seqT, seqX, eIsi, tyName, isi_ii, isi_ib, isi_bi, isi_bb, isi_ni, isi_si, isi_ss, isi_is, isi_tt, isi_ti, isi_li, pAdd, pSub, pMulA_int, pMul_ok, pDiv_ok, pMod_ok, pNeg, pLt, pLe, pGt, pGe, pEq, pNe, pEqB, sEq, pIs, pIsNot, MP.isNon, pIx, fAbs, fMax2, fMin2, fInt, fLen, gSel, pick, AH.put_g, AH.put_n, AH.new_g, AH.new_n, AH.put_put, AH.new_put, List.length_cons, List.length_nil, List.map_cons, List.map_nil, List.cons_append, List.nil_append, List.append_nil, List.replicate, List.getElem?_cons_zero, List.getElem?_cons_succ, List.getElem?_nil, List.set_cons_zero, List.set_cons_succ, List.flatMap_cons, List.flatMap_nil, List.drop_zero, List.drop_succ_cons, List.drop_nil, List.take_succ_cons, List.take_zero, List.take_nil, List.contains_cons, List.contains_nil, Bool.or_false, Bool.or_true, Bool.true_or, Bool.false_or, Bool.and_true, Bool.and_false, Bool.not_true, Bool.not_false, beq_self_eq_true, Nat.reduceAdd, Nat.reduceSub, Nat.reduceLeDiff, Nat.reduceLT, Nat.reduceEqDiff, Nat.reduceBEq, Int.reduceToNat, ↓reduceIte, reduceIte, Bool.false_eq_true, ne_true_f, decide_eq_true_eq, and_self, and_true, true_and, Nat.zero_le, Option.map_some, Option.map_none, Option.bind_some, Int.reduceLT, Int.reduceLE, Int.reduceNeg, decide_true, decide_false, ixN_0, ixN_1, ixN_2, ixN_3, ixN_m1, atI_1, atI_2, atI_3, eq_self, Option.some.injEq, false_and, atI_0, Nat.zero_add, Nat.add_zero, pow10_18, pow10_10, pow10_11, pow10_6, sRaise, sRaise0, sTryO, noEx, fAny, fAll, blsL, compL, wipeD, CT.set, eComp, eCompN, lstOk, fSum, fTuple, fList, sAug, pAddI, pSubI, pIn, pNotIn, inB, MP.iZip, iEnumA, fSortP, fSortSet, eSl, partD, zipD_ints, pairsL_map, eBm, mAppend, List.any_cons, List.any_nil, List.all_cons, List.all_nil, id, List.length_append, List.zip_cons_cons, List.zip_nil_left, List.reverse_cons, List.reverse_nil, eqb_int, eqb_str, eqb_bl, kc0, kc1, kc2, kc3, kc4, kc5, kc6, kc7, kc8, kc9, kc10, kc11, kc12, kc13, kc14, kc15, kc16, kc17, kc18, kc19, kc20, Int.reduceBEq, Int.reduceMul, Int.reduceSub, Pg.Pool_get_kept, Pg.Pool_set_kept, Pg.Pool_put_0, Pg.Pool_no_stretches, Pg.Pool_no___len__, Pg.Pool_no_has, Pg.Pool_no_number_at, Pg.Pool_no_place_of, Pg.Pool_no_first_from, Pg.Pool_no_joined, Pg.Pool_no_met, Pg.Pool_no_without, Pg.Pool_no_dealt, Pg.Pool_no___eq__, Pg.Pool_no___str__, Pg.Pool_no___repr__, Pg.b_is_stretch, Pg.E_is_stretch_1, iSeqT, iAlt, isTxtD, tYesD, within_eq, h1, h2, h3]
theorem gSq_tup {n : Nat} {gs : MGs} {xs : List D} {s : Sl} {h : AH} : gSq n gs (.tup xs) s h = gTp n gs (.tup xs) s h := rfl
theorem look_ok {ps : List PRow} (g : Good ps) (hl : ps.length ≤ 20) (h : AH) : Pg.f_look_stretches [rowsD ps] h = .ok .non h := by
  have F : ∃ s' h', forL (fun _ => true) (gSq 2 (gsCons (gNm 1) (gsCons (gNm 2) gsNil))) Pg.L_look_stretches_1 (numD (ps.map tupP)) [some (rowsD ps), none, none] h = .nx s' h' ∧ h' = h := by
    obtain ⟨s', h', e, x, y, _, e2⟩ := forL_all (ok := fun _ => true) (g := gSq 2 (gsCons (gNm 1) (gsCons (gNm 2) gsNil))) (b := Pg.L_look_stretches_1) (fun _ s h' => ∃ x y, s = [some (rowsD ps), x, y] ∧ h' = h) (fun _ _ _ _ => rfl) (numD (ps.map tupP)) 0
      [some (rowsD ps), none, none] h ⟨none, none, rfl, rfl⟩ (fun j d s h' hd ⟨x, y, es, eh⟩ => by
        subst es eh
        obtain ⟨d2, hd2, rfl⟩ := numD_get hd
        rw [List.getElem?_map] at hd2
        cases q : ps[j]? with
        | none => rw [q] at hd2; cases hd2
        | some p =>
          rw [q] at hd2
          cases hd2
          have st := stretch_ok (g p (List.mem_of_getElem? q)) h'
          refine ⟨[some (rowsD ps), some (.int (j : Nat)), some (tupP p)], h', [some (rowsD ps), some (.int (j : Nat)), some (tupP p)], h', rfl, .inl ?_, _, _, rfl, rfl⟩
          simp (disch := omega) only [fnM, eVar, eC, eBin, eUn, aNil, aCons, eTup, eLst, eLstN, eFn, eIf, eFld, eCall, eMeth, eMake, insOf, tst, tstB, MP.tAnd, MP.tOr, MP.tNot, eAnd, eOr, eNot, eChain, truth, optR, Res.bind, Res.bindS, sNil, sSeq, sExp, sRet, sRetN, sIf, sAsg, sSet, sPar, MP.sFld, MP.sFldAug, sFor, nxO, gNm, gFld, gIx, setIx, setFld, gsNil, gsCons, gTp, gLs, MP.iRng1, MP.iRng2, iSeq, iLst, MP.iTup, seqL, seqM, seqT, seqX, eIsi, tyName, isi_ii, isi_ib, isi_bi, isi_bb, isi_ni, isi_si, isi_ss, isi_is, isi_tt, isi_ti, isi_li, pAdd, pSub, pMulA_int, pMul_ok, pDiv_ok, pMod_ok, pNeg, pLt, pLe, pGt, pGe, pEq, pNe, pEqB, sEq, pIs, pIsNot, MP.isNon, pIx, fAbs, fMax2, fMin2, fInt, fLen, gSel, pick, AH.put_g, AH.put_n, AH.new_g, AH.new_n, AH.put_put, AH.new_put, List.length_cons, List.length_nil, List.map_cons, List.map_nil, List.cons_append, List.nil_append, List.append_nil, List.replicate, List.getElem?_cons_zero, List.getElem?_cons_succ, List.getElem?_nil, List.set_cons_zero, List.set_cons_succ, List.flatMap_cons, List.flatMap_nil, List.drop_zero, List.drop_succ_cons, List.drop_nil, List.take_succ_cons, List.take_zero, List.take_nil, List.contains_cons, List.contains_nil, Bool.or_false, Bool.or_true, Bool.true_or, Bool.false_or, Bool.and_true, Bool.and_false, Bool.not_true, Bool.not_false, beq_self_eq_true, Nat.reduceAdd, Nat.reduceSub, Nat.reduceLeDiff, Nat.reduceLT, Nat.reduceEqDiff, Nat.reduceBEq, Int.reduceToNat, ↓reduceIte, reduceIte, Bool.false_eq_true, ne_true_f, decide_eq_true_eq, and_self, and_true, true_and, Nat.zero_le, Option.map_some, Option.map_none, Option.bind_some, Int.reduceLT, Int.reduceLE, Int.reduceNeg, decide_true, decide_false, ixN_0, ixN_1, ixN_2, ixN_3, ixN_m1, atI_1, atI_2, atI_3, eq_self, Option.some.injEq, false_and, atI_0, Nat.zero_add, Nat.add_zero, pow10_18, pow10_10, pow10_11, pow10_6, sRaise, sRaise0, sTryO, noEx, fAny, fAll, blsL, compL, wipeD, CT.set, eComp, eCompN, lstOk, fSum, fTuple, fList, sAug, pAddI, pSubI, pIn, pNotIn, inB, MP.iZip, iEnumA, fSortP, fSortSet, eSl, partD, zipD_ints, pairsL_map, eBm, mAppend, List.any_cons, List.any_nil, List.all_cons, List.all_nil, id, List.length_append, List.zip_cons_cons, List.zip_nil_left, List.reverse_cons, List.reverse_nil, eqb_int, eqb_str, eqb_bl, kc0, kc1, kc2, kc3, kc4, kc5, kc6, kc7, kc8, kc9, kc10, kc11, kc12, kc13, kc14, kc15, kc16, kc17, kc18, kc19, kc20, Int.reduceBEq, Int.reduceMul, Int.reduceSub, Pg.Pool_get_kept, Pg.Pool_set_kept, Pg.Pool_put_0, Pg.Pool_no_stretches, Pg.Pool_no___len__, Pg.Pool_no_has, Pg.Pool_no_number_at, Pg.Pool_no_place_of, Pg.Pool_no_first_from, Pg.Pool_no_joined, Pg.Pool_no_met, Pg.Pool_no_without, Pg.Pool_no_dealt, Pg.Pool_no___eq__, Pg.Pool_no___str__, Pg.Pool_no___repr__, Pg.L_look_stretches_1, st])
    exact ⟨s', h', e, e2⟩
  obtain ⟨s', h', e, rfl⟩ := F
  have hn : ¬ (20 : Int) < (ps.length : Int) := by omega
  refine fnG_same ?_ rfl
  unfold rowsD at e ⊢
  simp (disch := omega) only [fnM, eVar, eC, eBin, eUn, aNil, aCons, eTup, eLst, eLstN, eFn, eIf, eFld, eCall, eMeth, eMake, insOf, tst, tstB, MP.tAnd, MP.tOr, MP.tNot, eAnd, eOr, eNot, eChain, truth, optR, Res.bind, Res.bindS, sNil, sSeq, sExp, sRet, sRetN, sIf, sAsg, sSet, sPar, MP.sFld, MP.sFldAug, sFor, nxO, gNm, gFld, gIx, setIx, setFld, gsNil, gsCons, gTp, gLs, MP.iRng1, MP.iRng2, iSeq, iLst, MP.iTup, seqL, seqM, seqT, seqX, eIsi, tyName, isi_ii, isi_ib, isi_bi, isi_bb, isi_ni, isi_si, isi_ss, isi_is, isi_tt, isi_ti, isi_li, pAdd, pSub, pMulA_int, pMul_ok, pDiv_ok, pMod_ok, pNeg, pLt, pLe, pGt, pGe, pEq, pNe, pEqB, sEq, pIs, pIsNot, MP.isNon, pIx, fAbs, fMax2, fMin2, fInt, fLen, gSel, pick, AH.put_g, AH.put_n, AH.new_g, AH.new_n, AH.put_put, AH.new_put, List.length_cons, List.length_nil, List.map_cons, List.map_nil, List.cons_append, List.nil_append, List.append_nil, List.replicate, List.getElem?_cons_zero, List.getElem?_cons_succ, List.getElem?_nil, List.set_cons_zero, List.set_cons_succ, List.flatMap_cons, List.flatMap_nil, List.drop_zero, List.drop_succ_cons, List.drop_nil, List.take_succ_cons, List.take_zero, List.take_nil, List.contains_cons, List.contains_nil, Bool.or_false, Bool.or_true, Bool.true_or, Bool.false_or, Bool.and_true, Bool.and_false, Bool.not_true, Bool.not_false, beq_self_eq_true, Nat.reduceAdd, Nat.reduceSub, Nat.reduceLeDiff, Nat.reduceLT, Nat.reduceEqDiff, Nat.reduceBEq, Int.reduceToNat, ↓reduceIte, reduceIte, Bool.false_eq_true, ne_true_f, decide_eq_true_eq, and_self, and_true, true_and, Nat.zero_le, Option.map_some, Option.map_none, Option.bind_some, Int.reduceLT, Int.reduceLE, Int.reduceNeg, decide_true, decide_false, ixN_0, ixN_1, ixN_2, ixN_3, ixN_m1, atI_1, atI_2, atI_3, eq_self, Option.some.injEq, false_and, atI_0, Nat.zero_add, Nat.add_zero, pow10_18, pow10_10, pow10_11, pow10_6, sRaise, sRaise0, sTryO, noEx, fAny, fAll, blsL, compL, wipeD, CT.set, eComp, eCompN, lstOk, fSum, fTuple, fList, sAug, pAddI, pSubI, pIn, pNotIn, inB, MP.iZip, iEnumA, fSortP, fSortSet, eSl, partD, zipD_ints, pairsL_map, eBm, mAppend, List.any_cons, List.any_nil, List.all_cons, List.all_nil, id, List.length_append, List.zip_cons_cons, List.zip_nil_left, List.reverse_cons, List.reverse_nil, eqb_int, eqb_str, eqb_bl, kc0, kc1, kc2, kc3, kc4, kc5, kc6, kc7, kc8, kc9, kc10, kc11, kc12, kc13, kc14, kc15, kc16, kc17, kc18, kc19, kc20, Int.reduceBEq, Int.reduceMul, Int.reduceSub, Pg.Pool_get_kept, Pg.Pool_set_kept, Pg.Pool_put_0, Pg.Pool_no_stretches, Pg.Pool_no___len__, Pg.Pool_no_has, Pg.Pool_no_number_at, Pg.Pool_no_place_of, Pg.Pool_no_first_from, Pg.Pool_no_joined, Pg.Pool_no_met, Pg.Pool_no_without, Pg.Pool_no_dealt, Pg.Pool_no___eq__, Pg.Pool_no___str__, Pg.Pool_no___repr__, Pg.b_look_stretches, List.length_map, hn, e]

theorem fstep_ok {sc : Option D} {h : AH} {b : Nat} {acc : List PRow} {p : PRow} (e : h.g b = some (.lst (acc.map tupP))) (hl : acc.length < 99000) :
    Pg.L_fewest_1 [sc, some (.ref b), some (.int p.1), some (.int p.2)] h = .nx [sc, some (.ref b), some (.int p.1), some (.int p.2)] (h.put b (.lst ((mstep acc p).map tupP))) := by
  have ne := eqb_nilL e
  have hlt : (acc.map tupP).length < 100000 := by rw [List.length_map]; omega
  have ap : ∀ q : PRow, acc.map tupP ++ [.tup [.int q.1, .int q.2]] = (acc ++ [q]).map tupP := fun q => by rw [List.map_append]; rfl
  rcases List.eq_nil_or_concat acc with rfl | ⟨i, q, rfl⟩
  · rw [mstep_nil]
    simp (disch := omega) only [fnM, eVar, eC, eBin, eUn, aNil, aCons, eTup, eLst, eLstN, eFn, eIf, eFld, eCall, eMeth, eMake, insOf, tst, tstB, MP.tAnd, MP.tOr, MP.tNot, eAnd, eOr, eNot, eChain, truth, optR, Res.bind, Res.bindS, sNil, sSeq, sExp, sRet, sRetN, sIf, sAsg, sSet, sPar, MP.sFld, MP.sFldAug, sFor, nxO, gNm, gFld, gIx, setIx, setFld, gsNil, gsCons, gTp, gLs, MP.iRng1, MP.iRng2, iSeq, iLst, MP.iTup, seqL, seqM, seqT, seqX, eIsi, tyName, isi_ii, isi_ib, isi_bi, isi_bb, isi_ni, isi_si, isi_ss, isi_is, isi_tt, isi_ti, isi_li, pAdd, pSub, pMulA_int, pMul_ok, pDiv_ok, pMod_ok, pNeg, pLt, pLe, pGt, pGe, pEq, pNe, sEq, pIs, pIsNot, MP.isNon, pIx, fAbs, fMax2, fMin2, fInt, fLen, gSel, pick, AH.put_g, AH.put_n, AH.new_g, AH.new_n, AH.put_put, AH.new_put, List.length_cons, List.length_nil, List.map_cons, List.map_nil, List.cons_append, List.nil_append, List.append_nil, List.replicate, List.getElem?_cons_zero, List.getElem?_cons_succ, List.getElem?_nil, List.set_cons_zero, List.set_cons_succ, List.flatMap_cons, List.flatMap_nil, List.drop_zero, List.drop_succ_cons, List.drop_nil, List.take_succ_cons, List.take_zero, List.take_nil, List.contains_cons, List.contains_nil, Bool.or_false, Bool.or_true, Bool.true_or, Bool.false_or, Bool.and_true, Bool.and_false, Bool.not_true, Bool.not_false, beq_self_eq_true, Nat.reduceAdd, Nat.reduceSub, Nat.reduceLeDiff, Nat.reduceLT, Nat.reduceEqDiff, Nat.reduceBEq, Int.reduceToNat, ↓reduceIte, reduceIte, Bool.false_eq_true, ne_true_f, decide_eq_true_eq, and_self, and_true, true_and, Nat.zero_le, Option.map_some, Option.map_none, Option.bind_some, Int.reduceLT, Int.reduceLE, Int.reduceNeg, decide_true, decide_false, ixN_0, ixN_1, ixN_2, ixN_3, ixN_m1, atI_1, atI_2, atI_3, eq_self, Option.some.injEq, false_and, atI_0, Nat.zero_add, Nat.add_zero, pow10_18, pow10_10, pow10_11, pow10_6, sRaise, sRaise0, sTryO, noEx, fAny, fAll, blsL, compL, wipeD, CT.set, eComp, eCompN, lstOk, fSum, fTuple, fList, sAug, pAddI, pSubI, pIn, pNotIn, inB, MP.iZip, iEnumA, fSortP, fSortSet, eSl, partD, zipD_ints, pairsL_map, eBm, mAppend, List.any_cons, List.any_nil, List.all_cons, List.all_nil, id, List.length_append, List.zip_cons_cons, List.zip_nil_left, List.reverse_cons, List.reverse_nil, eqb_int, eqb_str, eqb_bl, kc0, kc1, kc2, kc3, kc4, kc5, kc6, kc7, kc8, kc9, kc10, kc11, kc12, kc13, kc14, kc15, kc16, kc17, kc18, kc19, kc20, Int.reduceBEq, Int.reduceMul, Int.reduceSub, Pg.Pool_get_kept, Pg.Pool_set_kept, Pg.Pool_put_0, Pg.Pool_no_stretches, Pg.Pool_no___len__, Pg.Pool_no_has, Pg.Pool_no_number_at, Pg.Pool_no_place_of, Pg.Pool_no_first_from, Pg.Pool_no_joined, Pg.Pool_no_met, Pg.Pool_no_without, Pg.Pool_no_dealt, Pg.Pool_no___eq__, Pg.Pool_no___str__, Pg.Pool_no___repr__, Pg.L_fewest_1, ne, e, List.isEmpty_nil, tupP]
  · rw [List.concat_eq_append] at e ne hlt ap ⊢
    have l1 : atI ((i ++ [q]).map tupP) (-1) = some (.tup [.int q.1, .int q.2]) := at_last tupP i q
    have l2 := ix_last tupP i q
    have l3 : ((i ++ [q]).map tupP).set i.length (.tup [.int q.1, .int (if p.2 > q.2 then p.2 else q.2)]) = (i ++ [(q.1, if p.2 > q.2 then p.2 else q.2)]).map tupP := set_last tupP i q (q.1, if p.2 > q.2 then p.2 else q.2)
    have em : (i ++ [q]).isEmpty = false := by simp
    rw [mstep_snoc]
    by_cases hc : p.1 ≤ q.2 + 1
    · rw [if_pos hc]
      rw [← l3]
      simp (disch := omega) only [fnM, eVar, eC, eBin, eUn, aNil, aCons, eTup, eLst, eLstN, eFn, eIf, eFld, eCall, eMeth, eMake, insOf, tst, tstB, MP.tAnd, MP.tOr, MP.tNot, eAnd, eOr, eNot, eChain, truth, optR, Res.bind, Res.bindS, sNil, sSeq, sExp, sRet, sRetN, sIf, sAsg, sSet, sPar, MP.sFld, MP.sFldAug, sFor, nxO, gNm, gFld, gIx, setIx, setFld, gsNil, gsCons, gTp, gLs, MP.iRng1, MP.iRng2, iSeq, iLst, MP.iTup, seqL, seqM, seqT, seqX, eIsi, tyName, isi_ii, isi_ib, isi_bi, isi_bb, isi_ni, isi_si, isi_ss, isi_is, isi_tt, isi_ti, isi_li, pAdd, pSub, pMulA_int, pMul_ok, pDiv_ok, pMod_ok, pNeg, pLt, pLe, pGt, pGe, pEq, pNe, sEq, pIs, pIsNot, MP.isNon, pIx, fAbs, fMax2, fMin2, fInt, fLen, gSel, pick, AH.put_g, AH.put_n, AH.new_g, AH.new_n, AH.put_put, AH.new_put, List.length_cons, List.length_nil, List.map_cons, List.map_nil, List.cons_append, List.nil_append, List.append_nil, List.replicate, List.getElem?_cons_zero, List.getElem?_cons_succ, List.getElem?_nil, List.set_cons_zero, List.set_cons_succ, List.flatMap_cons, List.flatMap_nil, List.drop_zero, List.drop_succ_cons, List.drop_nil, List.take_succ_cons, List.take_zero, List.take_nil, List.contains_cons, List.contains_nil, Bool.or_false, Bool.or_true, Bool.true_or, Bool.false_or, Bool.and_true, Bool.and_false, Bool.not_true, Bool.not_false, beq_self_eq_true, Nat.reduceAdd, Nat.reduceSub, Nat.reduceLeDiff, Nat.reduceLT, Nat.reduceEqDiff, Nat.reduceBEq, Int.reduceToNat, ↓reduceIte, reduceIte, Bool.false_eq_true, ne_true_f, decide_eq_true_eq, and_self, and_true, true_and, Nat.zero_le, Option.map_some, Option.map_none, Option.bind_some, Int.reduceLT, Int.reduceLE, Int.reduceNeg, decide_true, decide_false, ixN_0, ixN_1, ixN_2, ixN_3, ixN_m1, atI_1, atI_2, atI_3, eq_self, Option.some.injEq, false_and, atI_0, Nat.zero_add, Nat.add_zero, pow10_18, pow10_10, pow10_11, pow10_6, sRaise, sRaise0, sTryO, noEx, fAny, fAll, blsL, compL, wipeD, CT.set, eComp, eCompN, lstOk, fSum, fTuple, fList, sAug, pAddI, pSubI, pIn, pNotIn, inB, MP.iZip, iEnumA, fSortP, fSortSet, eSl, partD, zipD_ints, pairsL_map, eBm, mAppend, List.any_cons, List.any_nil, List.all_cons, List.all_nil, id, List.length_append, List.zip_cons_cons, List.zip_nil_left, List.reverse_cons, List.reverse_nil, eqb_int, eqb_str, eqb_bl, kc0, kc1, kc2, kc3, kc4, kc5, kc6, kc7, kc8, kc9, kc10, kc11, kc12, kc13, kc14, kc15, kc16, kc17, kc18, kc19, kc20, Int.reduceBEq, Int.reduceMul, Int.reduceSub, Pg.Pool_get_kept, Pg.Pool_set_kept, Pg.Pool_put_0, Pg.Pool_no_stretches, Pg.Pool_no___len__, Pg.Pool_no_has, Pg.Pool_no_number_at, Pg.Pool_no_place_of, Pg.Pool_no_first_from, Pg.Pool_no_joined, Pg.Pool_no_met, Pg.Pool_no_without, Pg.Pool_no_dealt, Pg.Pool_no___eq__, Pg.Pool_no___str__, Pg.Pool_no___repr__, Pg.L_fewest_1, ne, e, em, hc, l1, l2]
    · rw [if_neg hc]
      rw [← ap]
      simp (disch := omega) only [fnM, eVar, eC, eBin, eUn, aNil, aCons, eTup, eLst, eLstN, eFn, eIf, eFld, eCall, eMeth, eMake, insOf, tst, tstB, MP.tAnd, MP.tOr, MP.tNot, eAnd, eOr, eNot, eChain, truth, optR, Res.bind, Res.bindS, sNil, sSeq, sExp, sRet, sRetN, sIf, sAsg, sSet, sPar, MP.sFld, MP.sFldAug, sFor, nxO, gNm, gFld, gIx, setIx, setFld, gsNil, gsCons, gTp, gLs, MP.iRng1, MP.iRng2, iSeq, iLst, MP.iTup, seqL, seqM, seqT, seqX, eIsi, tyName, isi_ii, isi_ib, isi_bi, isi_bb, isi_ni, isi_si, isi_ss, isi_is, isi_tt, isi_ti, isi_li, pAdd, pSub, pMulA_int, pMul_ok, pDiv_ok, pMod_ok, pNeg, pLt, pLe, pGt, pGe, pEq, pNe, sEq, pIs, pIsNot, MP.isNon, pIx, fAbs, fMax2, fMin2, fInt, fLen, gSel, pick, AH.put_g, AH.put_n, AH.new_g, AH.new_n, AH.put_put, AH.new_put, List.length_cons, List.length_nil, List.map_cons, List.map_nil, List.cons_append, List.nil_append, List.append_nil, List.replicate, List.getElem?_cons_zero, List.getElem?_cons_succ, List.getElem?_nil, List.set_cons_zero, List.set_cons_succ, List.flatMap_cons, List.flatMap_nil, List.drop_zero, List.drop_succ_cons, List.drop_nil, List.take_succ_cons, List.take_zero, List.take_nil, List.contains_cons, List.contains_nil, Bool.or_false, Bool.or_true, Bool.true_or, Bool.false_or, Bool.and_true, Bool.and_false, Bool.not_true, Bool.not_false, beq_self_eq_true, Nat.reduceAdd, Nat.reduceSub, Nat.reduceLeDiff, Nat.reduceLT, Nat.reduceEqDiff, Nat.reduceBEq, Int.reduceToNat, ↓reduceIte, reduceIte, Bool.false_eq_true, ne_true_f, decide_eq_true_eq, and_self, and_true, true_and, Nat.zero_le, Option.map_some, Option.map_none, Option.bind_some, Int.reduceLT, Int.reduceLE, Int.reduceNeg, decide_true, decide_false, ixN_0, ixN_1, ixN_2, ixN_3, ixN_m1, atI_1, atI_2, atI_3, eq_self, Option.some.injEq, false_and, atI_0, Nat.zero_add, Nat.add_zero, pow10_18, pow10_10, pow10_11, pow10_6, sRaise, sRaise0, sTryO, noEx, fAny, fAll, blsL, compL, wipeD, CT.set, eComp, eCompN, lstOk, fSum, fTuple, fList, sAug, pAddI, pSubI, pIn, pNotIn, inB, MP.iZip, iEnumA, fSortP, fSortSet, eSl, partD, zipD_ints, pairsL_map, eBm, mAppend, List.any_cons, List.any_nil, List.all_cons, List.all_nil, id, List.length_append, List.zip_cons_cons, List.zip_nil_left, List.reverse_cons, List.reverse_nil, eqb_int, eqb_str, eqb_bl, kc0, kc1, kc2, kc3, kc4, kc5, kc6, kc7, kc8, kc9, kc10, kc11, kc12, kc13, kc14, kc15, kc16, kc17, kc18, kc19, kc20, Int.reduceBEq, Int.reduceMul, Int.reduceSub, Pg.Pool_get_kept, Pg.Pool_set_kept, Pg.Pool_put_0, Pg.Pool_no_stretches, Pg.Pool_no___len__, Pg.Pool_no_has, Pg.Pool_no_number_at, Pg.Pool_no_place_of, Pg.Pool_no_first_from, Pg.Pool_no_joined, Pg.Pool_no_met, Pg.Pool_no_without, Pg.Pool_no_dealt, Pg.Pool_no___eq__, Pg.Pool_no___str__, Pg.Pool_no___repr__, Pg.L_fewest_1, ne, e, em, hc, l1, hlt]
theorem mstep_len (acc : List PRow) (p : PRow) : (mstep acc p).length ≤ acc.length + 1 := by
  unfold mstep
  split
  · split <;> simp
  · simp
theorem fold_len : ∀ (l acc : List PRow), (l.foldl mstep acc).length ≤ acc.length + l.length
  | [], acc => by simp
  | p :: l, acc => by
    have := fold_len l (mstep acc p)
    have := mstep_len acc p
    simp only [List.foldl_cons, List.length_cons]
    omega
/-- a tuple or a list that is told as a value -/
inductive Sq : (List D → D) → Prop
  | tup : Sq D.tup
  | lst : Sq D.lst
theorem fewest_go {sc : Option D} {ps : List PRow} (hl : ps.length < 90000) (h : AH) (v : Val ps) : ∃ x y, forL (fun _ => true) (gSq 2 (gsCons (gNm 2) (gsCons (gNm 3) gsNil))) Pg.L_fewest_1 ((sortP ps).map tupP) [sc, some (.ref h.n), none, none] (h.new (.lst [])) = .nx [sc, some (.ref h.n), x, y] (h.new (.lst ((fw ps).map tupP))) := by
  have hs : (sortP ps).length = ps.length := (sortP_perm ps).length_eq
  obtain ⟨s', h', e, x, y, rfl, rfl⟩ := forL_all (ok := fun _ => true) (g := gSq 2 (gsCons (gNm 2) (gsCons (gNm 3) gsNil))) (b := Pg.L_fewest_1)
    (fun i s h' => ∃ x y, s = [sc, some (.ref h.n), x, y] ∧ h' = h.new (.lst ((((sortP ps).take i).foldl mstep []).map tupP))) (fun _ _ _ _ => rfl) ((sortP ps).map tupP) 0
    [sc, some (.ref h.n), none, none] (h.new (.lst [])) ⟨none, none, rfl, rfl⟩ (fun j d s h' hd ⟨x, y, es, eh⟩ => by
      subst es eh
      rw [List.getElem?_map] at hd
      cases q : (sortP ps)[j]? with
      | none => rw [q] at hd; cases hd
      | some p =>
        rw [q] at hd
        cases hd
        have hj : j < (sortP ps).length := (List.getElem?_eq_some_iff.mp q).1
        have hk : (((sortP ps).take (0 + j)).foldl mstep []).length < 99000 := by
          have := fold_len ((sortP ps).take (0 + j)) []
          rw [List.length_take] at this
          simp only [List.length_nil] at this
          omega
        have st := fstep_ok (sc := sc) (h := h.new (.lst ((((sortP ps).take (0 + j)).foldl mstep []).map tupP))) (b := h.n) (p := p) (AH.new_same ..) hk
        refine ⟨[sc, some (.ref h.n), some (.int p.1), some (.int p.2)], _, _, _, rfl, .inl st, _, _, rfl, ?_⟩
        rw [AH.new_put, Nat.zero_add, List.take_add_one, q, List.foldl_append]
        rfl)
  have em : ((sortP ps).take (0 + ((sortP ps).map tupP).length)).foldl mstep [] = fw ps := by
    rw [Nat.zero_add, List.length_map, List.take_length]
    exact merge_eq v
  rw [em] at e
  exact ⟨x, y, e⟩
theorem fewest_ok {mk : List D → D} (hmk : Sq mk) {ps : List PRow} (v : Val ps) (hl : ps.length < 90000) (h : AH) : Pg.f_fewest [mk (ps.map tupP)] h = .ok (rowsD (fw ps)) h := by
  refine fnG_pure (h' := h.new (.lst ((fw ps).map tupP))) ?_ (Old.refl.new _) (rows_und _ _)
  obtain ⟨x, y, e⟩ := fewest_go (sc := some (mk (ps.map tupP))) hl h v
  cases hmk <;> simp (disch := omega) only [fnM, eVar, eC, eBin, eUn, aNil, aCons, eTup, eLst, eLstN, eFn, eIf, eFld, eCall, eMeth, eMake, insOf, tst, tstB, MP.tAnd, MP.tOr, MP.tNot, eAnd, eOr, eNot, eChain, truth, optR, Res.bind, Res.bindS, sNil, sSeq, sExp, sRet, sRetN, sIf, sAsg, sSet, sPar, MP.sFld, MP.sFldAug, sFor, nxO, gNm, gFld, gIx, setIx, setFld, gsNil, gsCons, gTp, gLs, MP.iRng1, MP.iRng2, iSeq, iLst, MP.iTup, seqL, seqM, seqT, seqX, eIsi, tyName, isi_ii, isi_ib, isi_bi, isi_bb, isi_ni, isi_si, isi_ss, isi_is, isi_tt, isi_ti, isi_li, pAdd, pSub, pMulA_int, pMul_ok, pDiv_ok, pMod_ok, pNeg, pLt, pLe, pGt, pGe, pEq, pNe, pEqB, sEq, pIs, pIsNot, MP.isNon, pIx, fAbs, fMax2, fMin2, fInt, fLen, gSel, pick, AH.put_g, AH.put_n, AH.new_g, AH.new_n, AH.put_put, AH.new_put, List.length_cons, List.length_nil, List.map_cons, List.map_nil, List.cons_append, List.nil_append, List.append_nil, List.replicate, List.getElem?_cons_zero, List.getElem?_cons_succ, List.getElem?_nil, List.set_cons_zero, List.set_cons_succ, List.flatMap_cons, List.flatMap_nil, List.drop_zero, List.drop_succ_cons, List.drop_nil, List.take_succ_cons, List.take_zero, List.take_nil, List.contains_cons, List.contains_nil, Bool.or_false, Bool.or_true, Bool.true_or, Bool.false_or, Bool.and_true, Bool.and_false, Bool.not_true, Bool.not_false, beq_self_eq_true, Nat.reduceAdd, Nat.reduceSub, Nat.reduceLeDiff, Nat.reduceLT, Nat.reduceEqDiff, Nat.reduceBEq, Int.reduceToNat, ↓reduceIte, reduceIte, Bool.false_eq_true, ne_true_f, decide_eq_true_eq, and_self, and_true, true_and, Nat.zero_le, Option.map_some, Option.map_none, Option.bind_some, Int.reduceLT, Int.reduceLE, Int.reduceNeg, decide_true, decide_false, ixN_0, ixN_1, ixN_2, ixN_3, ixN_m1, atI_1, atI_2, atI_3, eq_self, Option.some.injEq, false_and, atI_0, Nat.zero_add, Nat.add_zero, pow10_18, pow10_10, pow10_11, pow10_6, sRaise, sRaise0, sTryO, noEx, fAny, fAll, blsL, compL, wipeD, CT.set, eComp, eCompN, lstOk, fSum, fTuple, fList, sAug, pAddI, pSubI, pIn, pNotIn, inB, MP.iZip, iEnumA, fSortP, fSortSet, eSl, partD, zipD_ints, pairsL_map, eBm, mAppend, List.any_cons, List.any_nil, List.all_cons, List.all_nil, id, List.length_append, List.zip_cons_cons, List.zip_nil_left, List.reverse_cons, List.reverse_nil, eqb_int, eqb_str, eqb_bl, kc0, kc1, kc2, kc3, kc4, kc5, kc6, kc7, kc8, kc9, kc10, kc11, kc12, kc13, kc14, kc15, kc16, kc17, kc18, kc19, kc20, Int.reduceBEq, Int.reduceMul, Int.reduceSub, Pg.Pool_get_kept, Pg.Pool_set_kept, Pg.Pool_put_0, Pg.Pool_no_stretches, Pg.Pool_no___len__, Pg.Pool_no_has, Pg.Pool_no_number_at, Pg.Pool_no_place_of, Pg.Pool_no_first_from, Pg.Pool_no_joined, Pg.Pool_no_met, Pg.Pool_no_without, Pg.Pool_no_dealt, Pg.Pool_no___eq__, Pg.Pool_no___str__, Pg.Pool_no___repr__, Pg.b_fewest, iSeqT, iAlt, isTxtD, pairsL_map, e] <;> rfl
theorem init_ok {ps : List PRow} (g : Good ps) (hl : ps.length ≤ 20) (h : AH) : Pg.f_Pool_init [.ref h.n, rowsD ps] (h.new (.ins 18 [])) = .ok .non (h.new (plO (fw ps))) := by
  have lk := look_ok g hl
  have fe := fun h => fewest_ok .tup g.val (by omega) h
  have e : (h.new (.ins 18 [])).put h.n (plO (fw ps)) = h.new (plO (fw ps)) := AH.new_put ..
  rw [← e]
  refine fnG_put (o0 := .ins 18 []) ?_ (AH.new_same ..) (plO_und _ _) .refl rfl
  unfold rowsD at lk ⊢
  simp (disch := omega) only [fnM, eVar, eC, eBin, eUn, aNil, aCons, eTup, eLst, eLstN, eFn, eIf, eFld, eCall, eMeth, eMake, insOf, tst, tstB, MP.tAnd, MP.tOr, MP.tNot, eAnd, eOr, eNot, eChain, truth, optR, Res.bind, Res.bindS, sNil, sSeq, sExp, sRet, sRetN, sIf, sAsg, sSet, sPar, MP.sFld, MP.sFldAug, sFor, nxO, gNm, gFld, gIx, setIx, setFld, gsNil, gsCons, gTp, gLs, MP.iRng1, MP.iRng2, iSeq, iLst, MP.iTup, seqL, seqM, seqT, seqX, eIsi, tyName, isi_ii, isi_ib, isi_bi, isi_bb, isi_ni, isi_si, isi_ss, isi_is, isi_tt, isi_ti, isi_li, pAdd, pSub, pMulA_int, pMul_ok, pDiv_ok, pMod_ok, pNeg, pLt, pLe, pGt, pGe, pEq, pNe, pEqB, sEq, pIs, pIsNot, MP.isNon, pIx, fAbs, fMax2, fMin2, fInt, fLen, gSel, pick, AH.put_g, AH.put_n, AH.new_g, AH.new_n, AH.put_put, AH.new_put, List.length_cons, List.length_nil, List.map_cons, List.map_nil, List.cons_append, List.nil_append, List.append_nil, List.replicate, List.getElem?_cons_zero, List.getElem?_cons_succ, List.getElem?_nil, List.set_cons_zero, List.set_cons_succ, List.flatMap_cons, List.flatMap_nil, List.drop_zero, List.drop_succ_cons, List.drop_nil, List.take_succ_cons, List.take_zero, List.take_nil, List.contains_cons, List.contains_nil, Bool.or_false, Bool.or_true, Bool.true_or, Bool.false_or, Bool.and_true, Bool.and_false, Bool.not_true, Bool.not_false, beq_self_eq_true, Nat.reduceAdd, Nat.reduceSub, Nat.reduceLeDiff, Nat.reduceLT, Nat.reduceEqDiff, Nat.reduceBEq, Int.reduceToNat, ↓reduceIte, reduceIte, Bool.false_eq_true, ne_true_f, decide_eq_true_eq, and_self, and_true, true_and, Nat.zero_le, Option.map_some, Option.map_none, Option.bind_some, Int.reduceLT, Int.reduceLE, Int.reduceNeg, decide_true, decide_false, ixN_0, ixN_1, ixN_2, ixN_3, ixN_m1, atI_1, atI_2, atI_3, eq_self, Option.some.injEq, false_and, atI_0, Nat.zero_add, Nat.add_zero, pow10_18, pow10_10, pow10_11, pow10_6, sRaise, sRaise0, sTryO, noEx, fAny, fAll, blsL, compL, wipeD, CT.set, eComp, eCompN, lstOk, fSum, fTuple, fList, sAug, pAddI, pSubI, pIn, pNotIn, inB, MP.iZip, iEnumA, fSortP, fSortSet, eSl, partD, zipD_ints, pairsL_map, eBm, mAppend, List.any_cons, List.any_nil, List.all_cons, List.all_nil, id, List.length_append, List.zip_cons_cons, List.zip_nil_left, List.reverse_cons, List.reverse_nil, eqb_int, eqb_str, eqb_bl, kc0, kc1, kc2, kc3, kc4, kc5, kc6, kc7, kc8, kc9, kc10, kc11, kc12, kc13, kc14, kc15, kc16, kc17, kc18, kc19, kc20, Int.reduceBEq, Int.reduceMul, Int.reduceSub, Pg.Pool_get_kept, Pg.Pool_set_kept, Pg.Pool_put_0, Pg.Pool_no_stretches, Pg.Pool_no___len__, Pg.Pool_no_has, Pg.Pool_no_number_at, Pg.Pool_no_place_of, Pg.Pool_no_first_from, Pg.Pool_no_joined, Pg.Pool_no_met, Pg.Pool_no_without, Pg.Pool_no_dealt, Pg.Pool_no___eq__, Pg.Pool_no___str__, Pg.Pool_no___repr__, Pg.b_Pool_init, lk, fe, insR, AH.new_same]
  rfl
theorem gc_pool (h : AH) (m : List PRow) : gcR h (.ok (.ref h.n) (h.new (plO m))) = .ok (plD m) h :=
  make_obj (fs := [("kept", rowsD m)]) (AH.new_same ..) (by decide) (by simp [undF, rows_und]) (Old.refl.new _)
theorem stretches_is (m : List PRow) (h : AH) : Pg.f_Pool_stretches [plD m] h = .ok (rowsD m) h := by
  refine fnG_same ?_ (rows_und _ _)
  unfold plD
  simp (disch := omega) only [fnM, eVar, eC, eBin, eUn, aNil, aCons, eTup, eLst, eLstN, eFn, eIf, eFld, eCall, eMeth, eMake, insOf, tst, tstB, MP.tAnd, MP.tOr, MP.tNot, eAnd, eOr, eNot, eChain, truth, optR, Res.bind, Res.bindS, sNil, sSeq, sExp, sRet, sRetN, sIf, sAsg, sSet, sPar, MP.sFld, MP.sFldAug, sFor, nxO, gNm, gFld, gIx, setIx, setFld, gsNil, gsCons, gTp, gLs, MP.iRng1, MP.iRng2, iSeq, iLst, MP.iTup, seqL, seqM, seqT, seqX, eIsi, tyName, isi_ii, isi_ib, isi_bi, isi_bb, isi_ni, isi_si, isi_ss, isi_is, isi_tt, isi_ti, isi_li, pAdd, pSub, pMulA_int, pMul_ok, pDiv_ok, pMod_ok, pNeg, pLt, pLe, pGt, pGe, pEq, pNe, pEqB, sEq, pIs, pIsNot, MP.isNon, pIx, fAbs, fMax2, fMin2, fInt, fLen, gSel, pick, AH.put_g, AH.put_n, AH.new_g, AH.new_n, AH.put_put, AH.new_put, List.length_cons, List.length_nil, List.map_cons, List.map_nil, List.cons_append, List.nil_append, List.append_nil, List.replicate, List.getElem?_cons_zero, List.getElem?_cons_succ, List.getElem?_nil, List.set_cons_zero, List.set_cons_succ, List.flatMap_cons, List.flatMap_nil, List.drop_zero, List.drop_succ_cons, List.drop_nil, List.take_succ_cons, List.take_zero, List.take_nil, List.contains_cons, List.contains_nil, Bool.or_false, Bool.or_true, Bool.true_or, Bool.false_or, Bool.and_true, Bool.and_false, Bool.not_true, Bool.not_false, beq_self_eq_true, Nat.reduceAdd, Nat.reduceSub, Nat.reduceLeDiff, Nat.reduceLT, Nat.reduceEqDiff, Nat.reduceBEq, Int.reduceToNat, ↓reduceIte, reduceIte, Bool.false_eq_true, ne_true_f, decide_eq_true_eq, and_self, and_true, true_and, Nat.zero_le, Option.map_some, Option.map_none, Option.bind_some, Int.reduceLT, Int.reduceLE, Int.reduceNeg, decide_true, decide_false, ixN_0, ixN_1, ixN_2, ixN_3, ixN_m1, atI_1, atI_2, atI_3, eq_self, Option.some.injEq, false_and, atI_0, Nat.zero_add, Nat.add_zero, pow10_18, pow10_10, pow10_11, pow10_6, sRaise, sRaise0, sTryO, noEx, fAny, fAll, blsL, compL, wipeD, CT.set, eComp, eCompN, lstOk, fSum, fTuple, fList, sAug, pAddI, pSubI, pIn, pNotIn, inB, MP.iZip, iEnumA, fSortP, fSortSet, eSl, partD, zipD_ints, pairsL_map, eBm, mAppend, List.any_cons, List.any_nil, List.all_cons, List.all_nil, id, List.length_append, List.zip_cons_cons, List.zip_nil_left, List.reverse_cons, List.reverse_nil, eqb_int, eqb_str, eqb_bl, kc0, kc1, kc2, kc3, kc4, kc5, kc6, kc7, kc8, kc9, kc10, kc11, kc12, kc13, kc14, kc15, kc16, kc17, kc18, kc19, kc20, Int.reduceBEq, Int.reduceMul, Int.reduceSub, Pg.Pool_get_kept, Pg.Pool_set_kept, Pg.Pool_put_0, Pg.Pool_no_stretches, Pg.Pool_no___len__, Pg.Pool_no_has, Pg.Pool_no_number_at, Pg.Pool_no_place_of, Pg.Pool_no_first_from, Pg.Pool_no_joined, Pg.Pool_no_met, Pg.Pool_no_without, Pg.Pool_no_dealt, Pg.Pool_no___eq__, Pg.Pool_no___str__, Pg.Pool_no___repr__, Pg.b_Pool_stretches]
theorem told_ok {mk : List D → D} (hmk : Sq mk) {ps : List PRow} (v : Val ps) (hl : ps.length < 90000) (h : AH) : Pg.f_told_pool [mk (ps.map tupP)] h = .ok (plD (fw ps)) h := by
  have i0 : Pg.f_Pool_init [.ref h.n, .tup []] (h.new (.ins 18 [])) = .ok .non (h.new (plO (fw []))) := init_ok (ps := []) (fun p hp => by cases hp) (by decide) h
  have fe := fun h => fewest_ok hmk v hl h
  have z : (h.new (plO (fw []))).g h.n = some (plO (fw [])) := AH.new_same ..
  refine fnG_obj (h' := h.new (plO (fw ps))) (fs := [("kept", rowsD (fw ps))]) (c := 18) ?_ (AH.new_same ..) (by decide) (by simp [undF, rows_und]) (Old.refl.new _)
  simp (disch := omega) only [fnM, eVar, eC, eBin, eUn, aNil, aCons, eTup, eLst, eLstN, eFn, eIf, eFld, eCall, eMeth, eMake, insOf, tst, tstB, MP.tAnd, MP.tOr, MP.tNot, eAnd, eOr, eNot, eChain, truth, optR, Res.bind, Res.bindS, sNil, sSeq, sExp, sRet, sRetN, sIf, sAsg, sSet, sPar, MP.sFld, MP.sFldAug, sFor, nxO, gNm, gFld, gIx, setIx, setFld, gsNil, gsCons, gTp, gLs, MP.iRng1, MP.iRng2, iSeq, iLst, MP.iTup, seqL, seqM, seqT, seqX, eIsi, tyName, isi_ii, isi_ib, isi_bi, isi_bb, isi_ni, isi_si, isi_ss, isi_is, isi_tt, isi_ti, isi_li, pAdd, pSub, pMulA_int, pMul_ok, pDiv_ok, pMod_ok, pNeg, pLt, pLe, pGt, pGe, pEq, pNe, pEqB, sEq, pIs, pIsNot, MP.isNon, pIx, fAbs, fMax2, fMin2, fInt, fLen, gSel, pick, AH.put_g, AH.put_n, AH.new_g, AH.new_n, AH.put_put, AH.new_put, List.length_cons, List.length_nil, List.map_cons, List.map_nil, List.cons_append, List.nil_append, List.append_nil, List.replicate, List.getElem?_cons_zero, List.getElem?_cons_succ, List.getElem?_nil, List.set_cons_zero, List.set_cons_succ, List.flatMap_cons, List.flatMap_nil, List.drop_zero, List.drop_succ_cons, List.drop_nil, List.take_succ_cons, List.take_zero, List.take_nil, List.contains_cons, List.contains_nil, Bool.or_false, Bool.or_true, Bool.true_or, Bool.false_or, Bool.and_true, Bool.and_false, Bool.not_true, Bool.not_false, beq_self_eq_true, Nat.reduceAdd, Nat.reduceSub, Nat.reduceLeDiff, Nat.reduceLT, Nat.reduceEqDiff, Nat.reduceBEq, Int.reduceToNat, ↓reduceIte, reduceIte, Bool.false_eq_true, ne_true_f, decide_eq_true_eq, and_self, and_true, true_and, Nat.zero_le, Option.map_some, Option.map_none, Option.bind_some, Int.reduceLT, Int.reduceLE, Int.reduceNeg, decide_true, decide_false, ixN_0, ixN_1, ixN_2, ixN_3, ixN_m1, atI_1, atI_2, atI_3, eq_self, Option.some.injEq, false_and, atI_0, Nat.zero_add, Nat.add_zero, pow10_18, pow10_10, pow10_11, pow10_6, sRaise, sRaise0, sTryO, noEx, fAny, fAll, blsL, compL, wipeD, CT.set, eComp, eCompN, lstOk, fSum, fTuple, fList, sAug, pAddI, pSubI, pIn, pNotIn, inB, MP.iZip, iEnumA, fSortP, fSortSet, eSl, partD, zipD_ints, pairsL_map, eBm, mAppend, List.any_cons, List.any_nil, List.all_cons, List.all_nil, id, List.length_append, List.zip_cons_cons, List.zip_nil_left, List.reverse_cons, List.reverse_nil, eqb_int, eqb_str, eqb_bl, kc0, kc1, kc2, kc3, kc4, kc5, kc6, kc7, kc8, kc9, kc10, kc11, kc12, kc13, kc14, kc15, kc16, kc17, kc18, kc19, kc20, Int.reduceBEq, Int.reduceMul, Int.reduceSub, Pg.Pool_get_kept, Pg.Pool_set_kept, Pg.Pool_put_0, Pg.Pool_no_stretches, Pg.Pool_no___len__, Pg.Pool_no_has, Pg.Pool_no_number_at, Pg.Pool_no_place_of, Pg.Pool_no_first_from, Pg.Pool_no_joined, Pg.Pool_no_met, Pg.Pool_no_without, Pg.Pool_no_dealt, Pg.Pool_no___eq__, Pg.Pool_no___str__, Pg.Pool_no___repr__, Pg.b_told_pool, eMake0, i0, fe]
  unfold plO
  simp (disch := omega) only [fnM, eVar, eC, eBin, eUn, aNil, aCons, eTup, eLst, eLstN, eFn, eIf, eFld, eCall, eMeth, eMake, insOf, tst, tstB, MP.tAnd, MP.tOr, MP.tNot, eAnd, eOr, eNot, eChain, truth, optR, Res.bind, Res.bindS, sNil, sSeq, sExp, sRet, sRetN, sIf, sAsg, sSet, sPar, MP.sFld, MP.sFldAug, sFor, nxO, gNm, gFld, gIx, setIx, setFld, gsNil, gsCons, gTp, gLs, MP.iRng1, MP.iRng2, iSeq, iLst, MP.iTup, seqL, seqM, seqT, seqX, eIsi, tyName, isi_ii, isi_ib, isi_bi, isi_bb, isi_ni, isi_si, isi_ss, isi_is, isi_tt, isi_ti, isi_li, pAdd, pSub, pMulA_int, pMul_ok, pDiv_ok, pMod_ok, pNeg, pLt, pLe, pGt, pGe, pEq, pNe, pEqB, sEq, pIs, pIsNot, MP.isNon, pIx, fAbs, fMax2, fMin2, fInt, fLen, gSel, pick, AH.put_g, AH.put_n, AH.new_g, AH.new_n, AH.put_put, AH.new_put, List.length_cons, List.length_nil, List.map_cons, List.map_nil, List.cons_append, List.nil_append, List.append_nil, List.replicate, List.getElem?_cons_zero, List.getElem?_cons_succ, List.getElem?_nil, List.set_cons_zero, List.set_cons_succ, List.flatMap_cons, List.flatMap_nil, List.drop_zero, List.drop_succ_cons, List.drop_nil, List.take_succ_cons, List.take_zero, List.take_nil, List.contains_cons, List.contains_nil, Bool.or_false, Bool.or_true, Bool.true_or, Bool.false_or, Bool.and_true, Bool.and_false, Bool.not_true, Bool.not_false, beq_self_eq_true, Nat.reduceAdd, Nat.reduceSub, Nat.reduceLeDiff, Nat.reduceLT, Nat.reduceEqDiff, Nat.reduceBEq, Int.reduceToNat, ↓reduceIte, reduceIte, Bool.false_eq_true, ne_true_f, decide_eq_true_eq, and_self, and_true, true_and, Nat.zero_le, Option.map_some, Option.map_none, Option.bind_some, Int.reduceLT, Int.reduceLE, Int.reduceNeg, decide_true, decide_false, ixN_0, ixN_1, ixN_2, ixN_3, ixN_m1, atI_1, atI_2, atI_3, eq_self, Option.some.injEq, false_and, atI_0, Nat.zero_add, Nat.add_zero, pow10_18, pow10_10, pow10_11, pow10_6, sRaise, sRaise0, sTryO, noEx, fAny, fAll, blsL, compL, wipeD, CT.set, eComp, eCompN, lstOk, fSum, fTuple, fList, sAug, pAddI, pSubI, pIn, pNotIn, inB, MP.iZip, iEnumA, fSortP, fSortSet, eSl, partD, zipD_ints, pairsL_map, eBm, mAppend, List.any_cons, List.any_nil, List.all_cons, List.all_nil, id, List.length_append, List.zip_cons_cons, List.zip_nil_left, List.reverse_cons, List.reverse_nil, eqb_int, eqb_str, eqb_bl, kc0, kc1, kc2, kc3, kc4, kc5, kc6, kc7, kc8, kc9, kc10, kc11, kc12, kc13, kc14, kc15, kc16, kc17, kc18, kc19, kc20, Int.reduceBEq, Int.reduceMul, Int.reduceSub, Pg.Pool_get_kept, Pg.Pool_set_kept, Pg.Pool_put_0, Pg.Pool_no_stretches, Pg.Pool_no___len__, Pg.Pool_no_has, Pg.Pool_no_number_at, Pg.Pool_no_place_of, Pg.Pool_no_first_from, Pg.Pool_no_joined, Pg.Pool_no_met, Pg.Pool_no_without, Pg.Pool_no_dealt, Pg.Pool_no___eq__, Pg.Pool_no___str__, Pg.Pool_no___repr__, insR]
end XP
set_option Elab.async false
set_option linter.all false
set_option maxRecDepth 100000
set_option maxHeartbeats 4000000
/-! pools: joined, met, without; the laws' own words over stretches -/
namespace XP
open PySem PySem.Spec L2 MP
/-! ### plain -/
theorem fw_ext {l m : List PRow} (v : Val l) (u : Val m) (e : ∀ x, has l x ↔ has m x) : fw l = fw m := fw_eq v (fw_canon u) fun x => (e x).trans (fw_has u x).symm
theorem Val.app {l m : List PRow} (v : Val l) (u : Val m) : Val (l ++ m) := fun p hp => (List.mem_append.mp hp).elim (v p) (u p)
theorem Val.fw {l : List PRow} (v : Val l) : Val (fw l) := (fw_canon v).2
theorem fw_mem {l : List PRow} (v : Val l) {p : PRow} (hp : p ∈ fw l) : (∃ q ∈ l, q.1 = p.1) ∧ ∃ q ∈ l, q.2 = p.2 := by
  obtain ⟨i, hi, e⟩ := List.getElem_of_mem hp
  have : p.1 ∈ sortU (lows l) ∧ p.2 ∈ sortU (highs l) := by
    unfold MP.fw at hp
    obtain ⟨a, b⟩ := p
    exact List.of_mem_zip hp
  rw [sortU_mem, sortU_mem] at this
  unfold lows highs at this
  obtain ⟨h1, h2⟩ := this
  obtain ⟨q, hq, e1⟩ := List.mem_map.mp h1
  obtain ⟨r, hr, e2⟩ := List.mem_map.mp h2
  exact ⟨⟨q, (List.mem_filter.mp hq).1, e1⟩, ⟨r, (List.mem_filter.mp hr).1, e2⟩⟩
theorem good_fw {l : List PRow} (g : Good l) : Good (fw l) := fun p hp => by
  obtain ⟨⟨q, hq, e1⟩, ⟨r, hr, e2⟩⟩ := fw_mem g.val hp
  have h1 := g q hq
  have h2 := g r hr
  have h3 := (fw_canon g.val).2 p hp
  omega
theorem Good.app {l m : List PRow} (v : Good l) (u : Good m) : Good (l ++ m) := fun p hp => (List.mem_append.mp hp).elim (v p) (u p)
/-- the meeting of two rows -/
def meet1 (p q : PRow) : PRow := (if q.1 > p.1 then q.1 else p.1, if q.2 < p.2 then q.2 else p.2)
def meetL (a b : List PRow) : List PRow := (a.flatMap fun p => b.map fun q => meet1 p q).filter fun r => decide (r.1 ≤ r.2)
theorem meetL_val (a b : List PRow) : Val (meetL a b) := fun p hp => by
  have := (List.mem_filter.mp hp).2
  simpa using this
theorem meetL_has (a b : List PRow) (x : Int) : has (meetL a b) x ↔ has a x ∧ has b x := by
  constructor
  · rintro ⟨r, hr, h1, h2⟩
    obtain ⟨hr, _⟩ := List.mem_filter.mp hr
    obtain ⟨p, hp, hr⟩ := List.mem_flatMap.mp hr
    obtain ⟨q, hq, rfl⟩ := List.mem_map.mp hr
    unfold meet1 at h1 h2
    dsimp only at h1 h2
    exact ⟨⟨p, hp, by split at h1 <;> omega, by split at h2 <;> omega⟩, ⟨q, hq, by split at h1 <;> omega, by split at h2 <;> omega⟩⟩
  · rintro ⟨⟨p, hp, h1, h2⟩, ⟨q, hq, h3, h4⟩⟩
    refine ⟨meet1 p q, List.mem_filter.mpr ⟨List.mem_flatMap.mpr ⟨p, hp, List.mem_map.mpr ⟨q, hq, rfl⟩⟩, ?_⟩, ?_, ?_⟩
    · unfold meet1
      simp only [decide_eq_true_eq]
      split <;> split <;> omega
    · unfold meet1
      dsimp only
      split <;> omega
    · unfold meet1
      dsimp only
      split <;> omega
def leftL (p : PRow) (lo hi : Int) : List PRow := [(p.1, if lo - 1 < p.2 then lo - 1 else p.2), (if hi + 1 > p.1 then hi + 1 else p.1, p.2)].filter fun r => decide (r.1 ≤ r.2)
def outL (a : List PRow) (b : List PRow) : List PRow := b.foldl (fun l r => l.flatMap fun p => leftL p r.1 r.2) a
theorem leftL_val (p : PRow) (lo hi : Int) : Val (leftL p lo hi) := fun r hr => by
  have := (List.mem_filter.mp hr).2
  simpa using this
theorem leftL_has {p : PRow} {lo hi x : Int} (h : lo ≤ hi) : has (leftL p lo hi) x ↔ (p.1 ≤ x ∧ x ≤ p.2) ∧ ¬ (lo ≤ x ∧ x ≤ hi) := by
  constructor
  · rintro ⟨r, hr, h1, h2⟩
    obtain ⟨hr, _⟩ := List.mem_filter.mp hr
    simp only [List.mem_cons, List.not_mem_nil, or_false] at hr
    rcases hr with rfl | rfl
    · dsimp only at h1 h2
      split at h2 <;> omega
    · dsimp only at h1 h2
      split at h1 <;> omega
  · rintro ⟨⟨h1, h2⟩, h3⟩
    by_cases hx : x < lo
    · refine ⟨(p.1, if lo - 1 < p.2 then lo - 1 else p.2), List.mem_filter.mpr ⟨by simp, ?_⟩, h1, ?_⟩
      · simp only [decide_eq_true_eq]
        split <;> omega
      · dsimp only
        split <;> omega
    · refine ⟨(if hi + 1 > p.1 then hi + 1 else p.1, p.2), List.mem_filter.mpr ⟨by simp, ?_⟩, ?_, h2⟩
      · simp only [decide_eq_true_eq]
        split <;> omega
      · dsimp only
        split <;> omega
theorem leftsL_has {l : List PRow} {lo hi x : Int} (h : lo ≤ hi) : has (l.flatMap fun p => leftL p lo hi) x ↔ has l x ∧ ¬ (lo ≤ x ∧ x ≤ hi) := by
  constructor
  · rintro ⟨r, hr, h1, h2⟩
    obtain ⟨p, hp, hr⟩ := List.mem_flatMap.mp hr
    have := (leftL_has (p := p) (x := x) h).mp ⟨r, hr, h1, h2⟩
    exact ⟨⟨p, hp, this.1⟩, this.2⟩
  · rintro ⟨⟨p, hp, h1⟩, h2⟩
    obtain ⟨r, hr, h3⟩ := (leftL_has (p := p) (x := x) h).mpr ⟨h1, h2⟩
    exact ⟨r, List.mem_flatMap.mpr ⟨p, hp, hr⟩, h3⟩
theorem leftsL_val (l : List PRow) (lo hi : Int) : Val (l.flatMap fun p => leftL p lo hi) := fun r hr => by
  obtain ⟨p, hp, hr⟩ := List.mem_flatMap.mp hr
  exact leftL_val p lo hi r hr
theorem outL_val : ∀ (b a : List PRow), Val a → Val (outL a b)
  | [], a, v => v
  | r :: b, a, v => outL_val b _ (leftsL_val a r.1 r.2)
theorem outL_has (x : Int) : ∀ (b a : List PRow), Val b → (has (outL a b) x ↔ has a x ∧ ¬ has b x)
  | [], a, _ => by simp [outL, has]
  | r :: b, a, v => by
    have ih := outL_has x b (a.flatMap fun p => leftL p r.1 r.2) (fun p hp => v p (List.mem_cons_of_mem _ hp))
    have e : outL a (r :: b) = outL (a.flatMap fun p => leftL p r.1 r.2) b := rfl
    rw [e, ih, leftsL_has (v r List.mem_cons_self)]
    have : has (r :: b) x ↔ (r.1 ≤ x ∧ x ≤ r.2) ∨ has b x := by simp [has]
    rw [this]
    constructor
    · rintro ⟨⟨h1, h2⟩, h3⟩
      exact ⟨h1, fun z => z.elim h2 h3⟩
    · rintro ⟨h1, h2⟩
      exact ⟨⟨h1, fun z => h2 (.inl z)⟩, fun z => h2 (.inr z)⟩
theorem leftL_len (p : PRow) (lo hi : Int) : (leftL p lo hi).length ≤ 2 := Nat.le_trans (List.length_filter_le ..) (Nat.le_refl 2)
/-- what is left of rows that lie apart -/
def Apart (l : List PRow) : Prop := l.Pairwise fun p q => p.2 < q.1
theorem Canon.apart {l : List PRow} (c : Canon l) : Apart l := c.1.imp fun h => by omega
theorem leftL_one {p : PRow} {lo hi : Int} (h : ¬ (p.1 ≤ lo - 1 ∧ hi + 1 ≤ p.2)) : (leftL p lo hi).length ≤ 1 := by
  unfold leftL
  by_cases h1 : p.1 ≤ lo - 1
  · have h2 : ¬ ((if hi + 1 > p.1 then hi + 1 else p.1) ≤ p.2) := by split <;> omega
    rw [List.filter_cons]
    split <;> simp only [List.filter_cons, List.filter_nil, decide_eq_true_eq, h2, if_false] <;> split <;> simp
  · have h2 : ¬ (p.1 ≤ (if lo - 1 < p.2 then lo - 1 else p.2)) := by split <;> omega
    rw [List.filter_cons, if_neg (by simpa using h2)]
    exact List.length_filter_le ..
theorem lensA {lo hi : Int} : ∀ {l : List PRow}, (∀ q ∈ l, lo ≤ q.1) → (l.flatMap fun p => leftL p lo hi).length ≤ l.length
  | [], _ => by simp
  | p :: l, h => by
    have a := leftL_one (p := p) (lo := lo) (hi := hi) (by have := h p List.mem_cons_self; omega)
    have b := lensA (lo := lo) (hi := hi) (l := l) fun q hq => h q (List.mem_cons_of_mem _ hq)
    rw [List.flatMap_cons, List.length_append, List.length_cons]
    omega
theorem lensB {lo hi : Int} (hh : lo ≤ hi) : ∀ {l : List PRow}, Apart l → (l.flatMap fun p => leftL p lo hi).length ≤ l.length + 1
  | [], _ => by simp
  | p :: l, h => by
    obtain ⟨h1, h2⟩ := List.pairwise_cons.mp h
    rw [List.flatMap_cons, List.length_append, List.length_cons]
    by_cases z : p.1 ≤ lo - 1 ∧ hi + 1 ≤ p.2
    · have a := leftL_len p lo hi
      have b := lensA (lo := lo) (hi := hi) (l := l) fun q hq => by have := h1 q hq; omega
      omega
    · have a := leftL_one z
      have b := lensB hh (l := l) h2
      omega
theorem leftL_in {p r : PRow} {lo hi : Int} (h : r ∈ leftL p lo hi) : p.1 ≤ r.1 ∧ r.2 ≤ p.2 := by
  obtain ⟨h, h1⟩ := List.mem_filter.mp h
  simp only [List.mem_cons, List.not_mem_nil, or_false] at h
  simp only [decide_eq_true_eq] at h1
  rcases h with rfl | rfl
  · dsimp only at h1 ⊢
    split at h1 <;> split <;> omega
  · dsimp only at h1 ⊢
    split at h1 <;> split <;> omega
theorem lefts_apart {lo hi : Int} (hh : lo ≤ hi) {l : List PRow} (h : Apart l) : Apart (l.flatMap fun p => leftL p lo hi) := by
  refine List.pairwise_flatMap.mpr ⟨fun p _ => ?_, h.imp fun {p q} hpq x hx y hy => ?_⟩
  · refine List.Pairwise.filter _ (List.pairwise_cons.mpr ⟨fun q hq => ?_, List.pairwise_singleton ..⟩)
    rw [List.mem_singleton.mp hq]
    dsimp only
    split <;> split <;> omega
  · have a := leftL_in hx
    have b := leftL_in hy
    omega
theorem outL_len : ∀ {b a : List PRow}, Apart a → Val b → (outL a b).length ≤ a.length + b.length ∧ Apart (outL a b)
  | [], a, h, _ => ⟨Nat.le_refl _, h⟩
  | r :: b, a, h, v => by
    have hr := v r List.mem_cons_self
    have ih := outL_len (b := b) (lefts_apart hr h) fun p hp => v p (List.mem_cons_of_mem _ hp)
    have l1 := lensB hr h
    have e : outL a (r :: b) = outL (a.flatMap fun p => leftL p r.1 r.2) b := rfl
    rw [e, List.length_cons]
    exact ⟨by omega, ih.2⟩
end XP
set_option Elab.async false
set_option linter.all false
set_option maxRecDepth 100000
set_option maxHeartbeats 400000
/-! pools: joined, met, without -/
namespace XP
open PySem PySem.Spec L2 MP
theorem compL2_map {α : Type} {ok : AH → Bool} {own own1 : List Nat} {g g1 : CT} {t t1 : MT} {m1 : MI} {e : ME} {s : Sl} {h : AH} (c : Nat) (k : α → D) (f : α → List D) (hok : ok h = true) :
    ∀ (as : List α) (acc : List D), (∀ a ∈ as, (f a).length ≤ c ∧ ∃ s1 k1, g.set (k a) (wipeD s own) = some s1 ∧ t s1 h = .ok true h ∧ m1 s1 h = .ok k1 h ∧ ∀ acc : List D, acc.length + c ≤ 100000 → compL k1.ok own1 g1 t1 e k1.xs s1 h acc = .ok (acc ++ f a) h) → acc.length + c * as.length ≤ 100000 →
      compL2 ok own own1 g t m1 g1 t1 e (as.map k) s h acc = .ok (acc ++ as.flatMap f) h
  | [], acc, _, _ => by simp [compL2, hok]
  | a :: as, acc, st, hl => by
    obtain ⟨hc, s1, k1, e1, e2, e3, e4⟩ := st a List.mem_cons_self
    have ih := compL2_map (ok := ok) (own := own) (own1 := own1) (g := g) (g1 := g1) (t := t) (t1 := t1) (m1 := m1) (e := e) (s := s) (h := h) c k f hok as (acc ++ f a) (fun b hb => st b (List.mem_cons_of_mem _ hb)) (by
      rw [List.length_cons, Nat.mul_add] at hl
      rw [List.length_append]
      omega)
    rw [List.length_cons, Nat.mul_add] at hl
    simp only [List.map_cons, compL2, hok, if_true, e1, e2, e3, e4 acc (by omega), Res.bind, ih, List.flatMap_cons, List.append_assoc]
theorem add_rows (h : AH) (a b : List PRow) (hl : a.length + b.length ≤ 100000) : pAdd h (rowsD a) (rowsD b) = some (rowsD (a ++ b)) := by
  unfold rowsD
  rw [List.map_append]
  simp only [pAdd, List.length_map, hl, if_true]
theorem kept_is (m : List PRow) (h : AH) : insOf h (plD m) = some (0, 18, [(("kept" : Str), rowsD m)]) := rfl
theorem kept_isT (m : List PRow) (h : AH) : insOf h (plD m) = some (0, 18, [(("kept" : Str), .tup (m.map tupP))]) := rfl
theorem stretches_isT (m : List PRow) (h : AH) : Pg.f_Pool_stretches [plD m] h = .ok (.tup (m.map tupP)) h := stretches_is m h
theorem told_tup {ps : List PRow} (v : Val ps) (hl : ps.length < 90000) (h : AH) : Pg.f_told_pool [rowsD ps] h = .ok (plD (fw ps)) h := told_ok .tup v hl h
theorem told_lst {ps : List PRow} (v : Val ps) (hl : ps.length < 90000) (h : AH) : Pg.f_told_pool [.lst (ps.map tupP)] h = .ok (plD (fw ps)) h := told_ok .lst v hl h
theorem joined_ok {a b : List PRow} (va : Val a) (vb : Val b) (hl : a.length + b.length < 90000) (h : AH) : Pg.f_Pool_joined [plD a, plD b] h = .ok (plD (fw (a ++ b))) h := by
  have t := fun h => told_tup (Val.app va vb) (by rw [List.length_append]; exact hl) h
  refine fnG_same ?_ (plD_und _ _)
  simp (disch := omega) only [fnM, eVar, eC, eBin, eUn, aNil, aCons, eTup, eLst, eLstN, eFn, eIf, eFld, eCall, eMeth, eMake, tst, tstB, MP.tAnd, MP.tOr, MP.tNot, eAnd, eOr, eNot, eChain, truth, optR, Res.bind, Res.bindS, sNil, sSeq, sExp, sRet, sRetN, sIf, sAsg, sSet, sPar, MP.sFld, MP.sFldAug, sFor, nxO, gNm, gFld, gIx, setIx, setFld, gsNil, gsCons, gTp, gLs, MP.iRng1, MP.iRng2, iSeq, iLst, MP.iTup, seqL, seqM, seqT, seqX, eIsi, tyName, isi_ii, isi_ib, isi_bi, isi_bb, isi_ni, isi_si, isi_ss, isi_is, isi_tt, isi_ti, isi_li, pSub, pMulA_int, pMul_ok, pDiv_ok, pMod_ok, pNeg, pLt, pLe, pGt, pGe, pEq, pNe, pEqB, sEq, pIs, pIsNot, MP.isNon, pIx, fAbs, fMax2, fMin2, fInt, fLen, gSel, pick, AH.put_g, AH.put_n, AH.new_g, AH.new_n, AH.put_put, AH.new_put, List.length_cons, List.length_nil, List.map_cons, List.map_nil, List.cons_append, List.nil_append, List.append_nil, List.replicate, List.getElem?_cons_zero, List.getElem?_cons_succ, List.getElem?_nil, List.set_cons_zero, List.set_cons_succ, List.flatMap_cons, List.flatMap_nil, List.drop_zero, List.drop_succ_cons, List.drop_nil, List.take_succ_cons, List.take_zero, List.take_nil, List.contains_cons, List.contains_nil, Bool.or_false, Bool.or_true, Bool.true_or, Bool.false_or, Bool.and_true, Bool.and_false, Bool.not_true, Bool.not_false, beq_self_eq_true, Nat.reduceAdd, Nat.reduceSub, Nat.reduceLeDiff, Nat.reduceLT, Nat.reduceEqDiff, Nat.reduceBEq, Int.reduceToNat, ↓reduceIte, reduceIte, Bool.false_eq_true, ne_true_f, decide_eq_true_eq, and_self, and_true, true_and, Nat.zero_le, Option.map_some, Option.map_none, Option.bind_some, Int.reduceLT, Int.reduceLE, Int.reduceNeg, decide_true, decide_false, ixN_0, ixN_1, ixN_2, ixN_3, ixN_m1, atI_1, atI_2, atI_3, eq_self, Option.some.injEq, false_and, atI_0, Nat.zero_add, Nat.add_zero, pow10_18, pow10_10, pow10_11, pow10_6, sRaise, sRaise0, sTryO, noEx, fAny, fAll, blsL, compL, wipeD, CT.set, eComp, eCompN, lstOk, fSum, fTuple, fList, sAug, pAddI, pSubI, pIn, pNotIn, inB, MP.iZip, iEnumA, fSortP, fSortSet, eSl, partD, zipD_ints, pairsL_map, eBm, mAppend, List.any_cons, List.any_nil, List.all_cons, List.all_nil, id, List.length_append, List.zip_cons_cons, List.zip_nil_left, List.reverse_cons, List.reverse_nil, eqb_int, eqb_str, eqb_bl, kc0, kc1, kc2, kc3, kc4, kc5, kc6, kc7, kc8, kc9, kc10, kc11, kc12, kc13, kc14, kc15, kc16, kc17, kc18, kc19, kc20, Int.reduceBEq, Int.reduceMul, Int.reduceSub, Pg.Pool_get_kept, Pg.Pool_set_kept, Pg.Pool_put_0, Pg.Pool_no_stretches, Pg.Pool_no___len__, Pg.Pool_no_has, Pg.Pool_no_number_at, Pg.Pool_no_place_of, Pg.Pool_no_first_from, Pg.Pool_no_joined, Pg.Pool_no_met, Pg.Pool_no_without, Pg.Pool_no_dealt, Pg.Pool_no___eq__, Pg.Pool_no___str__, Pg.Pool_no___repr__, Pg.b_Pool_joined, kept_is, stretches_is, add_rows _ a b (by omega), t]
theorem len_meet (a b : List PRow) : (a.flatMap fun p => b.map fun q => meet1 p q).length = a.length * b.length := by
  induction a with
  | nil => simp
  | cons p a ih => simp only [List.flatMap_cons, List.length_append, List.length_map, List.length_cons, Nat.add_mul, ih]; omega
theorem met_ok {a b : List PRow} (hl : a.length * b.length < 90000) (hb : b.length < 90000) (h : AH) : Pg.f_Pool_met [plD a, plD b] h = .ok (plD (fw (meetL a b))) h := by
  have st := stretches_is b
  have C := compL2_map (ok := fun _ => true) (own := [3, 4, 5, 6]) (own1 := [5, 6]) (g := .tup [3, 4]) (t := tYesD) (m1 := Pg.I_Pool_met_1) (g1 := .tup [5, 6]) (t1 := tYesD) (e := Pg.E_Pool_met_1) (s := [some (plD a), some (plD b), none, none, none, none, none, none, none]) (h := h) b.length tupP (fun p => (b.map fun q => meet1 p q).map tupP) rfl a []
    (fun p _ => ⟨by simp, [some (plD a), some (plD b), none, some (.int p.1), some (.int p.2), none, none, none, none], ⟨b.map tupP, fun _ => true⟩, rfl, rfl, by
      simp (disch := omega) only [fnM, eVar, eC, eBin, eUn, aNil, aCons, eTup, eLst, eLstN, eFn, eIf, eFld, eCall, eMeth, eMake, tst, tstB, MP.tAnd, MP.tOr, MP.tNot, eAnd, eOr, eNot, eChain, truth, optR, Res.bind, Res.bindS, sNil, sSeq, sExp, sRet, sRetN, sIf, sAsg, sSet, sPar, MP.sFld, MP.sFldAug, sFor, nxO, gNm, gFld, gIx, setIx, setFld, gsNil, gsCons, gTp, gLs, MP.iRng1, MP.iRng2, iSeq, iLst, MP.iTup, seqL, seqM, seqT, seqX, eIsi, tyName, isi_ii, isi_ib, isi_bi, isi_bb, isi_ni, isi_si, isi_ss, isi_is, isi_tt, isi_ti, isi_li, pAdd, pSub, pMulA_int, pMul_ok, pDiv_ok, pMod_ok, pNeg, pLt, pLe, pGt, pGe, pEq, pNe, pEqB, sEq, pIs, pIsNot, MP.isNon, pIx, fAbs, fMax2, fMin2, fInt, fLen, gSel, pick, AH.put_g, AH.put_n, AH.new_g, AH.new_n, AH.put_put, AH.new_put, List.length_cons, List.length_nil, List.map_cons, List.map_nil, List.cons_append, List.nil_append, List.append_nil, List.replicate, List.getElem?_cons_zero, List.getElem?_cons_succ, List.getElem?_nil, List.set_cons_zero, List.set_cons_succ, List.flatMap_cons, List.flatMap_nil, List.drop_zero, List.drop_succ_cons, List.drop_nil, List.take_succ_cons, List.take_zero, List.take_nil, List.contains_cons, List.contains_nil, Bool.or_false, Bool.or_true, Bool.true_or, Bool.false_or, Bool.and_true, Bool.and_false, Bool.not_true, Bool.not_false, beq_self_eq_true, Nat.reduceAdd, Nat.reduceSub, Nat.reduceLeDiff, Nat.reduceLT, Nat.reduceEqDiff, Nat.reduceBEq, Int.reduceToNat, ↓reduceIte, reduceIte, Bool.false_eq_true, ne_true_f, decide_eq_true_eq, and_self, and_true, true_and, Nat.zero_le, Option.map_some, Option.map_none, Option.bind_some, Int.reduceLT, Int.reduceLE, Int.reduceNeg, decide_true, decide_false, ixN_0, ixN_1, ixN_2, ixN_3, ixN_m1, atI_1, atI_2, atI_3, eq_self, Option.some.injEq, false_and, atI_0, Nat.zero_add, Nat.add_zero, pow10_18, pow10_10, pow10_11, pow10_6, sRaise, sRaise0, sTryO, noEx, fAny, fAll, blsL, compL, wipeD, CT.set, eComp, eCompN, lstOk, fSum, fTuple, fList, sAug, pAddI, pSubI, pIn, pNotIn, inB, MP.iZip, iEnumA, fSortP, fSortSet, eSl, partD, zipD_ints, pairsL_map, eBm, mAppend, List.any_cons, List.any_nil, List.all_cons, List.all_nil, id, List.length_append, List.zip_cons_cons, List.zip_nil_left, List.reverse_cons, List.reverse_nil, eqb_int, eqb_str, eqb_bl, kc0, kc1, kc2, kc3, kc4, kc5, kc6, kc7, kc8, kc9, kc10, kc11, kc12, kc13, kc14, kc15, kc16, kc17, kc18, kc19, kc20, Int.reduceBEq, Int.reduceMul, Int.reduceSub, Pg.Pool_get_kept, Pg.Pool_set_kept, Pg.Pool_put_0, Pg.Pool_no_stretches, Pg.Pool_no___len__, Pg.Pool_no_has, Pg.Pool_no_number_at, Pg.Pool_no_place_of, Pg.Pool_no_first_from, Pg.Pool_no_joined, Pg.Pool_no_met, Pg.Pool_no_without, Pg.Pool_no_dealt, Pg.Pool_no___eq__, Pg.Pool_no___str__, Pg.Pool_no___repr__, Pg.I_Pool_met_1, iSeqT, iAlt, isTxtD, kept_is, st, rowsD], fun acc ha => by
      have C1 := compL_map (ok := fun _ => true) (own := [5, 6]) (g := .tup [5, 6]) (t := tYesD) (e := Pg.E_Pool_met_1) (s := [some (plD a), some (plD b), none, some (.int p.1), some (.int p.2), none, none, none, none]) (h := h) tupP (fun _ => true) (fun q => tupP (meet1 p q)) rfl b acc (fun q _ => ⟨[some (plD a), some (plD b), none, some (.int p.1), some (.int p.2), some (.int q.1), some (.int q.2), none, none], rfl, rfl, fun _ => by
        simp (disch := omega) only [fnM, eVar, eC, eBin, eUn, aNil, aCons, eTup, eLst, eLstN, eFn, eIf, eFld, eCall, eMeth, eMake, insOf, tst, tstB, MP.tAnd, MP.tOr, MP.tNot, eAnd, eOr, eNot, eChain, truth, optR, Res.bind, Res.bindS, sNil, sSeq, sExp, sRet, sRetN, sIf, sAsg, sSet, sPar, MP.sFld, MP.sFldAug, sFor, nxO, gNm, gFld, gIx, setIx, setFld, gsNil, gsCons, gTp, gLs, MP.iRng1, MP.iRng2, iSeq, iLst, MP.iTup, seqL, seqM, seqT, seqX, eIsi, tyName, isi_ii, isi_ib, isi_bi, isi_bb, isi_ni, isi_si, isi_ss, isi_is, isi_tt, isi_ti, isi_li, pAdd, pSub, pMulA_int, pMul_ok, pDiv_ok, pMod_ok, pNeg, pLt, pLe, pGt, pGe, pEq, pNe, pEqB, sEq, pIs, pIsNot, MP.isNon, pIx, fAbs, fMax2, fMin2, fInt, fLen, gSel, pick, AH.put_g, AH.put_n, AH.new_g, AH.new_n, AH.put_put, AH.new_put, List.length_cons, List.length_nil, List.map_cons, List.map_nil, List.cons_append, List.nil_append, List.append_nil, List.replicate, List.getElem?_cons_zero, List.getElem?_cons_succ, List.getElem?_nil, List.set_cons_zero, List.set_cons_succ, List.flatMap_cons, List.flatMap_nil, List.drop_zero, List.drop_succ_cons, List.drop_nil, List.take_succ_cons, List.take_zero, List.take_nil, List.contains_cons, List.contains_nil, Bool.or_false, Bool.or_true, Bool.true_or, Bool.false_or, Bool.and_true, Bool.and_false, Bool.not_true, Bool.not_false, beq_self_eq_true, Nat.reduceAdd, Nat.reduceSub, Nat.reduceLeDiff, Nat.reduceLT, Nat.reduceEqDiff, Nat.reduceBEq, Int.reduceToNat, ↓reduceIte, reduceIte, Bool.false_eq_true, ne_true_f, decide_eq_true_eq, and_self, and_true, true_and, Nat.zero_le, Option.map_some, Option.map_none, Option.bind_some, Int.reduceLT, Int.reduceLE, Int.reduceNeg, decide_true, decide_false, ixN_0, ixN_1, ixN_2, ixN_3, ixN_m1, atI_1, atI_2, atI_3, eq_self, Option.some.injEq, false_and, atI_0, Nat.zero_add, Nat.add_zero, pow10_18, pow10_10, pow10_11, pow10_6, sRaise, sRaise0, sTryO, noEx, fAny, fAll, blsL, compL, wipeD, CT.set, eComp, eCompN, lstOk, fSum, fTuple, fList, sAug, pAddI, pSubI, pIn, pNotIn, inB, MP.iZip, iEnumA, fSortP, fSortSet, eSl, partD, zipD_ints, pairsL_map, eBm, mAppend, List.any_cons, List.any_nil, List.all_cons, List.all_nil, id, List.length_append, List.zip_cons_cons, List.zip_nil_left, List.reverse_cons, List.reverse_nil, eqb_int, eqb_str, eqb_bl, kc0, kc1, kc2, kc3, kc4, kc5, kc6, kc7, kc8, kc9, kc10, kc11, kc12, kc13, kc14, kc15, kc16, kc17, kc18, kc19, kc20, Int.reduceBEq, Int.reduceMul, Int.reduceSub, Pg.Pool_get_kept, Pg.Pool_set_kept, Pg.Pool_put_0, Pg.Pool_no_stretches, Pg.Pool_no___len__, Pg.Pool_no_has, Pg.Pool_no_number_at, Pg.Pool_no_place_of, Pg.Pool_no_first_from, Pg.Pool_no_joined, Pg.Pool_no_met, Pg.Pool_no_without, Pg.Pool_no_dealt, Pg.Pool_no___eq__, Pg.Pool_no___str__, Pg.Pool_no___repr__, Pg.E_Pool_met_1]
        rfl⟩) (by omega)
      rw [filter_true] at C1
      rw [C1, List.map_map]
      rfl⟩) (by rw [List.length_nil, Nat.mul_comm]; omega)
  have e1 : (a.flatMap fun p => (b.map fun q => meet1 p q).map tupP) = (a.flatMap fun p => b.map fun q => meet1 p q).map tupP := by rw [List.map_flatMap]
  rw [e1, List.nil_append] at C
  have C2 := fun y => compL_map (ok := fun _ => true) (own := [7, 8]) (g := .tup [7, 8]) (t := Pg.Q_Pool_met_2) (e := Pg.E_Pool_met_2) (s := [some (plD a), some (plD b), some y, none, none, none, none, none, none]) (h := h) tupP (fun r => decide (r.1 ≤ r.2)) (fun r => tupP r) rfl (a.flatMap fun p => b.map fun q => meet1 p q) [] (fun r _ => ⟨[some (plD a), some (plD b), some y, none, none, none, none, some (.int r.1), some (.int r.2)], rfl, by
    simp (disch := omega) only [fnM, eVar, eC, eBin, eUn, aNil, aCons, eTup, eLst, eLstN, eFn, eIf, eFld, eCall, eMeth, eMake, insOf, tst, tstB, MP.tAnd, MP.tOr, MP.tNot, eAnd, eOr, eNot, eChain, truth, optR, Res.bind, Res.bindS, sNil, sSeq, sExp, sRet, sRetN, sIf, sAsg, sSet, sPar, MP.sFld, MP.sFldAug, sFor, nxO, gNm, gFld, gIx, setIx, setFld, gsNil, gsCons, gTp, gLs, MP.iRng1, MP.iRng2, iSeq, iLst, MP.iTup, seqL, seqM, seqT, seqX, eIsi, tyName, isi_ii, isi_ib, isi_bi, isi_bb, isi_ni, isi_si, isi_ss, isi_is, isi_tt, isi_ti, isi_li, pAdd, pSub, pMulA_int, pMul_ok, pDiv_ok, pMod_ok, pNeg, pLt, pLe, pGt, pGe, pEq, pNe, pEqB, sEq, pIs, pIsNot, MP.isNon, pIx, fAbs, fMax2, fMin2, fInt, fLen, gSel, pick, AH.put_g, AH.put_n, AH.new_g, AH.new_n, AH.put_put, AH.new_put, List.length_cons, List.length_nil, List.map_cons, List.map_nil, List.cons_append, List.nil_append, List.append_nil, List.replicate, List.getElem?_cons_zero, List.getElem?_cons_succ, List.getElem?_nil, List.set_cons_zero, List.set_cons_succ, List.flatMap_cons, List.flatMap_nil, List.drop_zero, List.drop_succ_cons, List.drop_nil, List.take_succ_cons, List.take_zero, List.take_nil, List.contains_cons, List.contains_nil, Bool.or_false, Bool.or_true, Bool.true_or, Bool.false_or, Bool.and_true, Bool.and_false, Bool.not_true, Bool.not_false, beq_self_eq_true, Nat.reduceAdd, Nat.reduceSub, Nat.reduceLeDiff, Nat.reduceLT, Nat.reduceEqDiff, Nat.reduceBEq, Int.reduceToNat, ↓reduceIte, reduceIte, Bool.false_eq_true, ne_true_f, decide_eq_true_eq, and_self, and_true, true_and, Nat.zero_le, Option.map_some, Option.map_none, Option.bind_some, Int.reduceLT, Int.reduceLE, Int.reduceNeg, decide_true, decide_false, ixN_0, ixN_1, ixN_2, ixN_3, ixN_m1, atI_1, atI_2, atI_3, eq_self, Option.some.injEq, false_and, atI_0, Nat.zero_add, Nat.add_zero, pow10_18, pow10_10, pow10_11, pow10_6, sRaise, sRaise0, sTryO, noEx, fAny, fAll, blsL, compL, wipeD, CT.set, eComp, eCompN, lstOk, fSum, fTuple, fList, sAug, pAddI, pSubI, pIn, pNotIn, inB, MP.iZip, iEnumA, fSortP, fSortSet, eSl, partD, zipD_ints, pairsL_map, eBm, mAppend, List.any_cons, List.any_nil, List.all_cons, List.all_nil, id, List.length_append, List.zip_cons_cons, List.zip_nil_left, List.reverse_cons, List.reverse_nil, eqb_int, eqb_str, eqb_bl, kc0, kc1, kc2, kc3, kc4, kc5, kc6, kc7, kc8, kc9, kc10, kc11, kc12, kc13, kc14, kc15, kc16, kc17, kc18, kc19, kc20, Int.reduceBEq, Int.reduceMul, Int.reduceSub, Pg.Pool_get_kept, Pg.Pool_set_kept, Pg.Pool_put_0, Pg.Pool_no_stretches, Pg.Pool_no___len__, Pg.Pool_no_has, Pg.Pool_no_number_at, Pg.Pool_no_place_of, Pg.Pool_no_first_from, Pg.Pool_no_joined, Pg.Pool_no_met, Pg.Pool_no_without, Pg.Pool_no_dealt, Pg.Pool_no___eq__, Pg.Pool_no___str__, Pg.Pool_no___repr__, Pg.Q_Pool_met_2], fun _ => by
    simp (disch := omega) only [fnM, eVar, eC, eBin, eUn, aNil, aCons, eTup, eLst, eLstN, eFn, eIf, eFld, eCall, eMeth, eMake, insOf, tst, tstB, MP.tAnd, MP.tOr, MP.tNot, eAnd, eOr, eNot, eChain, truth, optR, Res.bind, Res.bindS, sNil, sSeq, sExp, sRet, sRetN, sIf, sAsg, sSet, sPar, MP.sFld, MP.sFldAug, sFor, nxO, gNm, gFld, gIx, setIx, setFld, gsNil, gsCons, gTp, gLs, MP.iRng1, MP.iRng2, iSeq, iLst, MP.iTup, seqL, seqM, seqT, seqX, eIsi, tyName, isi_ii, isi_ib, isi_bi, isi_bb, isi_ni, isi_si, isi_ss, isi_is, isi_tt, isi_ti, isi_li, pAdd, pSub, pMulA_int, pMul_ok, pDiv_ok, pMod_ok, pNeg, pLt, pLe, pGt, pGe, pEq, pNe, pEqB, sEq, pIs, pIsNot, MP.isNon, pIx, fAbs, fMax2, fMin2, fInt, fLen, gSel, pick, AH.put_g, AH.put_n, AH.new_g, AH.new_n, AH.put_put, AH.new_put, List.length_cons, List.length_nil, List.map_cons, List.map_nil, List.cons_append, List.nil_append, List.append_nil, List.replicate, List.getElem?_cons_zero, List.getElem?_cons_succ, List.getElem?_nil, List.set_cons_zero, List.set_cons_succ, List.flatMap_cons, List.flatMap_nil, List.drop_zero, List.drop_succ_cons, List.drop_nil, List.take_succ_cons, List.take_zero, List.take_nil, List.contains_cons, List.contains_nil, Bool.or_false, Bool.or_true, Bool.true_or, Bool.false_or, Bool.and_true, Bool.and_false, Bool.not_true, Bool.not_false, beq_self_eq_true, Nat.reduceAdd, Nat.reduceSub, Nat.reduceLeDiff, Nat.reduceLT, Nat.reduceEqDiff, Nat.reduceBEq, Int.reduceToNat, ↓reduceIte, reduceIte, Bool.false_eq_true, ne_true_f, decide_eq_true_eq, and_self, and_true, true_and, Nat.zero_le, Option.map_some, Option.map_none, Option.bind_some, Int.reduceLT, Int.reduceLE, Int.reduceNeg, decide_true, decide_false, ixN_0, ixN_1, ixN_2, ixN_3, ixN_m1, atI_1, atI_2, atI_3, eq_self, Option.some.injEq, false_and, atI_0, Nat.zero_add, Nat.add_zero, pow10_18, pow10_10, pow10_11, pow10_6, sRaise, sRaise0, sTryO, noEx, fAny, fAll, blsL, compL, wipeD, CT.set, eComp, eCompN, lstOk, fSum, fTuple, fList, sAug, pAddI, pSubI, pIn, pNotIn, inB, MP.iZip, iEnumA, fSortP, fSortSet, eSl, partD, zipD_ints, pairsL_map, eBm, mAppend, List.any_cons, List.any_nil, List.all_cons, List.all_nil, id, List.length_append, List.zip_cons_cons, List.zip_nil_left, List.reverse_cons, List.reverse_nil, eqb_int, eqb_str, eqb_bl, kc0, kc1, kc2, kc3, kc4, kc5, kc6, kc7, kc8, kc9, kc10, kc11, kc12, kc13, kc14, kc15, kc16, kc17, kc18, kc19, kc20, Int.reduceBEq, Int.reduceMul, Int.reduceSub, Pg.Pool_get_kept, Pg.Pool_set_kept, Pg.Pool_put_0, Pg.Pool_no_stretches, Pg.Pool_no___len__, Pg.Pool_no_has, Pg.Pool_no_number_at, Pg.Pool_no_place_of, Pg.Pool_no_first_from, Pg.Pool_no_joined, Pg.Pool_no_met, Pg.Pool_no_without, Pg.Pool_no_dealt, Pg.Pool_no___eq__, Pg.Pool_no___str__, Pg.Pool_no___repr__, Pg.E_Pool_met_2]
    rfl⟩) (by rw [len_meet, List.length_nil]; omega)
  have t := fun h => told_lst (meetL_val a b) (Nat.lt_of_le_of_lt (List.length_filter_le ..) (by rw [len_meet]; exact hl)) h
  refine fnG_same ?_ (plD_und _ _)
  simp (disch := omega) only [fnM, eVar, eC, eBin, eUn, aNil, aCons, eTup, eLst, eLstN, eFn, eIf, eFld, eCall, eMeth, eMake, tst, tstB, MP.tAnd, MP.tOr, MP.tNot, eAnd, eOr, eNot, eChain, truth, optR, Res.bind, Res.bindS, sNil, sSeq, sExp, sRet, sRetN, sIf, sAsg, sSet, sPar, MP.sFld, MP.sFldAug, sFor, nxO, gNm, gFld, gIx, setIx, setFld, gsNil, gsCons, gTp, gLs, MP.iRng1, MP.iRng2, iSeq, iLst, MP.iTup, seqL, seqM, seqT, seqX, eIsi, tyName, isi_ii, isi_ib, isi_bi, isi_bb, isi_ni, isi_si, isi_ss, isi_is, isi_tt, isi_ti, isi_li, pAdd, pSub, pMulA_int, pMul_ok, pDiv_ok, pMod_ok, pNeg, pLt, pLe, pGt, pGe, pEq, pNe, pEqB, sEq, pIs, pIsNot, MP.isNon, pIx, fAbs, fMax2, fMin2, fInt, fLen, gSel, pick, AH.put_g, AH.put_n, AH.new_g, AH.new_n, AH.put_put, AH.new_put, List.length_cons, List.length_nil, List.map_cons, List.map_nil, List.cons_append, List.nil_append, List.append_nil, List.replicate, List.getElem?_cons_zero, List.getElem?_cons_succ, List.getElem?_nil, List.set_cons_zero, List.set_cons_succ, List.flatMap_cons, List.flatMap_nil, List.drop_zero, List.drop_succ_cons, List.drop_nil, List.take_succ_cons, List.take_zero, List.take_nil, List.contains_cons, List.contains_nil, Bool.or_false, Bool.or_true, Bool.true_or, Bool.false_or, Bool.and_true, Bool.and_false, Bool.not_true, Bool.not_false, beq_self_eq_true, Nat.reduceAdd, Nat.reduceSub, Nat.reduceLeDiff, Nat.reduceLT, Nat.reduceEqDiff, Nat.reduceBEq, Int.reduceToNat, ↓reduceIte, reduceIte, Bool.false_eq_true, ne_true_f, decide_eq_true_eq, and_self, and_true, true_and, Nat.zero_le, Option.map_some, Option.map_none, Option.bind_some, Int.reduceLT, Int.reduceLE, Int.reduceNeg, decide_true, decide_false, ixN_0, ixN_1, ixN_2, ixN_3, ixN_m1, atI_1, atI_2, atI_3, eq_self, Option.some.injEq, false_and, atI_0, Nat.zero_add, Nat.add_zero, pow10_18, pow10_10, pow10_11, pow10_6, sRaise, sRaise0, sTryO, noEx, fAny, fAll, blsL, compL, wipeD, CT.set, eComp, eCompN, lstOk, fSum, fTuple, fList, sAug, pAddI, pSubI, pIn, pNotIn, inB, MP.iZip, iEnumA, fSortP, fSortSet, eSl, partD, zipD_ints, pairsL_map, eBm, mAppend, List.any_cons, List.any_nil, List.all_cons, List.all_nil, id, List.length_append, List.zip_cons_cons, List.zip_nil_left, List.reverse_cons, List.reverse_nil, eqb_int, eqb_str, eqb_bl, kc0, kc1, kc2, kc3, kc4, kc5, kc6, kc7, kc8, kc9, kc10, kc11, kc12, kc13, kc14, kc15, kc16, kc17, kc18, kc19, kc20, Int.reduceBEq, Int.reduceMul, Int.reduceSub, Pg.Pool_get_kept, Pg.Pool_set_kept, Pg.Pool_put_0, Pg.Pool_no_stretches, Pg.Pool_no___len__, Pg.Pool_no_has, Pg.Pool_no_number_at, Pg.Pool_no_place_of, Pg.Pool_no_first_from, Pg.Pool_no_joined, Pg.Pool_no_met, Pg.Pool_no_without, Pg.Pool_no_dealt, Pg.Pool_no___eq__, Pg.Pool_no___str__, Pg.Pool_no___repr__, Pg.b_Pool_met, eComp2, iSeqT, iAlt, isTxtD, kept_is]
  unfold rowsD
  simp (disch := omega) only [fnM, eVar, eC, eBin, eUn, aNil, aCons, eTup, eLst, eLstN, eFn, eIf, eFld, eCall, eMeth, eMake, insOf, tst, tstB, MP.tAnd, MP.tOr, MP.tNot, eAnd, eOr, eNot, eChain, truth, optR, Res.bind, Res.bindS, sNil, sSeq, sExp, sRet, sRetN, sIf, sAsg, sSet, sPar, MP.sFld, MP.sFldAug, sFor, nxO, gNm, gFld, gIx, setIx, setFld, gsNil, gsCons, gTp, gLs, MP.iRng1, MP.iRng2, iSeq, iLst, MP.iTup, seqL, seqM, seqT, seqX, eIsi, tyName, isi_ii, isi_ib, isi_bi, isi_bb, isi_ni, isi_si, isi_ss, isi_is, isi_tt, isi_ti, isi_li, pAdd, pSub, pMulA_int, pMul_ok, pDiv_ok, pMod_ok, pNeg, pLt, pLe, pGt, pGe, pEq, pNe, pEqB, sEq, pIs, pIsNot, MP.isNon, pIx, fAbs, fMax2, fMin2, fInt, fLen, gSel, pick, AH.put_g, AH.put_n, AH.new_g, AH.new_n, AH.put_put, AH.new_put, List.length_cons, List.length_nil, List.map_cons, List.map_nil, List.cons_append, List.nil_append, List.append_nil, List.replicate, List.getElem?_cons_zero, List.getElem?_cons_succ, List.getElem?_nil, List.set_cons_zero, List.set_cons_succ, List.flatMap_cons, List.flatMap_nil, List.drop_zero, List.drop_succ_cons, List.drop_nil, List.take_succ_cons, List.take_zero, List.take_nil, List.contains_cons, List.contains_nil, Bool.or_false, Bool.or_true, Bool.true_or, Bool.false_or, Bool.and_true, Bool.and_false, Bool.not_true, Bool.not_false, beq_self_eq_true, Nat.reduceAdd, Nat.reduceSub, Nat.reduceLeDiff, Nat.reduceLT, Nat.reduceEqDiff, Nat.reduceBEq, Int.reduceToNat, ↓reduceIte, reduceIte, Bool.false_eq_true, ne_true_f, decide_eq_true_eq, and_self, and_true, true_and, Nat.zero_le, Option.map_some, Option.map_none, Option.bind_some, Int.reduceLT, Int.reduceLE, Int.reduceNeg, decide_true, decide_false, ixN_0, ixN_1, ixN_2, ixN_3, ixN_m1, atI_1, atI_2, atI_3, eq_self, Option.some.injEq, false_and, atI_0, Nat.zero_add, Nat.add_zero, pow10_18, pow10_10, pow10_11, pow10_6, sRaise, sRaise0, sTryO, noEx, fAny, fAll, blsL, compL, wipeD, CT.set, eComp, eCompN, lstOk, fSum, fTuple, fList, sAug, pAddI, pSubI, pIn, pNotIn, inB, MP.iZip, iEnumA, fSortP, fSortSet, eSl, partD, zipD_ints, pairsL_map, eBm, mAppend, List.any_cons, List.any_nil, List.all_cons, List.all_nil, id, List.length_append, List.zip_cons_cons, List.zip_nil_left, List.reverse_cons, List.reverse_nil, eqb_int, eqb_str, eqb_bl, kc0, kc1, kc2, kc3, kc4, kc5, kc6, kc7, kc8, kc9, kc10, kc11, kc12, kc13, kc14, kc15, kc16, kc17, kc18, kc19, kc20, Int.reduceBEq, Int.reduceMul, Int.reduceSub, Pg.Pool_get_kept, Pg.Pool_set_kept, Pg.Pool_put_0, Pg.Pool_no_stretches, Pg.Pool_no___len__, Pg.Pool_no_has, Pg.Pool_no_number_at, Pg.Pool_no_place_of, Pg.Pool_no_first_from, Pg.Pool_no_joined, Pg.Pool_no_met, Pg.Pool_no_without, Pg.Pool_no_dealt, Pg.Pool_no___eq__, Pg.Pool_no___str__, Pg.Pool_no___repr__, C]
  unfold meetL at t ⊢
  simp (disch := omega) only [fnM, eVar, eC, eBin, eUn, aNil, aCons, eTup, eLst, eLstN, eFn, eIf, eFld, eCall, eMeth, eMake, insOf, tst, tstB, MP.tAnd, MP.tOr, MP.tNot, eAnd, eOr, eNot, eChain, truth, optR, Res.bind, Res.bindS, sNil, sSeq, sExp, sRet, sRetN, sIf, sAsg, sSet, sPar, MP.sFld, MP.sFldAug, sFor, nxO, gNm, gFld, gIx, setIx, setFld, gsNil, gsCons, gTp, gLs, MP.iRng1, MP.iRng2, iSeq, iLst, MP.iTup, seqL, seqM, seqT, seqX, eIsi, tyName, isi_ii, isi_ib, isi_bi, isi_bb, isi_ni, isi_si, isi_ss, isi_is, isi_tt, isi_ti, isi_li, pAdd, pSub, pMulA_int, pMul_ok, pDiv_ok, pMod_ok, pNeg, pLt, pLe, pGt, pGe, pEq, pNe, pEqB, sEq, pIs, pIsNot, MP.isNon, pIx, fAbs, fMax2, fMin2, fInt, fLen, gSel, pick, AH.put_g, AH.put_n, AH.new_g, AH.new_n, AH.put_put, AH.new_put, List.length_cons, List.length_nil, List.map_cons, List.map_nil, List.cons_append, List.nil_append, List.append_nil, List.replicate, List.getElem?_cons_zero, List.getElem?_cons_succ, List.getElem?_nil, List.set_cons_zero, List.set_cons_succ, List.flatMap_cons, List.flatMap_nil, List.drop_zero, List.drop_succ_cons, List.drop_nil, List.take_succ_cons, List.take_zero, List.take_nil, List.contains_cons, List.contains_nil, Bool.or_false, Bool.or_true, Bool.true_or, Bool.false_or, Bool.and_true, Bool.and_false, Bool.not_true, Bool.not_false, beq_self_eq_true, Nat.reduceAdd, Nat.reduceSub, Nat.reduceLeDiff, Nat.reduceLT, Nat.reduceEqDiff, Nat.reduceBEq, Int.reduceToNat, ↓reduceIte, reduceIte, Bool.false_eq_true, ne_true_f, decide_eq_true_eq, and_self, and_true, true_and, Nat.zero_le, Option.map_some, Option.map_none, Option.bind_some, Int.reduceLT, Int.reduceLE, Int.reduceNeg, decide_true, decide_false, ixN_0, ixN_1, ixN_2, ixN_3, ixN_m1, atI_1, atI_2, atI_3, eq_self, Option.some.injEq, false_and, atI_0, Nat.zero_add, Nat.add_zero, pow10_18, pow10_10, pow10_11, pow10_6, sRaise, sRaise0, sTryO, noEx, fAny, fAll, blsL, wipeD, CT.set, eComp, eCompN, lstOk, fSum, fTuple, fList, sAug, pAddI, pSubI, pIn, pNotIn, inB, MP.iZip, iEnumA, fSortP, fSortSet, eSl, partD, zipD_ints, pairsL_map, eBm, mAppend, List.any_cons, List.any_nil, List.all_cons, List.all_nil, id, List.length_append, List.zip_cons_cons, List.zip_nil_left, List.reverse_cons, List.reverse_nil, eqb_int, eqb_str, eqb_bl, kc0, kc1, kc2, kc3, kc4, kc5, kc6, kc7, kc8, kc9, kc10, kc11, kc12, kc13, kc14, kc15, kc16, kc17, kc18, kc19, kc20, Int.reduceBEq, Int.reduceMul, Int.reduceSub, Pg.Pool_get_kept, Pg.Pool_set_kept, Pg.Pool_put_0, Pg.Pool_no_stretches, Pg.Pool_no___len__, Pg.Pool_no_has, Pg.Pool_no_number_at, Pg.Pool_no_place_of, Pg.Pool_no_first_from, Pg.Pool_no_joined, Pg.Pool_no_met, Pg.Pool_no_without, Pg.Pool_no_dealt, Pg.Pool_no___eq__, Pg.Pool_no___str__, Pg.Pool_no___repr__, C2, t]
theorem left_ok (p : PRow) (lo hi : Int) (h : AH) : Pg.f_left_of [tupP p, .int lo, .int hi] h = .ok (.lst ((leftL p lo hi).map tupP)) h := by
  have C := compL_map (ok := fun _ => true) (own := [6]) (g := .one 6) (t := Pg.Q_left_of_1) (e := Pg.E_left_of_1) (h := h) tupP (fun r => decide (r.1 ≤ r.2)) (fun r => tupP r) rfl [(p.1, if lo - 1 < p.2 then lo - 1 else p.2), (if hi + 1 > p.1 then hi + 1 else p.1, p.2)] [] (s := [some (tupP p), some (.int lo), some (.int hi), some (.int p.1), some (.int p.2), some (.lst [tupP (p.1, if lo - 1 < p.2 then lo - 1 else p.2), tupP (if hi + 1 > p.1 then hi + 1 else p.1, p.2)]), none]) (fun r _ => ⟨[some (tupP p), some (.int lo), some (.int hi), some (.int p.1), some (.int p.2), some (.lst [tupP (p.1, if lo - 1 < p.2 then lo - 1 else p.2), tupP (if hi + 1 > p.1 then hi + 1 else p.1, p.2)]), some (tupP r)], rfl, by
    unfold tupP
    simp (disch := omega) only [fnM, eVar, eC, eBin, eUn, aNil, aCons, eTup, eLst, eLstN, eFn, eIf, eFld, eCall, eMeth, eMake, insOf, tst, tstB, MP.tAnd, MP.tOr, MP.tNot, eAnd, eOr, eNot, eChain, truth, optR, Res.bind, Res.bindS, sNil, sSeq, sExp, sRet, sRetN, sIf, sAsg, sSet, sPar, MP.sFld, MP.sFldAug, sFor, nxO, gNm, gFld, gIx, setIx, setFld, gsNil, gsCons, gTp, gLs, MP.iRng1, MP.iRng2, iSeq, iLst, MP.iTup, seqL, seqM, seqT, seqX, eIsi, tyName, isi_ii, isi_ib, isi_bi, isi_bb, isi_ni, isi_si, isi_ss, isi_is, isi_tt, isi_ti, isi_li, pAdd, pSub, pMulA_int, pMul_ok, pDiv_ok, pMod_ok, pNeg, pLt, pLe, pGt, pGe, pEq, pNe, pEqB, sEq, pIs, pIsNot, MP.isNon, pIx, fAbs, fMax2, fMin2, fInt, fLen, gSel, pick, AH.put_g, AH.put_n, AH.new_g, AH.new_n, AH.put_put, AH.new_put, List.length_cons, List.length_nil, List.map_cons, List.map_nil, List.cons_append, List.nil_append, List.append_nil, List.replicate, List.getElem?_cons_zero, List.getElem?_cons_succ, List.getElem?_nil, List.set_cons_zero, List.set_cons_succ, List.flatMap_cons, List.flatMap_nil, List.drop_zero, List.drop_succ_cons, List.drop_nil, List.take_succ_cons, List.take_zero, List.take_nil, List.contains_cons, List.contains_nil, Bool.or_false, Bool.or_true, Bool.true_or, Bool.false_or, Bool.and_true, Bool.and_false, Bool.not_true, Bool.not_false, beq_self_eq_true, Nat.reduceAdd, Nat.reduceSub, Nat.reduceLeDiff, Nat.reduceLT, Nat.reduceEqDiff, Nat.reduceBEq, Int.reduceToNat, ↓reduceIte, reduceIte, Bool.false_eq_true, ne_true_f, decide_eq_true_eq, and_self, and_true, true_and, Nat.zero_le, Option.map_some, Option.map_none, Option.bind_some, Int.reduceLT, Int.reduceLE, Int.reduceNeg, decide_true, decide_false, ixN_0, ixN_1, ixN_2, ixN_3, ixN_m1, atI_1, atI_2, atI_3, eq_self, Option.some.injEq, false_and, atI_0, Nat.zero_add, Nat.add_zero, pow10_18, pow10_10, pow10_11, pow10_6, sRaise, sRaise0, sTryO, noEx, fAny, fAll, blsL, compL, wipeD, CT.set, eComp, eCompN, lstOk, fSum, fTuple, fList, sAug, pAddI, pSubI, pIn, pNotIn, inB, MP.iZip, iEnumA, fSortP, fSortSet, eSl, partD, zipD_ints, pairsL_map, eBm, mAppend, List.any_cons, List.any_nil, List.all_cons, List.all_nil, id, List.length_append, List.zip_cons_cons, List.zip_nil_left, List.reverse_cons, List.reverse_nil, eqb_int, eqb_str, eqb_bl, kc0, kc1, kc2, kc3, kc4, kc5, kc6, kc7, kc8, kc9, kc10, kc11, kc12, kc13, kc14, kc15, kc16, kc17, kc18, kc19, kc20, Int.reduceBEq, Int.reduceMul, Int.reduceSub, Pg.Pool_get_kept, Pg.Pool_set_kept, Pg.Pool_put_0, Pg.Pool_no_stretches, Pg.Pool_no___len__, Pg.Pool_no_has, Pg.Pool_no_number_at, Pg.Pool_no_place_of, Pg.Pool_no_first_from, Pg.Pool_no_joined, Pg.Pool_no_met, Pg.Pool_no_without, Pg.Pool_no_dealt, Pg.Pool_no___eq__, Pg.Pool_no___str__, Pg.Pool_no___repr__, Pg.Q_left_of_1], fun _ => by
    simp (disch := omega) only [fnM, eVar, eC, eBin, eUn, aNil, aCons, eTup, eLst, eLstN, eFn, eIf, eFld, eCall, eMeth, eMake, insOf, tst, tstB, MP.tAnd, MP.tOr, MP.tNot, eAnd, eOr, eNot, eChain, truth, optR, Res.bind, Res.bindS, sNil, sSeq, sExp, sRet, sRetN, sIf, sAsg, sSet, sPar, MP.sFld, MP.sFldAug, sFor, nxO, gNm, gFld, gIx, setIx, setFld, gsNil, gsCons, gTp, gLs, MP.iRng1, MP.iRng2, iSeq, iLst, MP.iTup, seqL, seqM, seqT, seqX, eIsi, tyName, isi_ii, isi_ib, isi_bi, isi_bb, isi_ni, isi_si, isi_ss, isi_is, isi_tt, isi_ti, isi_li, pAdd, pSub, pMulA_int, pMul_ok, pDiv_ok, pMod_ok, pNeg, pLt, pLe, pGt, pGe, pEq, pNe, pEqB, sEq, pIs, pIsNot, MP.isNon, pIx, fAbs, fMax2, fMin2, fInt, fLen, gSel, pick, AH.put_g, AH.put_n, AH.new_g, AH.new_n, AH.put_put, AH.new_put, List.length_cons, List.length_nil, List.map_cons, List.map_nil, List.cons_append, List.nil_append, List.append_nil, List.replicate, List.getElem?_cons_zero, List.getElem?_cons_succ, List.getElem?_nil, List.set_cons_zero, List.set_cons_succ, List.flatMap_cons, List.flatMap_nil, List.drop_zero, List.drop_succ_cons, List.drop_nil, List.take_succ_cons, List.take_zero, List.take_nil, List.contains_cons, List.contains_nil, Bool.or_false, Bool.or_true, Bool.true_or, Bool.false_or, Bool.and_true, Bool.and_false, Bool.not_true, Bool.not_false, beq_self_eq_true, Nat.reduceAdd, Nat.reduceSub, Nat.reduceLeDiff, Nat.reduceLT, Nat.reduceEqDiff, Nat.reduceBEq, Int.reduceToNat, ↓reduceIte, reduceIte, Bool.false_eq_true, ne_true_f, decide_eq_true_eq, and_self, and_true, true_and, Nat.zero_le, Option.map_some, Option.map_none, Option.bind_some, Int.reduceLT, Int.reduceLE, Int.reduceNeg, decide_true, decide_false, ixN_0, ixN_1, ixN_2, ixN_3, ixN_m1, atI_1, atI_2, atI_3, eq_self, Option.some.injEq, false_and, atI_0, Nat.zero_add, Nat.add_zero, pow10_18, pow10_10, pow10_11, pow10_6, sRaise, sRaise0, sTryO, noEx, fAny, fAll, blsL, compL, wipeD, CT.set, eComp, eCompN, lstOk, fSum, fTuple, fList, sAug, pAddI, pSubI, pIn, pNotIn, inB, MP.iZip, iEnumA, fSortP, fSortSet, eSl, partD, zipD_ints, pairsL_map, eBm, mAppend, List.any_cons, List.any_nil, List.all_cons, List.all_nil, id, List.length_append, List.zip_cons_cons, List.zip_nil_left, List.reverse_cons, List.reverse_nil, eqb_int, eqb_str, eqb_bl, kc0, kc1, kc2, kc3, kc4, kc5, kc6, kc7, kc8, kc9, kc10, kc11, kc12, kc13, kc14, kc15, kc16, kc17, kc18, kc19, kc20, Int.reduceBEq, Int.reduceMul, Int.reduceSub, Pg.Pool_get_kept, Pg.Pool_set_kept, Pg.Pool_put_0, Pg.Pool_no_stretches, Pg.Pool_no___len__, Pg.Pool_no_has, Pg.Pool_no_number_at, Pg.Pool_no_place_of, Pg.Pool_no_first_from, Pg.Pool_no_joined, Pg.Pool_no_met, Pg.Pool_no_without, Pg.Pool_no_dealt, Pg.Pool_no___eq__, Pg.Pool_no___str__, Pg.Pool_no___repr__, Pg.E_left_of_1]⟩) (by simp)
  refine fnG_same ?_ (by simp only [D.und, rows_undL])
  unfold leftL
  unfold tupP at C ⊢
  simp only [List.map_cons, List.map_nil, List.nil_append] at C
  simp (disch := omega) only [fnM, eVar, eC, eBin, eUn, aNil, aCons, eTup, eLst, eLstN, eFn, eIf, eFld, eCall, eMeth, eMake, insOf, tst, tstB, MP.tAnd, MP.tOr, MP.tNot, eAnd, eOr, eNot, eChain, truth, optR, Res.bind, Res.bindS, sNil, sSeq, sExp, sRet, sRetN, sIf, sAsg, sSet, sPar, MP.sFld, MP.sFldAug, sFor, nxO, gNm, gFld, gIx, setIx, setFld, gsNil, gsCons, gTp, gLs, MP.iRng1, MP.iRng2, iSeq, iLst, MP.iTup, seqL, seqM, seqT, seqX, eIsi, tyName, isi_ii, isi_ib, isi_bi, isi_bb, isi_ni, isi_si, isi_ss, isi_is, isi_tt, isi_ti, isi_li, pAdd, pSub, pMulA_int, pMul_ok, pDiv_ok, pMod_ok, pNeg, pLt, pLe, pGt, pGe, pEq, pNe, pEqB, sEq, pIs, pIsNot, MP.isNon, pIx, fAbs, fMax2, fMin2, fInt, fLen, gSel, pick, AH.put_g, AH.put_n, AH.new_g, AH.new_n, AH.put_put, AH.new_put, List.length_cons, List.length_nil, List.map_cons, List.map_nil, List.cons_append, List.nil_append, List.append_nil, List.replicate, List.getElem?_cons_zero, List.getElem?_cons_succ, List.getElem?_nil, List.set_cons_zero, List.set_cons_succ, List.flatMap_cons, List.flatMap_nil, List.drop_zero, List.drop_succ_cons, List.drop_nil, List.take_succ_cons, List.take_zero, List.take_nil, List.contains_cons, List.contains_nil, Bool.or_false, Bool.or_true, Bool.true_or, Bool.false_or, Bool.and_true, Bool.and_false, Bool.not_true, Bool.not_false, beq_self_eq_true, Nat.reduceAdd, Nat.reduceSub, Nat.reduceLeDiff, Nat.reduceLT, Nat.reduceEqDiff, Nat.reduceBEq, Int.reduceToNat, ↓reduceIte, reduceIte, Bool.false_eq_true, ne_true_f, decide_eq_true_eq, and_self, and_true, true_and, Nat.zero_le, Option.map_some, Option.map_none, Option.bind_some, Int.reduceLT, Int.reduceLE, Int.reduceNeg, decide_true, decide_false, ixN_0, ixN_1, ixN_2, ixN_3, ixN_m1, atI_1, atI_2, atI_3, eq_self, Option.some.injEq, false_and, atI_0, Nat.zero_add, Nat.add_zero, pow10_18, pow10_10, pow10_11, pow10_6, sRaise, sRaise0, sTryO, noEx, fAny, fAll, blsL, wipeD, CT.set, eComp, eCompN, lstOk, fSum, fTuple, fList, sAug, pAddI, pSubI, pIn, pNotIn, inB, MP.iZip, iEnumA, fSortP, fSortSet, eSl, partD, zipD_ints, pairsL_map, eBm, mAppend, List.any_cons, List.any_nil, List.all_cons, List.all_nil, id, List.length_append, List.zip_cons_cons, List.zip_nil_left, List.reverse_cons, List.reverse_nil, eqb_int, eqb_str, eqb_bl, kc0, kc1, kc2, kc3, kc4, kc5, kc6, kc7, kc8, kc9, kc10, kc11, kc12, kc13, kc14, kc15, kc16, kc17, kc18, kc19, kc20, Int.reduceBEq, Int.reduceMul, Int.reduceSub, Pg.Pool_get_kept, Pg.Pool_set_kept, Pg.Pool_put_0, Pg.Pool_no_stretches, Pg.Pool_no___len__, Pg.Pool_no_has, Pg.Pool_no_number_at, Pg.Pool_no_place_of, Pg.Pool_no_first_from, Pg.Pool_no_joined, Pg.Pool_no_met, Pg.Pool_no_without, Pg.Pool_no_dealt, Pg.Pool_no___eq__, Pg.Pool_no___str__, Pg.Pool_no___repr__, Pg.b_left_of, gSq, gAlt, isTupD, iSeqT, iAlt, isTxtD, C]
theorem without_ok {a b : List PRow} (ca : Canon a) (vb : Val b) (hl : a.length + b.length < 40000) (h : AH) : Pg.f_Pool_without [plD a, plD b] h = .ok (plD (fw (outL a b))) h := by
  have st := stretches_is b
  have step : ∀ (l : List PRow) (r : PRow) (x3 x4 x5 x6 : Option D) (h : AH), l.length ≤ 40000 → Pg.L_Pool_without_3 [some (plD a), some (plD b), some (.lst (l.map tupP)), some (.int r.1), some (.int r.2), x5, x6] h = .nx [some (plD a), some (plD b), some (.lst ((l.flatMap fun p => leftL p r.1 r.2).map tupP)), some (.int r.1), some (.int r.2), x5, x6] h := by
    intro l r x3 x4 x5 x6 h hl
    have C := compL2_map (ok := fun _ => true) (own := [5, 6]) (own1 := [6]) (g := .one 5) (t := tYesD) (m1 := Pg.I_Pool_without_1) (g1 := .one 6) (t1 := tYesD) (e := Pg.E_Pool_without_1) (s := [some (plD a), some (plD b), some (.lst (l.map tupP)), some (.int r.1), some (.int r.2), x5, x6]) (h := h) 2 tupP (fun p => (leftL p r.1 r.2).map tupP) rfl l []
      (fun p _ => ⟨by rw [List.length_map]; exact leftL_len .., [some (plD a), some (plD b), some (.lst (l.map tupP)), some (.int r.1), some (.int r.2), some (tupP p), none], ⟨(leftL p r.1 r.2).map tupP, fun _ => true⟩, rfl, rfl, by
        simp (disch := omega) only [fnM, eVar, eC, eBin, eUn, aNil, aCons, eTup, eLst, eLstN, eFn, eIf, eFld, eCall, eMeth, eMake, insOf, tst, tstB, MP.tAnd, MP.tOr, MP.tNot, eAnd, eOr, eNot, eChain, truth, optR, Res.bind, Res.bindS, sNil, sSeq, sExp, sRet, sRetN, sIf, sAsg, sSet, sPar, MP.sFld, MP.sFldAug, sFor, nxO, gNm, gFld, gIx, setIx, setFld, gsNil, gsCons, gTp, gLs, MP.iRng1, MP.iRng2, iSeq, iLst, MP.iTup, seqL, seqM, seqT, seqX, eIsi, tyName, isi_ii, isi_ib, isi_bi, isi_bb, isi_ni, isi_si, isi_ss, isi_is, isi_tt, isi_ti, isi_li, pAdd, pSub, pMulA_int, pMul_ok, pDiv_ok, pMod_ok, pNeg, pLt, pLe, pGt, pGe, pEq, pNe, pEqB, sEq, pIs, pIsNot, MP.isNon, pIx, fAbs, fMax2, fMin2, fInt, fLen, gSel, pick, AH.put_g, AH.put_n, AH.new_g, AH.new_n, AH.put_put, AH.new_put, List.length_cons, List.length_nil, List.map_cons, List.map_nil, List.cons_append, List.nil_append, List.append_nil, List.replicate, List.getElem?_cons_zero, List.getElem?_cons_succ, List.getElem?_nil, List.set_cons_zero, List.set_cons_succ, List.flatMap_cons, List.flatMap_nil, List.drop_zero, List.drop_succ_cons, List.drop_nil, List.take_succ_cons, List.take_zero, List.take_nil, List.contains_cons, List.contains_nil, Bool.or_false, Bool.or_true, Bool.true_or, Bool.false_or, Bool.and_true, Bool.and_false, Bool.not_true, Bool.not_false, beq_self_eq_true, Nat.reduceAdd, Nat.reduceSub, Nat.reduceLeDiff, Nat.reduceLT, Nat.reduceEqDiff, Nat.reduceBEq, Int.reduceToNat, ↓reduceIte, reduceIte, Bool.false_eq_true, ne_true_f, decide_eq_true_eq, and_self, and_true, true_and, Nat.zero_le, Option.map_some, Option.map_none, Option.bind_some, Int.reduceLT, Int.reduceLE, Int.reduceNeg, decide_true, decide_false, ixN_0, ixN_1, ixN_2, ixN_3, ixN_m1, atI_1, atI_2, atI_3, eq_self, Option.some.injEq, false_and, atI_0, Nat.zero_add, Nat.add_zero, pow10_18, pow10_10, pow10_11, pow10_6, sRaise, sRaise0, sTryO, noEx, fAny, fAll, blsL, compL, wipeD, CT.set, eComp, eCompN, lstOk, fSum, fTuple, fList, sAug, pAddI, pSubI, pIn, pNotIn, inB, MP.iZip, iEnumA, fSortP, fSortSet, eSl, partD, zipD_ints, pairsL_map, eBm, mAppend, List.any_cons, List.any_nil, List.all_cons, List.all_nil, id, List.length_append, List.zip_cons_cons, List.zip_nil_left, List.reverse_cons, List.reverse_nil, eqb_int, eqb_str, eqb_bl, kc0, kc1, kc2, kc3, kc4, kc5, kc6, kc7, kc8, kc9, kc10, kc11, kc12, kc13, kc14, kc15, kc16, kc17, kc18, kc19, kc20, Int.reduceBEq, Int.reduceMul, Int.reduceSub, Pg.Pool_get_kept, Pg.Pool_set_kept, Pg.Pool_put_0, Pg.Pool_no_stretches, Pg.Pool_no___len__, Pg.Pool_no_has, Pg.Pool_no_number_at, Pg.Pool_no_place_of, Pg.Pool_no_first_from, Pg.Pool_no_joined, Pg.Pool_no_met, Pg.Pool_no_without, Pg.Pool_no_dealt, Pg.Pool_no___eq__, Pg.Pool_no___str__, Pg.Pool_no___repr__, Pg.I_Pool_without_1, iSeqT, iAlt, isTxtD, left_ok, lstOk], fun acc ha => by
        have C1 := compL_map (ok := fun _ => true) (own := [6]) (g := .one 6) (t := tYesD) (e := Pg.E_Pool_without_1) (s := [some (plD a), some (plD b), some (.lst (l.map tupP)), some (.int r.1), some (.int r.2), some (tupP p), none]) (h := h) tupP (fun _ => true) (fun q => tupP q) rfl (leftL p r.1 r.2) acc (fun q _ => ⟨[some (plD a), some (plD b), some (.lst (l.map tupP)), some (.int r.1), some (.int r.2), some (tupP p), some (tupP q)], rfl, rfl, fun _ => by
          simp (disch := omega) only [fnM, eVar, eC, eBin, eUn, aNil, aCons, eTup, eLst, eLstN, eFn, eIf, eFld, eCall, eMeth, eMake, insOf, tst, tstB, MP.tAnd, MP.tOr, MP.tNot, eAnd, eOr, eNot, eChain, truth, optR, Res.bind, Res.bindS, sNil, sSeq, sExp, sRet, sRetN, sIf, sAsg, sSet, sPar, MP.sFld, MP.sFldAug, sFor, nxO, gNm, gFld, gIx, setIx, setFld, gsNil, gsCons, gTp, gLs, MP.iRng1, MP.iRng2, iSeq, iLst, MP.iTup, seqL, seqM, seqT, seqX, eIsi, tyName, isi_ii, isi_ib, isi_bi, isi_bb, isi_ni, isi_si, isi_ss, isi_is, isi_tt, isi_ti, isi_li, pAdd, pSub, pMulA_int, pMul_ok, pDiv_ok, pMod_ok, pNeg, pLt, pLe, pGt, pGe, pEq, pNe, pEqB, sEq, pIs, pIsNot, MP.isNon, pIx, fAbs, fMax2, fMin2, fInt, fLen, gSel, pick, AH.put_g, AH.put_n, AH.new_g, AH.new_n, AH.put_put, AH.new_put, List.length_cons, List.length_nil, List.map_cons, List.map_nil, List.cons_append, List.nil_append, List.append_nil, List.replicate, List.getElem?_cons_zero, List.getElem?_cons_succ, List.getElem?_nil, List.set_cons_zero, List.set_cons_succ, List.flatMap_cons, List.flatMap_nil, List.drop_zero, List.drop_succ_cons, List.drop_nil, List.take_succ_cons, List.take_zero, List.take_nil, List.contains_cons, List.contains_nil, Bool.or_false, Bool.or_true, Bool.true_or, Bool.false_or, Bool.and_true, Bool.and_false, Bool.not_true, Bool.not_false, beq_self_eq_true, Nat.reduceAdd, Nat.reduceSub, Nat.reduceLeDiff, Nat.reduceLT, Nat.reduceEqDiff, Nat.reduceBEq, Int.reduceToNat, ↓reduceIte, reduceIte, Bool.false_eq_true, ne_true_f, decide_eq_true_eq, and_self, and_true, true_and, Nat.zero_le, Option.map_some, Option.map_none, Option.bind_some, Int.reduceLT, Int.reduceLE, Int.reduceNeg, decide_true, decide_false, ixN_0, ixN_1, ixN_2, ixN_3, ixN_m1, atI_1, atI_2, atI_3, eq_self, Option.some.injEq, false_and, atI_0, Nat.zero_add, Nat.add_zero, pow10_18, pow10_10, pow10_11, pow10_6, sRaise, sRaise0, sTryO, noEx, fAny, fAll, blsL, compL, wipeD, CT.set, eComp, eCompN, lstOk, fSum, fTuple, fList, sAug, pAddI, pSubI, pIn, pNotIn, inB, MP.iZip, iEnumA, fSortP, fSortSet, eSl, partD, zipD_ints, pairsL_map, eBm, mAppend, List.any_cons, List.any_nil, List.all_cons, List.all_nil, id, List.length_append, List.zip_cons_cons, List.zip_nil_left, List.reverse_cons, List.reverse_nil, eqb_int, eqb_str, eqb_bl, kc0, kc1, kc2, kc3, kc4, kc5, kc6, kc7, kc8, kc9, kc10, kc11, kc12, kc13, kc14, kc15, kc16, kc17, kc18, kc19, kc20, Int.reduceBEq, Int.reduceMul, Int.reduceSub, Pg.Pool_get_kept, Pg.Pool_set_kept, Pg.Pool_put_0, Pg.Pool_no_stretches, Pg.Pool_no___len__, Pg.Pool_no_has, Pg.Pool_no_number_at, Pg.Pool_no_place_of, Pg.Pool_no_first_from, Pg.Pool_no_joined, Pg.Pool_no_met, Pg.Pool_no_without, Pg.Pool_no_dealt, Pg.Pool_no___eq__, Pg.Pool_no___str__, Pg.Pool_no___repr__, Pg.E_Pool_without_1]⟩) (by have := leftL_len p r.1 r.2; omega)
        rw [filter_true] at C1
        exact C1⟩) (by rw [List.length_nil]; omega)
    have e1 : (l.flatMap fun p => (leftL p r.1 r.2).map tupP) = (l.flatMap fun p => leftL p r.1 r.2).map tupP := by rw [List.map_flatMap]
    rw [e1, List.nil_append] at C
    simp (disch := omega) only [fnM, eVar, eC, eBin, eUn, aNil, aCons, eTup, eLst, eLstN, eFn, eIf, eFld, eCall, eMeth, eMake, insOf, tst, tstB, MP.tAnd, MP.tOr, MP.tNot, eAnd, eOr, eNot, eChain, truth, optR, Res.bind, Res.bindS, sNil, sSeq, sExp, sRet, sRetN, sIf, sAsg, sSet, sPar, MP.sFld, MP.sFldAug, sFor, nxO, gNm, gFld, gIx, setIx, setFld, gsNil, gsCons, gTp, gLs, MP.iRng1, MP.iRng2, iSeq, iLst, MP.iTup, seqL, seqM, seqT, seqX, eIsi, tyName, isi_ii, isi_ib, isi_bi, isi_bb, isi_ni, isi_si, isi_ss, isi_is, isi_tt, isi_ti, isi_li, pAdd, pSub, pMulA_int, pMul_ok, pDiv_ok, pMod_ok, pNeg, pLt, pLe, pGt, pGe, pEq, pNe, pEqB, sEq, pIs, pIsNot, MP.isNon, pIx, fAbs, fMax2, fMin2, fInt, fLen, gSel, pick, AH.put_g, AH.put_n, AH.new_g, AH.new_n, AH.put_put, AH.new_put, List.length_cons, List.length_nil, List.map_cons, List.map_nil, List.cons_append, List.nil_append, List.append_nil, List.replicate, List.getElem?_cons_zero, List.getElem?_cons_succ, List.getElem?_nil, List.set_cons_zero, List.set_cons_succ, List.flatMap_cons, List.flatMap_nil, List.drop_zero, List.drop_succ_cons, List.drop_nil, List.take_succ_cons, List.take_zero, List.take_nil, List.contains_cons, List.contains_nil, Bool.or_false, Bool.or_true, Bool.true_or, Bool.false_or, Bool.and_true, Bool.and_false, Bool.not_true, Bool.not_false, beq_self_eq_true, Nat.reduceAdd, Nat.reduceSub, Nat.reduceLeDiff, Nat.reduceLT, Nat.reduceEqDiff, Nat.reduceBEq, Int.reduceToNat, ↓reduceIte, reduceIte, Bool.false_eq_true, ne_true_f, decide_eq_true_eq, and_self, and_true, true_and, Nat.zero_le, Option.map_some, Option.map_none, Option.bind_some, Int.reduceLT, Int.reduceLE, Int.reduceNeg, decide_true, decide_false, ixN_0, ixN_1, ixN_2, ixN_3, ixN_m1, atI_1, atI_2, atI_3, eq_self, Option.some.injEq, false_and, atI_0, Nat.zero_add, Nat.add_zero, pow10_18, pow10_10, pow10_11, pow10_6, sRaise, sRaise0, sTryO, noEx, fAny, fAll, blsL, wipeD, CT.set, eComp, eCompN, lstOk, fSum, fTuple, fList, sAug, pAddI, pSubI, pIn, pNotIn, inB, MP.iZip, iEnumA, fSortP, fSortSet, eSl, partD, zipD_ints, pairsL_map, eBm, mAppend, List.any_cons, List.any_nil, List.all_cons, List.all_nil, id, List.length_append, List.zip_cons_cons, List.zip_nil_left, List.reverse_cons, List.reverse_nil, eqb_int, eqb_str, eqb_bl, kc0, kc1, kc2, kc3, kc4, kc5, kc6, kc7, kc8, kc9, kc10, kc11, kc12, kc13, kc14, kc15, kc16, kc17, kc18, kc19, kc20, Int.reduceBEq, Int.reduceMul, Int.reduceSub, Pg.Pool_get_kept, Pg.Pool_set_kept, Pg.Pool_put_0, Pg.Pool_no_stretches, Pg.Pool_no___len__, Pg.Pool_no_has, Pg.Pool_no_number_at, Pg.Pool_no_place_of, Pg.Pool_no_first_from, Pg.Pool_no_joined, Pg.Pool_no_met, Pg.Pool_no_without, Pg.Pool_no_dealt, Pg.Pool_no___eq__, Pg.Pool_no___str__, Pg.Pool_no___repr__, Pg.L_Pool_without_3, eComp2, iSeqT, iAlt, isTxtD, lstOk, C]
  have ln : ∀ i, i ≤ b.length → (outL a (b.take i)).length ≤ 40000 := fun i _ => by
    have := (outL_len (Canon.apart ca) (b := b.take i) fun p hp => vb p (List.mem_of_mem_take hp)).1
    rw [List.length_take] at this
    omega
  obtain ⟨s', h', e, x3, x4, x5, x6, rfl, rfl⟩ := forL_all (ok := fun _ => true) (g := gSq 2 (gsCons (gNm 3) (gsCons (gNm 4) gsNil))) (b := Pg.L_Pool_without_3)
    (fun i s h' => ∃ x3 x4 x5 x6, s = [some (plD a), some (plD b), some (.lst ((outL a (b.take i)).map tupP)), x3, x4, x5, x6] ∧ h' = h) (fun _ _ _ _ => rfl) (b.map tupP) 0
    [some (plD a), some (plD b), some (.lst (a.map tupP)), none, none, none, none] h ⟨_, _, _, _, rfl, rfl⟩ (fun j d s h' hd ⟨x3, x4, x5, x6, es, eh⟩ => by
      subst es eh
      rw [List.getElem?_map] at hd
      cases q : b[j]? with
      | none => rw [q] at hd; cases hd
      | some p =>
        rw [q] at hd
        cases hd
        have hj : j < b.length := (List.getElem?_eq_some_iff.mp q).1
        refine ⟨[some (plD a), some (plD b), some (.lst ((outL a (b.take (0 + j))).map tupP)), some (.int p.1), some (.int p.2), x5, x6], h', _, _, rfl, .inl (step _ p x3 x4 x5 x6 h' (ln _ (by omega))), some (.int p.1), some (.int p.2), x5, x6, ?_, rfl⟩
        have e2 : outL a (b.take (0 + j + 1)) = (outL a (b.take (0 + j))).flatMap fun r => leftL r p.1 p.2 := by
          rw [Nat.zero_add, List.take_add_one, q]
          unfold outL
          rw [List.foldl_append]
          rfl
        rw [e2])
  rw [Nat.zero_add, List.length_map, List.take_length] at e
  have t := fun h => told_lst (outL_val b a ca.2) (by have := (outL_len (Canon.apart ca) vb).1; omega) h
  refine fnG_same ?_ (plD_und _ _)
  unfold rowsD at st
  simp (disch := omega) only [fnM, eVar, eC, eBin, eUn, aNil, aCons, eTup, eLst, eLstN, eFn, eIf, eFld, eCall, eMeth, eMake, tst, tstB, MP.tAnd, MP.tOr, MP.tNot, eAnd, eOr, eNot, eChain, truth, optR, Res.bind, Res.bindS, sNil, sSeq, sExp, sRet, sRetN, sIf, sAsg, sSet, sPar, MP.sFld, MP.sFldAug, sFor, nxO, gNm, gFld, gIx, setIx, setFld, gsNil, gsCons, gTp, gLs, MP.iRng1, MP.iRng2, iSeq, iLst, MP.iTup, seqL, seqM, seqT, seqX, eIsi, tyName, isi_ii, isi_ib, isi_bi, isi_bb, isi_ni, isi_si, isi_ss, isi_is, isi_tt, isi_ti, isi_li, pAdd, pSub, pMulA_int, pMul_ok, pDiv_ok, pMod_ok, pNeg, pLt, pLe, pGt, pGe, pEq, pNe, pEqB, sEq, pIs, pIsNot, MP.isNon, pIx, fAbs, fMax2, fMin2, fInt, fLen, gSel, pick, AH.put_g, AH.put_n, AH.new_g, AH.new_n, AH.put_put, AH.new_put, List.length_cons, List.length_nil, List.map_cons, List.map_nil, List.cons_append, List.nil_append, List.append_nil, List.replicate, List.getElem?_cons_zero, List.getElem?_cons_succ, List.getElem?_nil, List.set_cons_zero, List.set_cons_succ, List.flatMap_cons, List.flatMap_nil, List.drop_zero, List.drop_succ_cons, List.drop_nil, List.take_succ_cons, List.take_zero, List.take_nil, List.contains_cons, List.contains_nil, Bool.or_false, Bool.or_true, Bool.true_or, Bool.false_or, Bool.and_true, Bool.and_false, Bool.not_true, Bool.not_false, beq_self_eq_true, Nat.reduceAdd, Nat.reduceSub, Nat.reduceLeDiff, Nat.reduceLT, Nat.reduceEqDiff, Nat.reduceBEq, Int.reduceToNat, ↓reduceIte, reduceIte, Bool.false_eq_true, ne_true_f, decide_eq_true_eq, and_self, and_true, true_and, Nat.zero_le, Option.map_some, Option.map_none, Option.bind_some, Int.reduceLT, Int.reduceLE, Int.reduceNeg, decide_true, decide_false, ixN_0, ixN_1, ixN_2, ixN_3, ixN_m1, atI_1, atI_2, atI_3, eq_self, Option.some.injEq, false_and, atI_0, Nat.zero_add, Nat.add_zero, pow10_18, pow10_10, pow10_11, pow10_6, sRaise, sRaise0, sTryO, noEx, fAny, fAll, blsL, compL, wipeD, CT.set, eComp, eCompN, lstOk, fSum, fTuple, fList, sAug, pAddI, pSubI, pIn, pNotIn, inB, MP.iZip, iEnumA, fSortP, fSortSet, eSl, partD, zipD_ints, pairsL_map, eBm, mAppend, List.any_cons, List.any_nil, List.all_cons, List.all_nil, id, List.length_append, List.zip_cons_cons, List.zip_nil_left, List.reverse_cons, List.reverse_nil, eqb_int, eqb_str, eqb_bl, kc0, kc1, kc2, kc3, kc4, kc5, kc6, kc7, kc8, kc9, kc10, kc11, kc12, kc13, kc14, kc15, kc16, kc17, kc18, kc19, kc20, Int.reduceBEq, Int.reduceMul, Int.reduceSub, Pg.Pool_get_kept, Pg.Pool_set_kept, Pg.Pool_put_0, Pg.Pool_no_stretches, Pg.Pool_no___len__, Pg.Pool_no_has, Pg.Pool_no_number_at, Pg.Pool_no_place_of, Pg.Pool_no_first_from, Pg.Pool_no_joined, Pg.Pool_no_met, Pg.Pool_no_without, Pg.Pool_no_dealt, Pg.Pool_no___eq__, Pg.Pool_no___str__, Pg.Pool_no___repr__, Pg.b_Pool_without, iSeqT, iAlt, isTxtD, kept_isT, st, e, t]
end XP
set_option Elab.async false
set_option linter.all false
set_option maxRecDepth 100000
set_option maxHeartbeats 400000
/-! loops that draw: what they reach, whatever the heap and the bag's place -/
namespace XP
open PySem PySem.Spec L2 MP
theorem draw_loop {σ π : Type} {g : MG} {b : MS} (R : σ → π → Sl → AH → Prop) (Inv : Nat → σ → Prop) :
    ∀ (xs : List D) (i : Nat) (st : σ), Inv i st → (∀ j x st, xs[j]? = some x → Inv (i + j) st → ∃ st', Inv (i + j + 1) st' ∧ ∀ p s h, R st p s h → ∃ s1 h1 s2 h2, g x s h = some (s1, h1) ∧ (b s1 h1 = .nx s2 h2 ∨ b s1 h1 = .ct s2 h2) ∧ R st' p s2 h2) →
      ∃ st', Inv (i + xs.length) st' ∧ ∀ p s h, R st p s h → ∃ s' h', forL (fun _ => true) g b xs s h = .nx s' h' ∧ R st' p s' h'
  | [], i, st, hi, _ => ⟨st, by simpa using hi, fun p s h r => ⟨s, h, by simp [forL], r⟩⟩
  | x :: xs, i, st, hi, step => by
    obtain ⟨st1, hi1, run1⟩ := step 0 x st rfl hi
    obtain ⟨st', hi', run'⟩ := draw_loop R Inv xs (i + 1) st1 hi1 (fun j y st hy hp => by
      have := step (j + 1) y st (by simpa using hy) (by rw [show i + (j + 1) = i + 1 + j by omega]; exact hp)
      rw [show i + (j + 1) + 1 = i + 1 + j + 1 by omega] at this
      exact this)
    refine ⟨st', by rw [List.length_cons, show i + (xs.length + 1) = i + 1 + xs.length by omega]; exact hi', fun p s h r => ?_⟩
    obtain ⟨s1, h1, s2, h2, e1, e2, r2⟩ := run1 p s h r
    obtain ⟨s', h', e, r'⟩ := run' p s2 h2 r2
    refine ⟨s', h', ?_, r'⟩
    simp only [forL, if_true, e1]
    rcases e2 with e2 | e2 <;> (rw [e2]; exact e)
/-- .. over a range -/
theorem draw_rng {σ π : Type} {g : MG} {b : MS} {lo hi : Int} (R : σ → π → Sl → AH → Prop) (Inv : Int → σ → Prop) (hl : lo ≤ hi) {st : σ} (h0 : Inv lo st)
    (step : ∀ i st, lo ≤ i → i < hi → Inv i st → ∃ st', Inv (i + 1) st' ∧ ∀ p s h, R st p s h → ∃ s1 h1 s2 h2, g (.int i) s h = some (s1, h1) ∧ (b s1 h1 = .nx s2 h2 ∨ b s1 h1 = .ct s2 h2) ∧ R st' p s2 h2) :
    ∃ st', Inv hi st' ∧ ∀ p s h, R st p s h → ∃ s' h', forL (fun _ => true) g b (rng lo hi) s h = .nx s' h' ∧ R st' p s' h' := by
  obtain ⟨st', q, run⟩ := draw_loop (g := g) (b := b) R (fun j st => Inv (lo + (j : Nat)) st) (rng lo hi) 0 st (by simpa using h0) (fun j x st hx hp => by
    obtain ⟨rfl, hj⟩ := rng_get hx
    rw [Nat.zero_add] at hp
    obtain ⟨st', q, run⟩ := step _ st (by omega) (by omega) hp
    exact ⟨st', by rw [Nat.zero_add]; push_cast; rw [← Int.add_assoc]; exact q, run⟩)
  refine ⟨st', ?_, run⟩
  rw [Nat.zero_add, rng_len] at q
  rw [show lo + ((hi - lo).toNat : Nat) = hi by omega] at q
  exact q
/-- a heap with the bag's own content and one more object -/
def HB (h : AH) (b : Nat) (β : BagC) (o : AO) : AH := (h.put b (bagO β)).new o
theorem HB_g {h : AH} {b : Nat} {β β' : BagC} {o : AO} (e : h.g b = some (bagO β)) : (HB h b β' o).g b = some (bagO β') := by
  have := AH.g_lt e
  unfold HB
  rw [AH.new_ne (by rw [AH.put_n]; omega), AH.put_same e]
theorem HB_put {h : AH} {b : Nat} {β β' β2 : BagC} {o : AO} (e : h.g b = some (bagO β)) : (HB h b β' o).put b (bagO β2) = HB h b β2 o := by
  have := AH.g_lt e
  unfold HB
  rw [AH.new_put_lt (by rw [AH.put_n]; exact this), AH.put_put]
theorem HB_l {h : AH} {b : Nat} {β : BagC} {o : AO} : (HB h b β o).g h.n = some o := by
  unfold HB
  rw [← AH.put_n (h := h) (i := b) (o := bagO β)]
  exact AH.new_same ..
theorem HB_lput {h : AH} {b : Nat} {β : BagC} {o o' : AO} : (HB h b β o).put h.n o' = HB h b β o' := by
  unfold HB
  rw [← AH.put_n (h := h) (i := b) (o := bagO β)]
  exact AH.new_put ..
theorem HB_old {h : AH} {b : Nat} {β : BagC} {o : AO} : Old (h.put b (bagO β)) (HB h b β o) := Old.refl.new _
theorem law_gc {ar n : Nat} {b : MS} {ds : List D} {h : AH} (e : ∃ h', fnM ar n b ds h = .ok (.bl true) h') : ∃ h', fnG ar n b ds h = .ok (.bl true) h' := by
  obtain ⟨h', e⟩ := e
  unfold fnG gcR
  rw [e]
  simp only [frz, D.und, if_true]
  split <;> exact ⟨_, rfl⟩
end XP
set_option Elab.async false
set_option linter.all false
set_option maxRecDepth 100000
set_option maxHeartbeats 400000
/-! the laws' stretches -/
namespace XP
open PySem PySem.Spec L2 MP
theorem e_take : K01.f_law_take = f_take := rfl
theorem e_bag : K01.f_law_bag = f_bagB := rfl
theorem good_snoc {acc : List PRow} {p : PRow} (g : Good acc) (hp : 0 ≤ p.1 ∧ p.1 ≤ p.2 ∧ p.2 ≤ 999999) : Good (acc ++ [p]) := fun q hq => by
  rcases List.mem_append.mp hq with hq | hq
  · exact g q hq
  · rw [List.mem_singleton.mp hq]
    exact hp
structure SP where
  h : AH
  b : Nat
  β : BagC
  m : Int
  wd : Int
  lg : Int
def SR (lg0 wd0 : Int) (st : BagC × List PRow) (p : SP) (s : Sl) (h : AH) : Prop := p.h.g p.b = some (bagO p.β) ∧ p.wd = wd0 ∧ p.lg = lg0 ∧ h = HB p.h p.b st.1 (.lst (st.2.map tupP)) ∧ ∃ x5 x6, s = [some (.ref p.b), some (.int p.m), some (.int p.wd), some (.int p.lg), some (.ref p.h.n), x5, x6]
def SI (K i : Int) (st : BagC × List PRow) : Prop := Good st.2 ∧ (st.2.length : Int) ≤ i ∧ OkB (K + 4 * i) st.1
theorem st1_ok {wd lg K i : Int} {st : BagC × List PRow} (w0 : 0 < wd) (w1 : wd ≤ 1000000) (l0 : 0 < lg) (l1 : lg ≤ 1000000) (i0 : 0 ≤ i) (i1 : i < 1000) (K1 : K < 10000000) (I : SI K i st) :
    ∃ st', SI K (i + 1) st' ∧ ∀ p s h, SR lg wd st p s h → ∃ s1 h1 s2 h2, gNm 5 (.int i) s h = some (s1, h1) ∧ (K01.L_law_stretches_1 s1 h1 = .nx s2 h2 ∨ K01.L_law_stretches_1 s1 h1 = .ct s2 h2) ∧ SR lg wd st' p s2 h2 := by
  obtain ⟨β, acc⟩ := st
  obtain ⟨G, al, B⟩ := I
  dsimp only at G al B
  obtain ⟨r1, β1, t1, u1, v1, B1⟩ := take_ok B (n := wd) (by omega) w0 (by omega)
  have hlt : (acc.map tupP).length < 100000 := by rw [List.length_map]; omega
  have ap : ∀ a c : Int, acc.map tupP ++ [.tup [.int a, .int c]] = (acc ++ [(a, c)]).map tupP := fun a c => by rw [List.map_append]; rfl
  have fin : ∀ (bg : Int) (β2 : BagC), 0 ≤ bg → bg ≤ 999999 → OkB (K + 4 * i + 3) β2 →
      (∀ r3 β3, (∀ h b, h.g b = some (bagO β2) → f_take [.ref b, .int lg] h = .ok (.int r3) (h.put b (bagO β3))) → ∀ (h : AH) (b : Nat) (β0 : BagC) (m : Int) (x6 : Option D), h.g b = some (bagO β0) →
        K01.L_law_stretches_1 [some (.ref b), some (.int m), some (.int wd), some (.int lg), some (.ref h.n), some (.int i), x6] (HB h b β (.lst (acc.map tupP))) =
        .nx [some (.ref b), some (.int m), some (.int wd), some (.int lg), some (.ref h.n), some (.int i), some (.int bg)] (HB h b β3 (.lst ((acc ++ [(bg, if bg + r3 < 999999 then bg + r3 else 999999)]).map tupP)))) →
      ∃ st', SI K (i + 1) st' ∧ ∀ p s h, SR lg wd (β, acc) p s h → ∃ s1 h1 s2 h2, gNm 5 (.int i) s h = some (s1, h1) ∧ (K01.L_law_stretches_1 s1 h1 = .nx s2 h2 ∨ K01.L_law_stretches_1 s1 h1 = .ct s2 h2) ∧ SR lg wd st' p s2 h2 := by
    intro bg β2 b0 b1 B2 run
    obtain ⟨r3, β3, t3, u3, v3, B3⟩ := take_ok B2 (n := lg) (by omega) l0 (by omega)
    refine ⟨(β3, acc ++ [(bg, if bg + r3 < 999999 then bg + r3 else 999999)]), ⟨good_snoc G ⟨b0, by dsimp only; split <;> omega, by dsimp only; split <;> omega⟩, by rw [List.length_append, List.length_singleton]; push_cast; omega, B3.mono (by omega)⟩, ?_⟩
    rintro ⟨h, b, β0, m, wd', lg'⟩ s h' ⟨e0, rfl, rfl, rfl, x5, x6, rfl⟩
    exact ⟨_, _, _, _, rfl, .inl (run r3 β3 t3 h b β0 m x6 e0), e0, rfl, rfl, rfl, _, _, rfl⟩
  rcases List.eq_nil_or_concat acc with rfl | ⟨a0, q, rfl⟩
  · refine fin r1 β1 u1 (by omega) (B1.mono (by omega)) fun r3 β3 t3 h b β0 m x6 e0 => ?_
    have k1 := t1 _ _ (HB_g (β' := β) (o := .lst ([].map tupP)) e0)
    have k2 := t3 _ _ (HB_g (β' := β1) (o := .lst ([].map tupP)) e0)
    rw [HB_put e0] at k1 k2
    have n1 := eqb_nilL (HB_l (h := h) (b := b) (β := β1) (o := .lst ([].map tupP)))
    have n2 := HB_l (h := h) (b := b) (β := β3) (o := .lst ([].map tupP))
    have n3 := HB_lput (h := h) (b := b) (β := β3) (o := .lst ([].map tupP)) (o' := .lst [.tup [.int r1, .int (if r1 + r3 < 999999 then r1 + r3 else 999999)]])
    simp only [List.map_nil] at k1 k2 n1 n2 n3 ⊢
    simp (disch := omega) only [fnM, eVar, eC, eBin, eUn, aNil, aCons, eTup, eLst, eLstN, eFn, eIf, eFld, eCall, eMeth, eMake, insOf, tst, tstB, MP.tAnd, MP.tOr, MP.tNot, eAnd, eOr, eNot, eChain, truth, optR, Res.bind, Res.bindS, sNil, sSeq, sExp, sRet, sRetN, sIf, sAsg, sSet, sPar, MP.sFld, MP.sFldAug, sFor, nxO, gNm, gFld, gIx, setIx, setFld, gsNil, gsCons, gTp, gLs, MP.iRng1, MP.iRng2, iSeq, iLst, MP.iTup, seqL, seqM, seqT, seqX, eIsi, tyName, isi_ii, isi_ib, isi_bi, isi_bb, isi_ni, isi_si, isi_ss, isi_is, isi_tt, isi_ti, isi_li, pAdd, pSub, pMulA_int, pMul_ok, pDiv_ok, pMod_ok, pNeg, pLt, pLe, pGt, pGe, pEq, pNe, sEq, pIs, pIsNot, MP.isNon, pIx, fAbs, fMax2, fMin2, fInt, fLen, gSel, pick, AH.put_n, AH.new_n, AH.put_put, AH.new_put, List.length_cons, List.length_nil, List.map_cons, List.map_nil, List.cons_append, List.nil_append, List.append_nil, List.replicate, List.getElem?_cons_zero, List.getElem?_cons_succ, List.getElem?_nil, List.set_cons_zero, List.set_cons_succ, List.flatMap_cons, List.flatMap_nil, List.drop_zero, List.drop_succ_cons, List.drop_nil, List.take_succ_cons, List.take_zero, List.take_nil, List.contains_cons, List.contains_nil, Bool.or_false, Bool.or_true, Bool.true_or, Bool.false_or, Bool.and_true, Bool.and_false, Bool.not_true, Bool.not_false, beq_self_eq_true, Nat.reduceAdd, Nat.reduceSub, Nat.reduceLeDiff, Nat.reduceLT, Nat.reduceEqDiff, Nat.reduceBEq, Int.reduceToNat, ↓reduceIte, reduceIte, Bool.false_eq_true, ne_true_f, decide_eq_true_eq, and_self, and_true, true_and, Nat.zero_le, Option.map_some, Option.map_none, Option.bind_some, Int.reduceLT, Int.reduceLE, Int.reduceNeg, decide_true, decide_false, ixN_0, ixN_1, ixN_2, ixN_3, ixN_m1, atI_1, atI_2, atI_3, eq_self, Option.some.injEq, false_and, atI_0, Nat.zero_add, Nat.add_zero, pow10_18, pow10_10, pow10_11, pow10_6, sRaise, sRaise0, sTryO, noEx, fAny, fAll, blsL, compL, wipeD, CT.set, eComp, eCompN, lstOk, fSum, fTuple, fList, sAug, pAddI, pSubI, pIn, pNotIn, inB, MP.iZip, iEnumA, fSortP, fSortSet, eSl, partD, zipD_ints, pairsL_map, eBm, mAppend, List.any_cons, List.any_nil, List.all_cons, List.all_nil, id, List.length_append, List.zip_cons_cons, List.zip_nil_left, List.reverse_cons, List.reverse_nil, eqb_int, eqb_str, eqb_bl, kc0, kc1, kc2, kc3, kc4, kc5, kc6, kc7, kc8, kc9, kc10, kc11, kc12, kc13, kc14, kc15, kc16, kc17, kc18, kc19, kc20, Int.reduceBEq, Int.reduceMul, Int.reduceSub, Pg.Pool_get_kept, Pg.Pool_set_kept, Pg.Pool_put_0, Pg.Pool_no_stretches, Pg.Pool_no___len__, Pg.Pool_no_has, Pg.Pool_no_number_at, Pg.Pool_no_place_of, Pg.Pool_no_first_from, Pg.Pool_no_joined, Pg.Pool_no_met, Pg.Pool_no_without, Pg.Pool_no_dealt, Pg.Pool_no___eq__, Pg.Pool_no___str__, Pg.Pool_no___repr__, K01.L_law_stretches_1, e_take, k1, k2, n1, n2, n3, List.isEmpty_nil, tupP, HB_l]
  · rw [List.concat_eq_append] at *
    have em : (a0 ++ [q]).isEmpty = false := by simp
    have l1 : atI ((a0 ++ [q]).map tupP) (-1) = some (.tup [.int q.1, .int q.2]) := at_last tupP a0 q
    have gq := G q (by simp)
    obtain ⟨r2, β2, t2, u2, v2, B2⟩ := take_ok B1 (n := 5) (by omega) (by decide) (by decide)
    by_cases hr : r2 = 0
    · subst hr
      obtain ⟨r4, β4, t4, u4, v4, B4⟩ := take_ok B2 (n := 3) (by omega) (by decide) (by decide)
      refine fin (if q.2 + r4 < 999999 then q.2 + r4 else 999999) β4 (by split <;> omega) (by split <;> omega) (B4.mono (by omega)) fun r3 β3 t3 h b β0 m x6 e0 => ?_
      have k1 := t1 _ _ (HB_g (β' := β) (o := .lst ((a0 ++ [q]).map tupP)) e0)
      have k2 := t2 _ _ (HB_g (β' := β1) (o := .lst ((a0 ++ [q]).map tupP)) e0)
      have k4 := t4 _ _ (HB_g (β' := β2) (o := .lst ((a0 ++ [q]).map tupP)) e0)
      have k3 := t3 _ _ (HB_g (β' := β4) (o := .lst ((a0 ++ [q]).map tupP)) e0)
      rw [HB_put e0] at k1 k2 k3 k4
      have n1 := eqb_nilL (HB_l (h := h) (b := b) (β := β1) (o := .lst ((a0 ++ [q]).map tupP)))
      have n4 := HB_l (h := h) (b := b) (β := β2) (o := .lst ((a0 ++ [q]).map tupP))
      have n2 := HB_l (h := h) (b := b) (β := β3) (o := .lst ((a0 ++ [q]).map tupP))
      have n3 := fun o' => HB_lput (h := h) (b := b) (β := β3) (o := .lst ((a0 ++ [q]).map tupP)) (o' := o')
      simp (disch := omega) only [fnM, eVar, eC, eBin, eUn, aNil, aCons, eTup, eLst, eLstN, eFn, eIf, eFld, eCall, eMeth, eMake, insOf, tst, tstB, MP.tAnd, MP.tOr, MP.tNot, eAnd, eOr, eNot, eChain, truth, optR, Res.bind, Res.bindS, sNil, sSeq, sExp, sRet, sRetN, sIf, sAsg, sSet, sPar, MP.sFld, MP.sFldAug, sFor, nxO, gNm, gFld, gIx, setIx, setFld, gsNil, gsCons, gTp, gLs, MP.iRng1, MP.iRng2, iSeq, iLst, MP.iTup, seqL, seqM, seqT, seqX, eIsi, tyName, isi_ii, isi_ib, isi_bi, isi_bb, isi_ni, isi_si, isi_ss, isi_is, isi_tt, isi_ti, isi_li, pAdd, pSub, pMulA_int, pMul_ok, pDiv_ok, pMod_ok, pNeg, pLt, pLe, pGt, pGe, pEq, pNe, sEq, pIs, pIsNot, MP.isNon, pIx, fAbs, fMax2, fMin2, fInt, fLen, gSel, pick, AH.put_n, AH.new_n, AH.put_put, AH.new_put, List.length_cons, List.length_nil, List.map_cons, List.map_nil, List.cons_append, List.nil_append, List.append_nil, List.replicate, List.getElem?_cons_zero, List.getElem?_cons_succ, List.getElem?_nil, List.set_cons_zero, List.set_cons_succ, List.flatMap_cons, List.flatMap_nil, List.drop_zero, List.drop_succ_cons, List.drop_nil, List.take_succ_cons, List.take_zero, List.take_nil, List.contains_cons, List.contains_nil, Bool.or_false, Bool.or_true, Bool.true_or, Bool.false_or, Bool.and_true, Bool.and_false, Bool.not_true, Bool.not_false, beq_self_eq_true, Nat.reduceAdd, Nat.reduceSub, Nat.reduceLeDiff, Nat.reduceLT, Nat.reduceEqDiff, Nat.reduceBEq, Int.reduceToNat, ↓reduceIte, reduceIte, Bool.false_eq_true, ne_true_f, decide_eq_true_eq, and_self, and_true, true_and, Nat.zero_le, Option.map_some, Option.map_none, Option.bind_some, Int.reduceLT, Int.reduceLE, Int.reduceNeg, decide_true, decide_false, ixN_0, ixN_1, ixN_2, ixN_3, ixN_m1, atI_1, atI_2, atI_3, eq_self, Option.some.injEq, false_and, atI_0, Nat.zero_add, Nat.add_zero, pow10_18, pow10_10, pow10_11, pow10_6, sRaise, sRaise0, sTryO, noEx, fAny, fAll, blsL, compL, wipeD, CT.set, eComp, eCompN, lstOk, fSum, fTuple, fList, sAug, pAddI, pSubI, pIn, pNotIn, inB, MP.iZip, iEnumA, fSortP, fSortSet, eSl, partD, zipD_ints, pairsL_map, eBm, mAppend, List.any_cons, List.any_nil, List.all_cons, List.all_nil, id, List.length_append, List.zip_cons_cons, List.zip_nil_left, List.reverse_cons, List.reverse_nil, eqb_int, eqb_str, eqb_bl, kc0, kc1, kc2, kc3, kc4, kc5, kc6, kc7, kc8, kc9, kc10, kc11, kc12, kc13, kc14, kc15, kc16, kc17, kc18, kc19, kc20, Int.reduceBEq, Int.reduceMul, Int.reduceSub, Pg.Pool_get_kept, Pg.Pool_set_kept, Pg.Pool_put_0, Pg.Pool_no_stretches, Pg.Pool_no___len__, Pg.Pool_no_has, Pg.Pool_no_number_at, Pg.Pool_no_place_of, Pg.Pool_no_first_from, Pg.Pool_no_joined, Pg.Pool_no_met, Pg.Pool_no_without, Pg.Pool_no_dealt, Pg.Pool_no___eq__, Pg.Pool_no___str__, Pg.Pool_no___repr__, K01.L_law_stretches_1, e_take, k1, k2, k3, k4, n1, n2, n3, n4, em, l1, hlt, ap, HB_l]
    · refine fin r1 β2 u1 (by omega) (B2.mono (by omega)) fun r3 β3 t3 h b β0 m x6 e0 => ?_
      have k1 := t1 _ _ (HB_g (β' := β) (o := .lst ((a0 ++ [q]).map tupP)) e0)
      have k2 := t2 _ _ (HB_g (β' := β1) (o := .lst ((a0 ++ [q]).map tupP)) e0)
      have k3 := t3 _ _ (HB_g (β' := β2) (o := .lst ((a0 ++ [q]).map tupP)) e0)
      rw [HB_put e0] at k1 k2 k3
      have n1 := eqb_nilL (HB_l (h := h) (b := b) (β := β1) (o := .lst ((a0 ++ [q]).map tupP)))
      have n2 := HB_l (h := h) (b := b) (β := β3) (o := .lst ((a0 ++ [q]).map tupP))
      have n3 := fun o' => HB_lput (h := h) (b := b) (β := β3) (o := .lst ((a0 ++ [q]).map tupP)) (o' := o')
      have hb : (r2 == 0) = false := by simpa using hr
      simp (disch := omega) only [fnM, eVar, eC, eBin, eUn, aNil, aCons, eTup, eLst, eLstN, eFn, eIf, eFld, eCall, eMeth, eMake, insOf, tst, tstB, MP.tAnd, MP.tOr, MP.tNot, eAnd, eOr, eNot, eChain, truth, optR, Res.bind, Res.bindS, sNil, sSeq, sExp, sRet, sRetN, sIf, sAsg, sSet, sPar, MP.sFld, MP.sFldAug, sFor, nxO, gNm, gFld, gIx, setIx, setFld, gsNil, gsCons, gTp, gLs, MP.iRng1, MP.iRng2, iSeq, iLst, MP.iTup, seqL, seqM, seqT, seqX, eIsi, tyName, isi_ii, isi_ib, isi_bi, isi_bb, isi_ni, isi_si, isi_ss, isi_is, isi_tt, isi_ti, isi_li, pAdd, pSub, pMulA_int, pMul_ok, pDiv_ok, pMod_ok, pNeg, pLt, pLe, pGt, pGe, pEq, pNe, sEq, pIs, pIsNot, MP.isNon, pIx, fAbs, fMax2, fMin2, fInt, fLen, gSel, pick, AH.put_n, AH.new_n, AH.put_put, AH.new_put, List.length_cons, List.length_nil, List.map_cons, List.map_nil, List.cons_append, List.nil_append, List.append_nil, List.replicate, List.getElem?_cons_zero, List.getElem?_cons_succ, List.getElem?_nil, List.set_cons_zero, List.set_cons_succ, List.flatMap_cons, List.flatMap_nil, List.drop_zero, List.drop_succ_cons, List.drop_nil, List.take_succ_cons, List.take_zero, List.take_nil, List.contains_cons, List.contains_nil, Bool.or_false, Bool.or_true, Bool.true_or, Bool.false_or, Bool.and_true, Bool.and_false, Bool.not_true, Bool.not_false, beq_self_eq_true, Nat.reduceAdd, Nat.reduceSub, Nat.reduceLeDiff, Nat.reduceLT, Nat.reduceEqDiff, Nat.reduceBEq, Int.reduceToNat, ↓reduceIte, reduceIte, Bool.false_eq_true, ne_true_f, decide_eq_true_eq, and_self, and_true, true_and, Nat.zero_le, Option.map_some, Option.map_none, Option.bind_some, Int.reduceLT, Int.reduceLE, Int.reduceNeg, decide_true, decide_false, ixN_0, ixN_1, ixN_2, ixN_3, ixN_m1, atI_1, atI_2, atI_3, eq_self, Option.some.injEq, false_and, atI_0, Nat.zero_add, Nat.add_zero, pow10_18, pow10_10, pow10_11, pow10_6, sRaise, sRaise0, sTryO, noEx, fAny, fAll, blsL, compL, wipeD, CT.set, eComp, eCompN, lstOk, fSum, fTuple, fList, sAug, pAddI, pSubI, pIn, pNotIn, inB, MP.iZip, iEnumA, fSortP, fSortSet, eSl, partD, zipD_ints, pairsL_map, eBm, mAppend, List.any_cons, List.any_nil, List.all_cons, List.all_nil, id, List.length_append, List.zip_cons_cons, List.zip_nil_left, List.reverse_cons, List.reverse_nil, eqb_int, eqb_str, eqb_bl, kc0, kc1, kc2, kc3, kc4, kc5, kc6, kc7, kc8, kc9, kc10, kc11, kc12, kc13, kc14, kc15, kc16, kc17, kc18, kc19, kc20, Int.reduceBEq, Int.reduceMul, Int.reduceSub, Pg.Pool_get_kept, Pg.Pool_set_kept, Pg.Pool_put_0, Pg.Pool_no_stretches, Pg.Pool_no___len__, Pg.Pool_no_has, Pg.Pool_no_number_at, Pg.Pool_no_place_of, Pg.Pool_no_first_from, Pg.Pool_no_joined, Pg.Pool_no_met, Pg.Pool_no_without, Pg.Pool_no_dealt, Pg.Pool_no___eq__, Pg.Pool_no___str__, Pg.Pool_no___repr__, K01.L_law_stretches_1, e_take, k1, k2, k3, n1, n2, n3, em, l1, hlt, ap, hr, hb, HB_l]
theorem stretches_ok {β : BagC} {K m : Int} (B : OkB K β) (m0 : 0 ≤ m) (m1 : m ≤ 100) (K0 : 0 ≤ K) (K1 : K < 9000000) :
    ∃ ps β', (∀ h b, h.g b = some (bagO β) → K01.f_law_stretches [.ref b, .int m] h = .ok (rowsD ps) (h.put b (bagO β'))) ∧ Good ps ∧ (ps.length : Int) ≤ (if m < 4 then 4 else m) ∧ OkB (K + 500) β' := by
  obtain ⟨r1, β1, t1, u1, v1, B1⟩ := take_ok B (n := 4) (by omega) (by decide) (by decide)
  obtain ⟨wd, w, hw⟩ := menu4i 12 60 400 1000000 u1 v1
  obtain ⟨r2, β2, t2, u2, v2, B2⟩ := take_ok B1 (n := 4) (by omega) (by decide) (by decide)
  obtain ⟨lg, l, hl⟩ := menu4i 1 2 9 200000 u2 v2
  obtain ⟨r3, β3, t3, u3, v3, B3⟩ := take_ok B2 (n := 2) (by omega) (by decide) (by decide)
  obtain ⟨n, nn, hn⟩ : ∃ n : Int, atI [D.int 4, .int (m + 1)] r3 = some (.int n) ∧ (n = 4 ∨ n = m + 1) := by
    rcases (show r3 = 0 ∨ r3 = 1 by omega) with rfl | rfl
    · exact ⟨_, atI_0 .., .inl rfl⟩
    · exact ⟨_, atI_1 .., .inr rfl⟩
  obtain ⟨r4, β4, t4, u4, v4, B4⟩ := take_ok B3 (n := n) (by omega) (by omega) (by omega)
  obtain ⟨⟨β5, ps⟩, ⟨_, G, al, B5⟩, run⟩ := draw_rng (g := gNm 5) (b := K01.L_law_stretches_1) (SR lg wd) (fun i st => i ≤ r4 ∧ SI (K + 4) i st) (lo := 0) (hi := r4) (st := (β4, [])) u4 ⟨u4, fun p hp => (by cases hp), by simp, B4.mono (by omega)⟩ (fun i st i0 i1 I => by
    obtain ⟨st', I', run⟩ := st1_ok (wd := wd) (lg := lg) (by omega) (by omega) (by omega) (by omega) i0 (by omega) (by omega) I.2
    exact ⟨st', ⟨by omega, I'⟩, run⟩)
  refine ⟨ps, β5, fun h b e0 => ?_, G, by dsimp only at al; split <;> omega, B5.mono (by omega)⟩
  have k1 := t1 h b e0
  have k2 := t2 _ b (AH.put_same (o := bagO β1) e0)
  have k3 := t3 _ _ (HB_g (β' := β2) (o := .lst []) e0)
  have k4 := t4 _ _ (HB_g (β' := β3) (o := .lst []) e0)
  rw [AH.put_put] at k2
  rw [HB_put e0] at k3 k4
  have z : (h.put b (bagO β2)).new (.lst []) = HB h b β2 (.lst []) := rfl
  obtain ⟨s', h', e, e0', _, _, rfl, x5, x6, rfl⟩ := run ⟨h, b, β, m, wd, lg⟩ [some (.ref b), some (.int m), some (.int wd), some (.int lg), some (.ref h.n), none, none] (HB h b β4 (.lst [])) ⟨e0, rfl, rfl, rfl, none, none, rfl⟩
  have hg : -2 ^ 62 ≤ r4 ∧ r4 < 2 ^ 62 := by omega
  refine fnG_put (h' := HB h b β5 (.lst (ps.map tupP))) ?_ e0 rfl HB_old (rows_und _ _)
  simp (disch := omega) only [fnM, eVar, eC, eBin, eUn, aNil, aCons, eTup, eLst, eLstN, eFn, eIf, eFld, eCall, eMeth, eMake, insOf, tst, tstB, MP.tAnd, MP.tOr, MP.tNot, eAnd, eOr, eNot, eChain, truth, optR, Res.bind, Res.bindS, sNil, sSeq, sExp, sRet, sRetN, sIf, sAsg, sSet, sPar, MP.sFld, MP.sFldAug, sFor, nxO, gNm, gFld, gIx, setIx, setFld, gsNil, gsCons, gTp, gLs, MP.iRng1, MP.iRng2, iSeq, iLst, MP.iTup, seqL, seqM, seqT, seqX, eIsi, tyName, isi_ii, isi_ib, isi_bi, isi_bb, isi_ni, isi_si, isi_ss, isi_is, isi_tt, isi_ti, isi_li, pAdd, pSub, pMulA_int, pMul_ok, pDiv_ok, pMod_ok, pNeg, pLt, pLe, pGt, pGe, pEq, pNe, pEqB, sEq, pIs, pIsNot, MP.isNon, pIx, fAbs, fMax2, fMin2, fInt, fLen, gSel, pick, AH.put_n, AH.new_n, AH.put_put, AH.new_put, List.length_cons, List.length_nil, List.map_cons, List.map_nil, List.cons_append, List.nil_append, List.append_nil, List.replicate, List.getElem?_cons_zero, List.getElem?_cons_succ, List.getElem?_nil, List.set_cons_zero, List.set_cons_succ, List.flatMap_cons, List.flatMap_nil, List.drop_zero, List.drop_succ_cons, List.drop_nil, List.take_succ_cons, List.take_zero, List.take_nil, List.contains_cons, List.contains_nil, Bool.or_false, Bool.or_true, Bool.true_or, Bool.false_or, Bool.and_true, Bool.and_false, Bool.not_true, Bool.not_false, beq_self_eq_true, Nat.reduceAdd, Nat.reduceSub, Nat.reduceLeDiff, Nat.reduceLT, Nat.reduceEqDiff, Nat.reduceBEq, Int.reduceToNat, ↓reduceIte, reduceIte, Bool.false_eq_true, ne_true_f, decide_eq_true_eq, and_self, and_true, true_and, Nat.zero_le, Option.map_some, Option.map_none, Option.bind_some, Int.reduceLT, Int.reduceLE, Int.reduceNeg, decide_true, decide_false, ixN_0, ixN_1, ixN_2, ixN_3, ixN_m1, atI_1, atI_2, atI_3, eq_self, Option.some.injEq, false_and, atI_0, Nat.zero_add, Nat.add_zero, pow10_18, pow10_10, pow10_11, pow10_6, sRaise, sRaise0, sTryO, noEx, fAny, fAll, blsL, compL, wipeD, CT.set, eComp, eCompN, lstOk, fSum, fTuple, fList, sAug, pAddI, pSubI, pIn, pNotIn, inB, MP.iZip, iEnumA, fSortP, fSortSet, eSl, partD, zipD_ints, pairsL_map, eBm, mAppend, List.any_cons, List.any_nil, List.all_cons, List.all_nil, id, List.length_append, List.zip_cons_cons, List.zip_nil_left, List.reverse_cons, List.reverse_nil, eqb_int, eqb_str, eqb_bl, kc0, kc1, kc2, kc3, kc4, kc5, kc6, kc7, kc8, kc9, kc10, kc11, kc12, kc13, kc14, kc15, kc16, kc17, kc18, kc19, kc20, Int.reduceBEq, Int.reduceMul, Int.reduceSub, Pg.Pool_get_kept, Pg.Pool_set_kept, Pg.Pool_put_0, Pg.Pool_no_stretches, Pg.Pool_no___len__, Pg.Pool_no_has, Pg.Pool_no_number_at, Pg.Pool_no_place_of, Pg.Pool_no_first_from, Pg.Pool_no_joined, Pg.Pool_no_met, Pg.Pool_no_without, Pg.Pool_no_dealt, Pg.Pool_no___eq__, Pg.Pool_no___str__, Pg.Pool_no___repr__, K01.b_law_stretches, e_take, k1, w, k2, l, z, k3, nn, k4, hg, e, HB_l]
  rfl
end XP
set_option Elab.async false
set_option linter.all false
set_option maxRecDepth 100000
set_option maxHeartbeats 400000
/-! the laws' sameness -/
namespace XP
open PySem PySem.Spec L2 MP
/-- data nested less deep than n -/
def PlainD : Nat → D → Bool
  | 0, _ => false
  | n + 1, .tup xs => decide (xs.length ≤ 100000) && xs.all (PlainD n)
  | n + 1, .lst xs => decide (xs.length ≤ 100000) && xs.all (PlainD n)
  | _ + 1, .int _ => true
  | _ + 1, .str _ => true
  | _ + 1, .bl _ => true
  | _ + 1, .non => true
  | _, _ => false
theorem eqb_non (h : AH) : pEqB h .non .non = some true := rfl
theorem zip_self (xs : List D) : zipD xs xs = xs.map fun x => .tup [x, x] := by
  induction xs with
  | nil => rfl
  | cons x xs ih =>
    unfold zipD at ih ⊢
    simp only [List.zip_cons_cons, List.map_cons, ih]
theorem same_seq (n : Nat) (ih : ∀ d, PlainD n d = true → ∀ h, K01.f_law_same n [d, d] h = .ok (.bl true) h) {xs : List D} (hl : xs.length ≤ 100000) (ha : xs.all (PlainD n) = true) (s : Sl) (x y : Option D) (e : s = [x, y, none, none]) (h : AH) :
    compL (fun _ => true) [2, 3] (.tup [2, 3]) tYesD (eCall (K01.f_law_same n) 2 0 [(.us, 0), (.us, 1)] [] [] (aCons (eVar 2) (aCons (eVar 3) aNil)) aNil) (zipD xs xs) s h [] = .ok (xs.map fun _ => .bl true) h := by
  subst e
  have C := compL_map (ok := fun _ => true) (own := [2, 3]) (g := .tup [2, 3]) (t := tYesD) (e := eCall (K01.f_law_same n) 2 0 [(.us, 0), (.us, 1)] [] [] (aCons (eVar 2) (aCons (eVar 3) aNil)) aNil) (s := [x, y, none, none]) (h := h) (fun x : D => D.tup [x, x]) (fun _ => true) (fun _ => .bl true) rfl xs [] (fun d hd => ⟨[x, y, some d, some d], rfl, rfl, fun _ => by
    have := ih d (List.all_eq_true.mp ha d hd) h
    simp (disch := omega) only [fnM, eVar, eC, eBin, eUn, aNil, aCons, eTup, eLst, eLstN, eFn, eIf, eFld, eCall, eMeth, eMake, insOf, tst, tstB, MP.tAnd, MP.tOr, MP.tNot, eAnd, eOr, eNot, eChain, truth, optR, Res.bind, Res.bindS, sNil, sSeq, sExp, sRet, sRetN, sIf, sAsg, sSet, sPar, MP.sFld, MP.sFldAug, sFor, nxO, gNm, gFld, gIx, setIx, setFld, gsNil, gsCons, gTp, gLs, MP.iRng1, MP.iRng2, iSeq, iLst, MP.iTup, seqL, seqM, seqT, seqX, eIsi, tyName, isi_ii, isi_ib, isi_bi, isi_bb, isi_ni, isi_si, isi_ss, isi_is, isi_tt, isi_ti, isi_li, pAdd, pSub, pMulA_int, pMul_ok, pDiv_ok, pMod_ok, pNeg, pLt, pLe, pGt, pGe, pEq, pNe, pEqB, sEq, pIs, pIsNot, MP.isNon, pIx, fAbs, fMax2, fMin2, fInt, fLen, gSel, pick, AH.put_g, AH.put_n, AH.new_g, AH.new_n, AH.put_put, AH.new_put, List.length_cons, List.length_nil, List.map_cons, List.map_nil, List.cons_append, List.nil_append, List.append_nil, List.replicate, List.getElem?_cons_zero, List.getElem?_cons_succ, List.getElem?_nil, List.set_cons_zero, List.set_cons_succ, List.flatMap_cons, List.flatMap_nil, List.drop_zero, List.drop_succ_cons, List.drop_nil, List.take_succ_cons, List.take_zero, List.take_nil, List.contains_cons, List.contains_nil, Bool.or_false, Bool.or_true, Bool.true_or, Bool.false_or, Bool.and_true, Bool.and_false, Bool.not_true, Bool.not_false, beq_self_eq_true, Nat.reduceAdd, Nat.reduceSub, Nat.reduceLeDiff, Nat.reduceLT, Nat.reduceEqDiff, Nat.reduceBEq, Int.reduceToNat, ↓reduceIte, reduceIte, Bool.false_eq_true, ne_true_f, decide_eq_true_eq, and_self, and_true, true_and, Nat.zero_le, Option.map_some, Option.map_none, Option.bind_some, Int.reduceLT, Int.reduceLE, Int.reduceNeg, decide_true, decide_false, ixN_0, ixN_1, ixN_2, ixN_3, ixN_m1, atI_1, atI_2, atI_3, eq_self, Option.some.injEq, false_and, atI_0, Nat.zero_add, Nat.add_zero, pow10_18, pow10_10, pow10_11, pow10_6, sRaise, sRaise0, sTryO, noEx, fAny, fAll, blsL, compL, wipeD, CT.set, eComp, eCompN, lstOk, fSum, fTuple, fList, sAug, pAddI, pSubI, pIn, pNotIn, inB, MP.iZip, iEnumA, fSortP, fSortSet, eSl, partD, zipD_ints, pairsL_map, eBm, mAppend, List.any_cons, List.any_nil, List.all_cons, List.all_nil, id, List.length_append, List.zip_cons_cons, List.zip_nil_left, List.reverse_cons, List.reverse_nil, eqb_int, eqb_str, eqb_bl, kc0, kc1, kc2, kc3, kc4, kc5, kc6, kc7, kc8, kc9, kc10, kc11, kc12, kc13, kc14, kc15, kc16, kc17, kc18, kc19, kc20, Int.reduceBEq, Int.reduceMul, Int.reduceSub, Pg.Pool_get_kept, Pg.Pool_set_kept, Pg.Pool_put_0, Pg.Pool_no_stretches, Pg.Pool_no___len__, Pg.Pool_no_has, Pg.Pool_no_number_at, Pg.Pool_no_place_of, Pg.Pool_no_first_from, Pg.Pool_no_joined, Pg.Pool_no_met, Pg.Pool_no_without, Pg.Pool_no_dealt, Pg.Pool_no___eq__, Pg.Pool_no___str__, Pg.Pool_no___repr__, this]⟩) (by simpa using hl)
  rw [filter_true] at C
  rw [zip_self]
  simpa using C
theorem all_yes (xs : List D) : blsL (xs.map fun _ => D.bl true) = some (xs.map fun _ => true) := blsL_map (fun _ => true) xs
theorem all_yes2 (xs : List D) : (xs.map fun _ => true).all id = true := by induction xs <;> simp_all
theorem same_ok : ∀ (n : Nat) (d : D), PlainD n d = true → ∀ h, K01.f_law_same n [d, d] h = .ok (.bl true) h
  | 0, d, e, h => by simp [PlainD] at e
  | n + 1, d, e, h => by
    have ih := same_ok n
    show fnG 2 4 (K01.b_law_same (K01.f_law_same n)) [d, d] h = _
    refine fnG_same ?_ rfl
    cases d with
    | tup xs =>
      simp only [PlainD, Bool.and_eq_true, decide_eq_true_eq] at e
      have C := same_seq n ih e.1 e.2 [some (.tup xs), some (.tup xs), none, none] _ _ rfl h
      simp (disch := omega) only [fnM, eVar, eC, eBin, eUn, aNil, aCons, eTup, eLst, eLstN, eFn, eIf, eFld, eCall, eMeth, eMake, insOf, tst, tstB, MP.tAnd, MP.tOr, MP.tNot, eAnd, eOr, eNot, eChain, truth, optR, Res.bind, Res.bindS, sNil, sSeq, sExp, sRet, sRetN, sIf, sAsg, sSet, sPar, MP.sFld, MP.sFldAug, sFor, nxO, gNm, gFld, gIx, setIx, setFld, gsNil, gsCons, gTp, gLs, MP.iRng1, MP.iRng2, iSeq, iLst, MP.iTup, seqL, seqM, seqT, seqX, eIsi, tyName, isi_ii, isi_ib, isi_bi, isi_bb, isi_ni, isi_si, isi_ss, isi_is, isi_tt, isi_ti, isi_li, pAdd, pSub, pMulA_int, pMul_ok, pDiv_ok, pMod_ok, pNeg, pLt, pLe, pGt, pGe, pEq, pNe, pEqB, sEq, pIs, pIsNot, MP.isNon, pIx, fAbs, fMax2, fMin2, fInt, fLen, gSel, pick, AH.put_g, AH.put_n, AH.new_g, AH.new_n, AH.put_put, AH.new_put, List.length_cons, List.length_nil, List.map_cons, List.map_nil, List.cons_append, List.nil_append, List.append_nil, List.replicate, List.getElem?_cons_zero, List.getElem?_cons_succ, List.getElem?_nil, List.set_cons_zero, List.set_cons_succ, List.flatMap_cons, List.flatMap_nil, List.drop_zero, List.drop_succ_cons, List.drop_nil, List.take_succ_cons, List.take_zero, List.take_nil, List.contains_cons, List.contains_nil, Bool.or_false, Bool.or_true, Bool.true_or, Bool.false_or, Bool.and_true, Bool.and_false, Bool.not_true, Bool.not_false, beq_self_eq_true, Nat.reduceAdd, Nat.reduceSub, Nat.reduceLeDiff, Nat.reduceLT, Nat.reduceEqDiff, Nat.reduceBEq, Int.reduceToNat, ↓reduceIte, reduceIte, Bool.false_eq_true, ne_true_f, decide_eq_true_eq, and_self, and_true, true_and, Nat.zero_le, Option.map_some, Option.map_none, Option.bind_some, Int.reduceLT, Int.reduceLE, Int.reduceNeg, decide_true, decide_false, ixN_0, ixN_1, ixN_2, ixN_3, ixN_m1, atI_1, atI_2, atI_3, eq_self, Option.some.injEq, false_and, atI_0, Nat.zero_add, Nat.add_zero, pow10_18, pow10_10, pow10_11, pow10_6, sRaise, sRaise0, sTryO, noEx, fAny, fAll, blsL, wipeD, CT.set, eComp, eCompN, lstOk, fSum, fTuple, fList, sAug, pAddI, pSubI, pIn, pNotIn, inB, MP.iZip, iEnumA, fSortP, fSortSet, eSl, partD, zipD_ints, pairsL_map, eBm, mAppend, List.any_cons, List.any_nil, List.all_cons, List.all_nil, id, List.length_append, List.zip_cons_cons, List.zip_nil_left, List.reverse_cons, List.reverse_nil, eqb_int, eqb_str, eqb_bl, kc0, kc1, kc2, kc3, kc4, kc5, kc6, kc7, kc8, kc9, kc10, kc11, kc12, kc13, kc14, kc15, kc16, kc17, kc18, kc19, kc20, Int.reduceBEq, Int.reduceMul, Int.reduceSub, Pg.Pool_get_kept, Pg.Pool_set_kept, Pg.Pool_put_0, Pg.Pool_no_stretches, Pg.Pool_no___len__, Pg.Pool_no_has, Pg.Pool_no_number_at, Pg.Pool_no_place_of, Pg.Pool_no_first_from, Pg.Pool_no_joined, Pg.Pool_no_met, Pg.Pool_no_without, Pg.Pool_no_dealt, Pg.Pool_no___eq__, Pg.Pool_no___str__, Pg.Pool_no___repr__, K01.b_law_same, iZipA, isi_tl, C, all_yes, all_yes2]
    | lst xs =>
      simp only [PlainD, Bool.and_eq_true, decide_eq_true_eq] at e
      have C := same_seq n ih e.1 e.2 [some (.lst xs), some (.lst xs), none, none] _ _ rfl h
      have l : (fun h => lstOk (.lst xs) xs h && lstOk (.lst xs) xs h) = fun _ => true := rfl
      simp (disch := omega) only [fnM, eVar, eC, eBin, eUn, aNil, aCons, eTup, eLst, eLstN, eFn, eIf, eFld, eCall, eMeth, eMake, insOf, tst, tstB, MP.tAnd, MP.tOr, MP.tNot, eAnd, eOr, eNot, eChain, truth, optR, Res.bind, Res.bindS, sNil, sSeq, sExp, sRet, sRetN, sIf, sAsg, sSet, sPar, MP.sFld, MP.sFldAug, sFor, nxO, gNm, gFld, gIx, setIx, setFld, gsNil, gsCons, gTp, gLs, MP.iRng1, MP.iRng2, iSeq, iLst, MP.iTup, seqL, seqM, seqT, seqX, eIsi, tyName, isi_ii, isi_ib, isi_bi, isi_bb, isi_ni, isi_si, isi_ss, isi_is, isi_tt, isi_ti, isi_li, pAdd, pSub, pMulA_int, pMul_ok, pDiv_ok, pMod_ok, pNeg, pLt, pLe, pGt, pGe, pEq, pNe, pEqB, sEq, pIs, pIsNot, MP.isNon, pIx, fAbs, fMax2, fMin2, fInt, fLen, gSel, pick, AH.put_g, AH.put_n, AH.new_g, AH.new_n, AH.put_put, AH.new_put, List.length_cons, List.length_nil, List.map_cons, List.map_nil, List.cons_append, List.nil_append, List.append_nil, List.replicate, List.getElem?_cons_zero, List.getElem?_cons_succ, List.getElem?_nil, List.set_cons_zero, List.set_cons_succ, List.flatMap_cons, List.flatMap_nil, List.drop_zero, List.drop_succ_cons, List.drop_nil, List.take_succ_cons, List.take_zero, List.take_nil, List.contains_cons, List.contains_nil, Bool.or_false, Bool.or_true, Bool.true_or, Bool.false_or, Bool.and_true, Bool.and_false, Bool.not_true, Bool.not_false, beq_self_eq_true, Nat.reduceAdd, Nat.reduceSub, Nat.reduceLeDiff, Nat.reduceLT, Nat.reduceEqDiff, Nat.reduceBEq, Int.reduceToNat, ↓reduceIte, reduceIte, Bool.false_eq_true, ne_true_f, decide_eq_true_eq, and_self, and_true, true_and, Nat.zero_le, Option.map_some, Option.map_none, Option.bind_some, Int.reduceLT, Int.reduceLE, Int.reduceNeg, decide_true, decide_false, ixN_0, ixN_1, ixN_2, ixN_3, ixN_m1, atI_1, atI_2, atI_3, eq_self, Option.some.injEq, false_and, atI_0, Nat.zero_add, Nat.add_zero, pow10_18, pow10_10, pow10_11, pow10_6, sRaise, sRaise0, sTryO, noEx, fAny, fAll, blsL, wipeD, CT.set, eComp, eCompN, lstOk, fSum, fTuple, fList, sAug, pAddI, pSubI, pIn, pNotIn, inB, MP.iZip, iEnumA, fSortP, fSortSet, eSl, partD, zipD_ints, pairsL_map, eBm, mAppend, List.any_cons, List.any_nil, List.all_cons, List.all_nil, id, List.length_append, List.zip_cons_cons, List.zip_nil_left, List.reverse_cons, List.reverse_nil, eqb_int, eqb_str, eqb_bl, kc0, kc1, kc2, kc3, kc4, kc5, kc6, kc7, kc8, kc9, kc10, kc11, kc12, kc13, kc14, kc15, kc16, kc17, kc18, kc19, kc20, Int.reduceBEq, Int.reduceMul, Int.reduceSub, Pg.Pool_get_kept, Pg.Pool_set_kept, Pg.Pool_put_0, Pg.Pool_no_stretches, Pg.Pool_no___len__, Pg.Pool_no_has, Pg.Pool_no_number_at, Pg.Pool_no_place_of, Pg.Pool_no_first_from, Pg.Pool_no_joined, Pg.Pool_no_met, Pg.Pool_no_without, Pg.Pool_no_dealt, Pg.Pool_no___eq__, Pg.Pool_no___str__, Pg.Pool_no___repr__, K01.b_law_same, iZipA, isi_ll, isi_lt, l, C, all_yes, all_yes2]
    | int i => simp (disch := omega) only [fnM, eVar, eC, eBin, eUn, aNil, aCons, eTup, eLst, eLstN, eFn, eIf, eFld, eCall, eMeth, eMake, insOf, tst, tstB, MP.tAnd, MP.tOr, MP.tNot, eAnd, eOr, eNot, eChain, truth, optR, Res.bind, Res.bindS, sNil, sSeq, sExp, sRet, sRetN, sIf, sAsg, sSet, sPar, MP.sFld, MP.sFldAug, sFor, nxO, gNm, gFld, gIx, setIx, setFld, gsNil, gsCons, gTp, gLs, MP.iRng1, MP.iRng2, iSeq, iLst, MP.iTup, seqL, seqM, seqT, seqX, eIsi, tyName, isi_ii, isi_ib, isi_bi, isi_bb, isi_ni, isi_si, isi_ss, isi_is, isi_tt, isi_ti, isi_li, pAdd, pSub, pMulA_int, pMul_ok, pDiv_ok, pMod_ok, pNeg, pLt, pLe, pGt, pGe, pEq, pNe, pEqB, sEq, pIs, pIsNot, MP.isNon, pIx, fAbs, fMax2, fMin2, fInt, fLen, gSel, pick, AH.put_g, AH.put_n, AH.new_g, AH.new_n, AH.put_put, AH.new_put, List.length_cons, List.length_nil, List.map_cons, List.map_nil, List.cons_append, List.nil_append, List.append_nil, List.replicate, List.getElem?_cons_zero, List.getElem?_cons_succ, List.getElem?_nil, List.set_cons_zero, List.set_cons_succ, List.flatMap_cons, List.flatMap_nil, List.drop_zero, List.drop_succ_cons, List.drop_nil, List.take_succ_cons, List.take_zero, List.take_nil, List.contains_cons, List.contains_nil, Bool.or_false, Bool.or_true, Bool.true_or, Bool.false_or, Bool.and_true, Bool.and_false, Bool.not_true, Bool.not_false, beq_self_eq_true, Nat.reduceAdd, Nat.reduceSub, Nat.reduceLeDiff, Nat.reduceLT, Nat.reduceEqDiff, Nat.reduceBEq, Int.reduceToNat, ↓reduceIte, reduceIte, Bool.false_eq_true, ne_true_f, decide_eq_true_eq, and_self, and_true, true_and, Nat.zero_le, Option.map_some, Option.map_none, Option.bind_some, Int.reduceLT, Int.reduceLE, Int.reduceNeg, decide_true, decide_false, ixN_0, ixN_1, ixN_2, ixN_3, ixN_m1, atI_1, atI_2, atI_3, eq_self, Option.some.injEq, false_and, atI_0, Nat.zero_add, Nat.add_zero, pow10_18, pow10_10, pow10_11, pow10_6, sRaise, sRaise0, sTryO, noEx, fAny, fAll, blsL, compL, wipeD, CT.set, eComp, eCompN, lstOk, fSum, fTuple, fList, sAug, pAddI, pSubI, pIn, pNotIn, inB, MP.iZip, iEnumA, fSortP, fSortSet, eSl, partD, zipD_ints, pairsL_map, eBm, mAppend, List.any_cons, List.any_nil, List.all_cons, List.all_nil, id, List.length_append, List.zip_cons_cons, List.zip_nil_left, List.reverse_cons, List.reverse_nil, eqb_int, eqb_str, eqb_bl, kc0, kc1, kc2, kc3, kc4, kc5, kc6, kc7, kc8, kc9, kc10, kc11, kc12, kc13, kc14, kc15, kc16, kc17, kc18, kc19, kc20, Int.reduceBEq, Int.reduceMul, Int.reduceSub, Pg.Pool_get_kept, Pg.Pool_set_kept, Pg.Pool_put_0, Pg.Pool_no_stretches, Pg.Pool_no___len__, Pg.Pool_no_has, Pg.Pool_no_number_at, Pg.Pool_no_place_of, Pg.Pool_no_first_from, Pg.Pool_no_joined, Pg.Pool_no_met, Pg.Pool_no_without, Pg.Pool_no_dealt, Pg.Pool_no___eq__, Pg.Pool_no___str__, Pg.Pool_no___repr__, K01.b_law_same, isi_il, isi_it]
    | str i => simp (disch := omega) only [fnM, eVar, eC, eBin, eUn, aNil, aCons, eTup, eLst, eLstN, eFn, eIf, eFld, eCall, eMeth, eMake, insOf, tst, tstB, MP.tAnd, MP.tOr, MP.tNot, eAnd, eOr, eNot, eChain, truth, optR, Res.bind, Res.bindS, sNil, sSeq, sExp, sRet, sRetN, sIf, sAsg, sSet, sPar, MP.sFld, MP.sFldAug, sFor, nxO, gNm, gFld, gIx, setIx, setFld, gsNil, gsCons, gTp, gLs, MP.iRng1, MP.iRng2, iSeq, iLst, MP.iTup, seqL, seqM, seqT, seqX, eIsi, tyName, isi_ii, isi_ib, isi_bi, isi_bb, isi_ni, isi_si, isi_ss, isi_is, isi_tt, isi_ti, isi_li, pAdd, pSub, pMulA_int, pMul_ok, pDiv_ok, pMod_ok, pNeg, pLt, pLe, pGt, pGe, pEq, pNe, pEqB, sEq, pIs, pIsNot, MP.isNon, pIx, fAbs, fMax2, fMin2, fInt, fLen, gSel, pick, AH.put_g, AH.put_n, AH.new_g, AH.new_n, AH.put_put, AH.new_put, List.length_cons, List.length_nil, List.map_cons, List.map_nil, List.cons_append, List.nil_append, List.append_nil, List.replicate, List.getElem?_cons_zero, List.getElem?_cons_succ, List.getElem?_nil, List.set_cons_zero, List.set_cons_succ, List.flatMap_cons, List.flatMap_nil, List.drop_zero, List.drop_succ_cons, List.drop_nil, List.take_succ_cons, List.take_zero, List.take_nil, List.contains_cons, List.contains_nil, Bool.or_false, Bool.or_true, Bool.true_or, Bool.false_or, Bool.and_true, Bool.and_false, Bool.not_true, Bool.not_false, beq_self_eq_true, Nat.reduceAdd, Nat.reduceSub, Nat.reduceLeDiff, Nat.reduceLT, Nat.reduceEqDiff, Nat.reduceBEq, Int.reduceToNat, ↓reduceIte, reduceIte, Bool.false_eq_true, ne_true_f, decide_eq_true_eq, and_self, and_true, true_and, Nat.zero_le, Option.map_some, Option.map_none, Option.bind_some, Int.reduceLT, Int.reduceLE, Int.reduceNeg, decide_true, decide_false, ixN_0, ixN_1, ixN_2, ixN_3, ixN_m1, atI_1, atI_2, atI_3, eq_self, Option.some.injEq, false_and, atI_0, Nat.zero_add, Nat.add_zero, pow10_18, pow10_10, pow10_11, pow10_6, sRaise, sRaise0, sTryO, noEx, fAny, fAll, blsL, compL, wipeD, CT.set, eComp, eCompN, lstOk, fSum, fTuple, fList, sAug, pAddI, pSubI, pIn, pNotIn, inB, MP.iZip, iEnumA, fSortP, fSortSet, eSl, partD, zipD_ints, pairsL_map, eBm, mAppend, List.any_cons, List.any_nil, List.all_cons, List.all_nil, id, List.length_append, List.zip_cons_cons, List.zip_nil_left, List.reverse_cons, List.reverse_nil, eqb_int, eqb_str, eqb_bl, kc0, kc1, kc2, kc3, kc4, kc5, kc6, kc7, kc8, kc9, kc10, kc11, kc12, kc13, kc14, kc15, kc16, kc17, kc18, kc19, kc20, Int.reduceBEq, Int.reduceMul, Int.reduceSub, Pg.Pool_get_kept, Pg.Pool_set_kept, Pg.Pool_put_0, Pg.Pool_no_stretches, Pg.Pool_no___len__, Pg.Pool_no_has, Pg.Pool_no_number_at, Pg.Pool_no_place_of, Pg.Pool_no_first_from, Pg.Pool_no_joined, Pg.Pool_no_met, Pg.Pool_no_without, Pg.Pool_no_dealt, Pg.Pool_no___eq__, Pg.Pool_no___str__, Pg.Pool_no___repr__, K01.b_law_same, isi_sl, isi_st, isi_sb]
    | bl i => simp (disch := omega) only [fnM, eVar, eC, eBin, eUn, aNil, aCons, eTup, eLst, eLstN, eFn, eIf, eFld, eCall, eMeth, eMake, insOf, tst, tstB, MP.tAnd, MP.tOr, MP.tNot, eAnd, eOr, eNot, eChain, truth, optR, Res.bind, Res.bindS, sNil, sSeq, sExp, sRet, sRetN, sIf, sAsg, sSet, sPar, MP.sFld, MP.sFldAug, sFor, nxO, gNm, gFld, gIx, setIx, setFld, gsNil, gsCons, gTp, gLs, MP.iRng1, MP.iRng2, iSeq, iLst, MP.iTup, seqL, seqM, seqT, seqX, eIsi, tyName, isi_ii, isi_ib, isi_bi, isi_bb, isi_ni, isi_si, isi_ss, isi_is, isi_tt, isi_ti, isi_li, pAdd, pSub, pMulA_int, pMul_ok, pDiv_ok, pMod_ok, pNeg, pLt, pLe, pGt, pGe, pEq, pNe, pEqB, sEq, pIs, pIsNot, MP.isNon, pIx, fAbs, fMax2, fMin2, fInt, fLen, gSel, pick, AH.put_g, AH.put_n, AH.new_g, AH.new_n, AH.put_put, AH.new_put, List.length_cons, List.length_nil, List.map_cons, List.map_nil, List.cons_append, List.nil_append, List.append_nil, List.replicate, List.getElem?_cons_zero, List.getElem?_cons_succ, List.getElem?_nil, List.set_cons_zero, List.set_cons_succ, List.flatMap_cons, List.flatMap_nil, List.drop_zero, List.drop_succ_cons, List.drop_nil, List.take_succ_cons, List.take_zero, List.take_nil, List.contains_cons, List.contains_nil, Bool.or_false, Bool.or_true, Bool.true_or, Bool.false_or, Bool.and_true, Bool.and_false, Bool.not_true, Bool.not_false, beq_self_eq_true, Nat.reduceAdd, Nat.reduceSub, Nat.reduceLeDiff, Nat.reduceLT, Nat.reduceEqDiff, Nat.reduceBEq, Int.reduceToNat, ↓reduceIte, reduceIte, Bool.false_eq_true, ne_true_f, decide_eq_true_eq, and_self, and_true, true_and, Nat.zero_le, Option.map_some, Option.map_none, Option.bind_some, Int.reduceLT, Int.reduceLE, Int.reduceNeg, decide_true, decide_false, ixN_0, ixN_1, ixN_2, ixN_3, ixN_m1, atI_1, atI_2, atI_3, eq_self, Option.some.injEq, false_and, atI_0, Nat.zero_add, Nat.add_zero, pow10_18, pow10_10, pow10_11, pow10_6, sRaise, sRaise0, sTryO, noEx, fAny, fAll, blsL, compL, wipeD, CT.set, eComp, eCompN, lstOk, fSum, fTuple, fList, sAug, pAddI, pSubI, pIn, pNotIn, inB, MP.iZip, iEnumA, fSortP, fSortSet, eSl, partD, zipD_ints, pairsL_map, eBm, mAppend, List.any_cons, List.any_nil, List.all_cons, List.all_nil, id, List.length_append, List.zip_cons_cons, List.zip_nil_left, List.reverse_cons, List.reverse_nil, eqb_int, eqb_str, eqb_bl, kc0, kc1, kc2, kc3, kc4, kc5, kc6, kc7, kc8, kc9, kc10, kc11, kc12, kc13, kc14, kc15, kc16, kc17, kc18, kc19, kc20, Int.reduceBEq, Int.reduceMul, Int.reduceSub, Pg.Pool_get_kept, Pg.Pool_set_kept, Pg.Pool_put_0, Pg.Pool_no_stretches, Pg.Pool_no___len__, Pg.Pool_no_has, Pg.Pool_no_number_at, Pg.Pool_no_place_of, Pg.Pool_no_first_from, Pg.Pool_no_joined, Pg.Pool_no_met, Pg.Pool_no_without, Pg.Pool_no_dealt, Pg.Pool_no___eq__, Pg.Pool_no___str__, Pg.Pool_no___repr__, K01.b_law_same, isi_bl, isi_bt]
    | non => simp (disch := omega) only [fnM, eVar, eC, eBin, eUn, aNil, aCons, eTup, eLst, eLstN, eFn, eIf, eFld, eCall, eMeth, eMake, insOf, tst, tstB, MP.tAnd, MP.tOr, MP.tNot, eAnd, eOr, eNot, eChain, truth, optR, Res.bind, Res.bindS, sNil, sSeq, sExp, sRet, sRetN, sIf, sAsg, sSet, sPar, MP.sFld, MP.sFldAug, sFor, nxO, gNm, gFld, gIx, setIx, setFld, gsNil, gsCons, gTp, gLs, MP.iRng1, MP.iRng2, iSeq, iLst, MP.iTup, seqL, seqM, seqT, seqX, eIsi, tyName, isi_ii, isi_ib, isi_bi, isi_bb, isi_ni, isi_si, isi_ss, isi_is, isi_tt, isi_ti, isi_li, pAdd, pSub, pMulA_int, pMul_ok, pDiv_ok, pMod_ok, pNeg, pLt, pLe, pGt, pGe, pEq, pNe, sEq, pIs, pIsNot, MP.isNon, pIx, fAbs, fMax2, fMin2, fInt, fLen, gSel, pick, AH.put_g, AH.put_n, AH.new_g, AH.new_n, AH.put_put, AH.new_put, List.length_cons, List.length_nil, List.map_cons, List.map_nil, List.cons_append, List.nil_append, List.append_nil, List.replicate, List.getElem?_cons_zero, List.getElem?_cons_succ, List.getElem?_nil, List.set_cons_zero, List.set_cons_succ, List.flatMap_cons, List.flatMap_nil, List.drop_zero, List.drop_succ_cons, List.drop_nil, List.take_succ_cons, List.take_zero, List.take_nil, List.contains_cons, List.contains_nil, Bool.or_false, Bool.or_true, Bool.true_or, Bool.false_or, Bool.and_true, Bool.and_false, Bool.not_true, Bool.not_false, beq_self_eq_true, Nat.reduceAdd, Nat.reduceSub, Nat.reduceLeDiff, Nat.reduceLT, Nat.reduceEqDiff, Nat.reduceBEq, Int.reduceToNat, ↓reduceIte, reduceIte, Bool.false_eq_true, ne_true_f, decide_eq_true_eq, and_self, and_true, true_and, Nat.zero_le, Option.map_some, Option.map_none, Option.bind_some, Int.reduceLT, Int.reduceLE, Int.reduceNeg, decide_true, decide_false, ixN_0, ixN_1, ixN_2, ixN_3, ixN_m1, atI_1, atI_2, atI_3, eq_self, Option.some.injEq, false_and, atI_0, Nat.zero_add, Nat.add_zero, pow10_18, pow10_10, pow10_11, pow10_6, sRaise, sRaise0, sTryO, noEx, fAny, fAll, blsL, compL, wipeD, CT.set, eComp, eCompN, lstOk, fSum, fTuple, fList, sAug, pAddI, pSubI, pIn, pNotIn, inB, MP.iZip, iEnumA, fSortP, fSortSet, eSl, partD, zipD_ints, pairsL_map, eBm, mAppend, List.any_cons, List.any_nil, List.all_cons, List.all_nil, id, List.length_append, List.zip_cons_cons, List.zip_nil_left, List.reverse_cons, List.reverse_nil, eqb_int, eqb_str, eqb_bl, kc0, kc1, kc2, kc3, kc4, kc5, kc6, kc7, kc8, kc9, kc10, kc11, kc12, kc13, kc14, kc15, kc16, kc17, kc18, kc19, kc20, Int.reduceBEq, Int.reduceMul, Int.reduceSub, Pg.Pool_get_kept, Pg.Pool_set_kept, Pg.Pool_put_0, Pg.Pool_no_stretches, Pg.Pool_no___len__, Pg.Pool_no_has, Pg.Pool_no_number_at, Pg.Pool_no_place_of, Pg.Pool_no_first_from, Pg.Pool_no_joined, Pg.Pool_no_met, Pg.Pool_no_without, Pg.Pool_no_dealt, Pg.Pool_no___eq__, Pg.Pool_no___str__, Pg.Pool_no___repr__, K01.b_law_same, isi_nl, isi_nt, isi_nb, eqb_non]
    | fz _ => simp [PlainD] at e
    | ref _ => simp [PlainD] at e
    | obj _ _ _ => simp [PlainD] at e
    | cst _ => simp [PlainD] at e
theorem plain_rows (n : Nat) (ps : List PRow) (hl : ps.length ≤ 100000) : PlainD (n + 3) (rowsD ps) = true := by
  simp only [rowsD, PlainD, List.length_map, Bool.and_eq_true, decide_eq_true_eq]
  refine ⟨hl, List.all_eq_true.mpr fun d hd => ?_⟩
  obtain ⟨p, _, rfl⟩ := List.mem_map.mp hd
  rfl
theorem same_rows (ps : List PRow) (hl : ps.length ≤ 100000) (h : AH) : K01.f_law_same 8 [rowsD ps, rowsD ps] h = .ok (.bl true) h := same_ok 8 _ (plain_rows 5 ps hl) h
end XP
set_option Elab.async false
set_option linter.all false
set_option maxRecDepth 100000
set_option maxHeartbeats 400000
/-! pools: len, has, ==, repr -/
namespace XP
open PySem PySem.Spec L2 MP
theorem eqv_rows (a b : List PRow) : PyData.eqvAll (a.map rowPD) (b.map rowPD) = decide (a = b) := by
  induction a generalizing b with
  | nil => cases b <;> simp [PyData.eqvAll]
  | cons p a ih =>
    cases b with
    | nil => simp [PyData.eqvAll]
    | cons q b =>
      have h1 : PyData.eqv (rowPD p) (rowPD q) = decide (p = q) := by
        unfold rowPD
        simp only [PyData.eqv, PyData.eqvAll, Bool.and_true]
        obtain ⟨p1, p2⟩ := p
        obtain ⟨q1, q2⟩ := q
        rw [Bool.eq_iff_iff]
        simp
      simp only [List.map_cons, PyData.eqvAll, h1, ih, List.cons.injEq, Bool.decide_and]
theorem eqb_rows2 (h : AH) (a b : List PRow) : pEqB h (rowsD a) (rowsD b) = some (decide (a = b)) := by
  unfold rowsD
  have h1 : pd h (.tup (a.map tupP)) = some (.tuple (a.map rowPD)) := by simp only [pd, pdI, pdL_rows]
  have h2 : pd h (.tup (b.map tupP)) = some (.tuple (b.map rowPD)) := by simp only [pd, pdI, pdL_rows]
  have h4 : sEq (.tup (a.map tupP)) (.tup (b.map tupP)) = none := rfl
  unfold pEqB
  rw [h4]
  simp only [h1, h2]
  rw [if_pos ⟨shaped_rowsT a, shaped_rowsT b⟩]
  simp only [PyData.eqv, eqv_rows]
theorem tyP (m : List PRow) (h : AH) : tyName h (plD m) = none := rfl
theorem eq_ok (a b : List PRow) (h : AH) : Pg.f_Pool_eq [plD a, plD b] h = .ok (.bl (decide (a = b))) h := by
  refine fnG_same ?_ rfl
  have er : ∀ h, pEqB h (rowsD a) (rowsD b) = some (decide (a = b)) := fun h => eqb_rows2 h a b
  simp (disch := omega) only [fnM, eVar, eC, eBin, eUn, aNil, aCons, eTup, eLst, eLstN, eFn, eIf, eFld, eCall, eMeth, eMake, tst, tstB, MP.tAnd, MP.tOr, MP.tNot, eAnd, eOr, eNot, eChain, truth, optR, Res.bind, Res.bindS, sNil, sSeq, sExp, sRet, sRetN, sIf, sAsg, sSet, sPar, MP.sFld, MP.sFldAug, sFor, nxO, gNm, gFld, gIx, setIx, setFld, gsNil, gsCons, gTp, gLs, MP.iRng1, MP.iRng2, iSeq, iLst, MP.iTup, seqL, seqM, seqT, seqX, eIsi, isi_ii, isi_ib, isi_bi, isi_bb, isi_ni, isi_si, isi_ss, isi_is, isi_tt, isi_ti, isi_li, pAdd, pSub, pMulA_int, pMul_ok, pDiv_ok, pMod_ok, pNeg, pLt, pLe, pGt, pGe, pEq, pNe, sEq, pIs, pIsNot, MP.isNon, pIx, fAbs, fMax2, fMin2, fInt, fLen, gSel, pick, AH.put_g, AH.put_n, AH.new_g, AH.new_n, AH.put_put, AH.new_put, List.length_cons, List.length_nil, List.map_cons, List.map_nil, List.cons_append, List.nil_append, List.append_nil, List.replicate, List.getElem?_cons_zero, List.getElem?_cons_succ, List.getElem?_nil, List.set_cons_zero, List.set_cons_succ, List.flatMap_cons, List.flatMap_nil, List.drop_zero, List.drop_succ_cons, List.drop_nil, List.take_succ_cons, List.take_zero, List.take_nil, List.contains_cons, List.contains_nil, Bool.or_false, Bool.or_true, Bool.true_or, Bool.false_or, Bool.and_true, Bool.and_false, Bool.not_true, Bool.not_false, beq_self_eq_true, Nat.reduceAdd, Nat.reduceSub, Nat.reduceLeDiff, Nat.reduceLT, Nat.reduceEqDiff, Nat.reduceBEq, Int.reduceToNat, ↓reduceIte, reduceIte, Bool.false_eq_true, ne_true_f, decide_eq_true_eq, and_self, and_true, true_and, Nat.zero_le, Option.map_some, Option.map_none, Option.bind_some, Int.reduceLT, Int.reduceLE, Int.reduceNeg, decide_true, decide_false, ixN_0, ixN_1, ixN_2, ixN_3, ixN_m1, atI_1, atI_2, atI_3, eq_self, Option.some.injEq, false_and, atI_0, Nat.zero_add, Nat.add_zero, pow10_18, pow10_10, pow10_11, pow10_6, sRaise, sRaise0, sTryO, noEx, fAny, fAll, blsL, compL, wipeD, CT.set, eComp, eCompN, lstOk, fSum, fTuple, fList, sAug, pAddI, pSubI, pIn, pNotIn, inB, MP.iZip, iEnumA, fSortP, fSortSet, eSl, partD, zipD_ints, pairsL_map, eBm, mAppend, List.any_cons, List.any_nil, List.all_cons, List.all_nil, id, List.length_append, List.zip_cons_cons, List.zip_nil_left, List.reverse_cons, List.reverse_nil, eqb_int, eqb_str, eqb_bl, kc0, kc1, kc2, kc3, kc4, kc5, kc6, kc7, kc8, kc9, kc10, kc11, kc12, kc13, kc14, kc15, kc16, kc17, kc18, kc19, kc20, Int.reduceBEq, Int.reduceMul, Int.reduceSub, Pg.Pool_get_kept, Pg.Pool_set_kept, Pg.Pool_put_0, Pg.Pool_no_stretches, Pg.Pool_no___len__, Pg.Pool_no_has, Pg.Pool_no_number_at, Pg.Pool_no_place_of, Pg.Pool_no_first_from, Pg.Pool_no_joined, Pg.Pool_no_met, Pg.Pool_no_without, Pg.Pool_no_dealt, Pg.Pool_no___eq__, Pg.Pool_no___str__, Pg.Pool_no___repr__, Pg.b_Pool_eq, kept_is, stretches_is, eIsiC, tyP, er]
/-- == against data -/
theorem eq_no {a : List PRow} {x : D} {h : AH} {t : String} (e : tyName h x = some t) : Pg.f_Pool_eq [plD a, x] h = .ok (.bl false) h := by
  refine fnG_same ?_ rfl
  simp (disch := omega) only [fnM, eVar, eC, eBin, eUn, aNil, aCons, eTup, eLst, eLstN, eFn, eIf, eFld, eCall, eMeth, eMake, tst, tstB, MP.tAnd, MP.tOr, MP.tNot, eAnd, eOr, eNot, eChain, truth, optR, Res.bind, Res.bindS, sNil, sSeq, sExp, sRet, sRetN, sIf, sAsg, sSet, sPar, MP.sFld, MP.sFldAug, sFor, nxO, gNm, gFld, gIx, setIx, setFld, gsNil, gsCons, gTp, gLs, MP.iRng1, MP.iRng2, iSeq, iLst, MP.iTup, seqL, seqM, seqT, seqX, eIsi, isi_ii, isi_ib, isi_bi, isi_bb, isi_ni, isi_si, isi_ss, isi_is, isi_tt, isi_ti, isi_li, pAdd, pSub, pMulA_int, pMul_ok, pDiv_ok, pMod_ok, pNeg, pLt, pLe, pGt, pGe, pEq, pNe, pEqB, sEq, pIs, pIsNot, MP.isNon, pIx, fAbs, fMax2, fMin2, fInt, fLen, gSel, pick, AH.put_g, AH.put_n, AH.new_g, AH.new_n, AH.put_put, AH.new_put, List.length_cons, List.length_nil, List.map_cons, List.map_nil, List.cons_append, List.nil_append, List.append_nil, List.replicate, List.getElem?_cons_zero, List.getElem?_cons_succ, List.getElem?_nil, List.set_cons_zero, List.set_cons_succ, List.flatMap_cons, List.flatMap_nil, List.drop_zero, List.drop_succ_cons, List.drop_nil, List.take_succ_cons, List.take_zero, List.take_nil, List.contains_cons, List.contains_nil, Bool.or_false, Bool.or_true, Bool.true_or, Bool.false_or, Bool.and_true, Bool.and_false, Bool.not_true, Bool.not_false, beq_self_eq_true, Nat.reduceAdd, Nat.reduceSub, Nat.reduceLeDiff, Nat.reduceLT, Nat.reduceEqDiff, Nat.reduceBEq, Int.reduceToNat, ↓reduceIte, reduceIte, Bool.false_eq_true, ne_true_f, decide_eq_true_eq, and_self, and_true, true_and, Nat.zero_le, Option.map_some, Option.map_none, Option.bind_some, Int.reduceLT, Int.reduceLE, Int.reduceNeg, decide_true, decide_false, ixN_0, ixN_1, ixN_2, ixN_3, ixN_m1, atI_1, atI_2, atI_3, eq_self, Option.some.injEq, false_and, atI_0, Nat.zero_add, Nat.add_zero, pow10_18, pow10_10, pow10_11, pow10_6, sRaise, sRaise0, sTryO, noEx, fAny, fAll, blsL, compL, wipeD, CT.set, eComp, eCompN, lstOk, fSum, fTuple, fList, sAug, pAddI, pSubI, pIn, pNotIn, inB, MP.iZip, iEnumA, fSortP, fSortSet, eSl, partD, zipD_ints, pairsL_map, eBm, mAppend, List.any_cons, List.any_nil, List.all_cons, List.all_nil, id, List.length_append, List.zip_cons_cons, List.zip_nil_left, List.reverse_cons, List.reverse_nil, eqb_int, eqb_str, eqb_bl, kc0, kc1, kc2, kc3, kc4, kc5, kc6, kc7, kc8, kc9, kc10, kc11, kc12, kc13, kc14, kc15, kc16, kc17, kc18, kc19, kc20, Int.reduceBEq, Int.reduceMul, Int.reduceSub, Pg.Pool_get_kept, Pg.Pool_set_kept, Pg.Pool_put_0, Pg.Pool_no_stretches, Pg.Pool_no___len__, Pg.Pool_no_has, Pg.Pool_no_number_at, Pg.Pool_no_place_of, Pg.Pool_no_first_from, Pg.Pool_no_joined, Pg.Pool_no_met, Pg.Pool_no_without, Pg.Pool_no_dealt, Pg.Pool_no___eq__, Pg.Pool_no___str__, Pg.Pool_no___repr__, Pg.b_Pool_eq, eIsiC, e]
def cntL (m : List PRow) : Int := (m.map fun p => p.2 + 1 - p.1).sum
theorem cnt_le {m : List PRow} (g : Good m) : 0 ≤ cntL m ∧ cntL m ≤ 1000000 * (m.length : Int) := by
  induction m with
  | nil => simp [cntL]
  | cons p m ih =>
    have h1 := g p List.mem_cons_self
    have h2 := ih fun q hq => g q (List.mem_cons_of_mem _ hq)
    unfold cntL at h2 ⊢
    simp only [List.map_cons, List.sum_cons, List.length_cons]
    push_cast
    omega
theorem len_ok {m : List PRow} (g : Good m) (hl : m.length < 1000) (h : AH) : Pg.f_Pool_len [plD m] h = .ok (.int (cntL m)) h := by
  have c := cnt_le g
  have C := compL_map (ok := fun _ => true) (own := [1, 2]) (g := .tup [1, 2]) (t := tYesD) (e := Pg.E_Pool_len_1) (s := [some (plD m), none, none]) (h := h) tupP (fun _ => true) (fun p => .int (p.2 + 1 - p.1)) rfl m [] (fun p _ => ⟨[some (plD m), some (.int p.1), some (.int p.2)], rfl, rfl, fun _ => by
    simp (disch := omega) only [fnM, eVar, eC, eBin, eUn, aNil, aCons, eTup, eLst, eLstN, eFn, eIf, eFld, eCall, eMeth, eMake, insOf, tst, tstB, MP.tAnd, MP.tOr, MP.tNot, eAnd, eOr, eNot, eChain, truth, optR, Res.bind, Res.bindS, sNil, sSeq, sExp, sRet, sRetN, sIf, sAsg, sSet, sPar, MP.sFld, MP.sFldAug, sFor, nxO, gNm, gFld, gIx, setIx, setFld, gsNil, gsCons, gTp, gLs, MP.iRng1, MP.iRng2, iSeq, iLst, MP.iTup, seqL, seqM, seqT, seqX, eIsi, tyName, isi_ii, isi_ib, isi_bi, isi_bb, isi_ni, isi_si, isi_ss, isi_is, isi_tt, isi_ti, isi_li, pAdd, pSub, pMulA_int, pMul_ok, pDiv_ok, pMod_ok, pNeg, pLt, pLe, pGt, pGe, pEq, pNe, pEqB, sEq, pIs, pIsNot, MP.isNon, pIx, fAbs, fMax2, fMin2, fInt, fLen, gSel, pick, AH.put_g, AH.put_n, AH.new_g, AH.new_n, AH.put_put, AH.new_put, List.length_cons, List.length_nil, List.map_cons, List.map_nil, List.cons_append, List.nil_append, List.append_nil, List.replicate, List.getElem?_cons_zero, List.getElem?_cons_succ, List.getElem?_nil, List.set_cons_zero, List.set_cons_succ, List.flatMap_cons, List.flatMap_nil, List.drop_zero, List.drop_succ_cons, List.drop_nil, List.take_succ_cons, List.take_zero, List.take_nil, List.contains_cons, List.contains_nil, Bool.or_false, Bool.or_true, Bool.true_or, Bool.false_or, Bool.and_true, Bool.and_false, Bool.not_true, Bool.not_false, beq_self_eq_true, Nat.reduceAdd, Nat.reduceSub, Nat.reduceLeDiff, Nat.reduceLT, Nat.reduceEqDiff, Nat.reduceBEq, Int.reduceToNat, ↓reduceIte, reduceIte, Bool.false_eq_true, ne_true_f, decide_eq_true_eq, and_self, and_true, true_and, Nat.zero_le, Option.map_some, Option.map_none, Option.bind_some, Int.reduceLT, Int.reduceLE, Int.reduceNeg, decide_true, decide_false, ixN_0, ixN_1, ixN_2, ixN_3, ixN_m1, atI_1, atI_2, atI_3, eq_self, Option.some.injEq, false_and, atI_0, Nat.zero_add, Nat.add_zero, pow10_18, pow10_10, pow10_11, pow10_6, sRaise, sRaise0, sTryO, noEx, fAny, fAll, blsL, compL, wipeD, CT.set, eComp, eCompN, lstOk, fSum, fTuple, fList, sAug, pAddI, pSubI, pIn, pNotIn, inB, MP.iZip, iEnumA, fSortP, fSortSet, eSl, partD, zipD_ints, pairsL_map, eBm, mAppend, List.any_cons, List.any_nil, List.all_cons, List.all_nil, id, List.length_append, List.zip_cons_cons, List.zip_nil_left, List.reverse_cons, List.reverse_nil, eqb_int, eqb_str, eqb_bl, kc0, kc1, kc2, kc3, kc4, kc5, kc6, kc7, kc8, kc9, kc10, kc11, kc12, kc13, kc14, kc15, kc16, kc17, kc18, kc19, kc20, Int.reduceBEq, Int.reduceMul, Int.reduceSub, Pg.Pool_get_kept, Pg.Pool_set_kept, Pg.Pool_put_0, Pg.Pool_no_stretches, Pg.Pool_no___len__, Pg.Pool_no_has, Pg.Pool_no_number_at, Pg.Pool_no_place_of, Pg.Pool_no_first_from, Pg.Pool_no_joined, Pg.Pool_no_met, Pg.Pool_no_without, Pg.Pool_no_dealt, Pg.Pool_no___eq__, Pg.Pool_no___str__, Pg.Pool_no___repr__, Pg.E_Pool_len_1]⟩) (by simp; omega)
  rw [filter_true] at C
  have hi := intsL_mapf (fun p : PRow => p.2 + 1 - p.1) m
  have e1 : (m.map fun p : PRow => p.2 + 1 - p.1).sum = cntL m := rfl
  have e2 : (if 0 < cntL m then cntL m else 0) = cntL m := by split <;> omega
  have e3 : cntL m < 4611686018427387904 := by omega
  refine fnG_same ?_ rfl
  simp (disch := omega) only [fnM, eVar, eC, eBin, eUn, aNil, aCons, eTup, eLst, eLstN, eFn, eIf, eFld, eCall, eMeth, eMake, tst, tstB, MP.tAnd, MP.tOr, MP.tNot, eAnd, eOr, eNot, eChain, truth, optR, Res.bind, Res.bindS, sNil, sSeq, sExp, sRet, sRetN, sIf, sAsg, sSet, sPar, MP.sFld, MP.sFldAug, sFor, nxO, gNm, gFld, gIx, setIx, setFld, gsNil, gsCons, gTp, gLs, MP.iRng1, MP.iRng2, iSeq, iLst, MP.iTup, seqL, seqM, seqT, seqX, eIsi, tyName, isi_ii, isi_ib, isi_bi, isi_bb, isi_ni, isi_si, isi_ss, isi_is, isi_tt, isi_ti, isi_li, pAdd, pSub, pMulA_int, pMul_ok, pDiv_ok, pMod_ok, pNeg, pLt, pLe, pGt, pGe, pEq, pNe, pEqB, sEq, pIs, pIsNot, MP.isNon, pIx, fAbs, fMax2, fMin2, fInt, fLen, gSel, pick, AH.put_g, AH.put_n, AH.new_g, AH.new_n, AH.put_put, AH.new_put, List.length_cons, List.length_nil, List.map_cons, List.map_nil, List.cons_append, List.nil_append, List.append_nil, List.replicate, List.getElem?_cons_zero, List.getElem?_cons_succ, List.getElem?_nil, List.set_cons_zero, List.set_cons_succ, List.flatMap_cons, List.flatMap_nil, List.drop_zero, List.drop_succ_cons, List.drop_nil, List.take_succ_cons, List.take_zero, List.take_nil, List.contains_cons, List.contains_nil, Bool.or_false, Bool.or_true, Bool.true_or, Bool.false_or, Bool.and_true, Bool.and_false, Bool.not_true, Bool.not_false, beq_self_eq_true, Nat.reduceAdd, Nat.reduceSub, Nat.reduceLeDiff, Nat.reduceLT, Nat.reduceEqDiff, Nat.reduceBEq, Int.reduceToNat, ↓reduceIte, reduceIte, Bool.false_eq_true, ne_true_f, decide_eq_true_eq, and_self, and_true, true_and, Nat.zero_le, Option.map_some, Option.map_none, Option.bind_some, Int.reduceLT, Int.reduceLE, Int.reduceNeg, decide_true, decide_false, ixN_0, ixN_1, ixN_2, ixN_3, ixN_m1, atI_1, atI_2, atI_3, eq_self, Option.some.injEq, false_and, atI_0, Nat.zero_add, Nat.add_zero, pow10_18, pow10_10, pow10_11, pow10_6, sRaise, sRaise0, sTryO, noEx, fAny, fAll, blsL, wipeD, CT.set, eComp, eCompN, lstOk, fSum, fTuple, fList, sAug, pAddI, pSubI, pIn, pNotIn, inB, MP.iZip, iEnumA, fSortP, fSortSet, eSl, partD, zipD_ints, pairsL_map, eBm, mAppend, List.any_cons, List.any_nil, List.all_cons, List.all_nil, id, List.length_append, List.zip_cons_cons, List.zip_nil_left, List.reverse_cons, List.reverse_nil, eqb_int, eqb_str, eqb_bl, kc0, kc1, kc2, kc3, kc4, kc5, kc6, kc7, kc8, kc9, kc10, kc11, kc12, kc13, kc14, kc15, kc16, kc17, kc18, kc19, kc20, Int.reduceBEq, Int.reduceMul, Int.reduceSub, Pg.Pool_get_kept, Pg.Pool_set_kept, Pg.Pool_put_0, Pg.Pool_no_stretches, Pg.Pool_no___len__, Pg.Pool_no_has, Pg.Pool_no_number_at, Pg.Pool_no_place_of, Pg.Pool_no_first_from, Pg.Pool_no_joined, Pg.Pool_no_met, Pg.Pool_no_without, Pg.Pool_no_dealt, Pg.Pool_no___eq__, Pg.Pool_no___str__, Pg.Pool_no___repr__, Pg.b_Pool_len, kept_isT, iSeqT, iAlt, isTxtD, eLenRng, C, hi, e1, e2, e3, seqL]
theorem phas_ok (m : List PRow) (x : Int) (hl : m.length < 1000) (h : AH) : Pg.f_Pool_has [plD m, .int x] h = .ok (.bl (hasB m x)) h := by
  have C := compL_map (ok := fun _ => true) (own := [2, 3]) (g := .tup [2, 3]) (t := tYesD) (e := Pg.E_Pool_has_1) (s := [some (plD m), some (.int x), none, none]) (h := h) tupP (fun _ => true) (fun p => .bl (decide (p.1 ≤ x ∧ x ≤ p.2))) rfl m [] (fun p _ => ⟨[some (plD m), some (.int x), some (.int p.1), some (.int p.2)], rfl, rfl, fun _ => by
    by_cases h1 : p.1 ≤ x
    · simp (disch := omega) only [fnM, eVar, eC, eBin, eUn, aNil, aCons, eTup, eLst, eLstN, eFn, eIf, eFld, eCall, eMeth, eMake, insOf, tst, tstB, MP.tAnd, MP.tOr, MP.tNot, eAnd, eOr, eNot, eChain, truth, optR, Res.bind, Res.bindS, sNil, sSeq, sExp, sRet, sRetN, sIf, sAsg, sSet, sPar, MP.sFld, MP.sFldAug, sFor, nxO, gNm, gFld, gIx, setIx, setFld, gsNil, gsCons, gTp, gLs, MP.iRng1, MP.iRng2, iSeq, iLst, MP.iTup, seqL, seqM, seqT, seqX, eIsi, tyName, isi_ii, isi_ib, isi_bi, isi_bb, isi_ni, isi_si, isi_ss, isi_is, isi_tt, isi_ti, isi_li, pAdd, pSub, pMulA_int, pMul_ok, pDiv_ok, pMod_ok, pNeg, pLt, pLe, pGt, pGe, pEq, pNe, pEqB, sEq, pIs, pIsNot, MP.isNon, pIx, fAbs, fMax2, fMin2, fInt, fLen, gSel, pick, AH.put_g, AH.put_n, AH.new_g, AH.new_n, AH.put_put, AH.new_put, List.length_cons, List.length_nil, List.map_cons, List.map_nil, List.cons_append, List.nil_append, List.append_nil, List.replicate, List.getElem?_cons_zero, List.getElem?_cons_succ, List.getElem?_nil, List.set_cons_zero, List.set_cons_succ, List.flatMap_cons, List.flatMap_nil, List.drop_zero, List.drop_succ_cons, List.drop_nil, List.take_succ_cons, List.take_zero, List.take_nil, List.contains_cons, List.contains_nil, Bool.or_false, Bool.or_true, Bool.true_or, Bool.false_or, Bool.and_true, Bool.and_false, Bool.not_true, Bool.not_false, beq_self_eq_true, Nat.reduceAdd, Nat.reduceSub, Nat.reduceLeDiff, Nat.reduceLT, Nat.reduceEqDiff, Nat.reduceBEq, Int.reduceToNat, ↓reduceIte, reduceIte, Bool.false_eq_true, ne_true_f, decide_eq_true_eq, and_self, and_true, true_and, Nat.zero_le, Option.map_some, Option.map_none, Option.bind_some, Int.reduceLT, Int.reduceLE, Int.reduceNeg, decide_true, decide_false, ixN_0, ixN_1, ixN_2, ixN_3, ixN_m1, atI_1, atI_2, atI_3, eq_self, Option.some.injEq, false_and, atI_0, Nat.zero_add, Nat.add_zero, pow10_18, pow10_10, pow10_11, pow10_6, sRaise, sRaise0, sTryO, noEx, fAny, fAll, blsL, compL, wipeD, CT.set, eComp, eCompN, lstOk, fSum, fTuple, fList, sAug, pAddI, pSubI, pIn, pNotIn, inB, MP.iZip, iEnumA, fSortP, fSortSet, eSl, partD, zipD_ints, pairsL_map, eBm, mAppend, List.any_cons, List.any_nil, List.all_cons, List.all_nil, id, List.length_append, List.zip_cons_cons, List.zip_nil_left, List.reverse_cons, List.reverse_nil, eqb_int, eqb_str, eqb_bl, kc0, kc1, kc2, kc3, kc4, kc5, kc6, kc7, kc8, kc9, kc10, kc11, kc12, kc13, kc14, kc15, kc16, kc17, kc18, kc19, kc20, Int.reduceBEq, Int.reduceMul, Int.reduceSub, Pg.Pool_get_kept, Pg.Pool_set_kept, Pg.Pool_put_0, Pg.Pool_no_stretches, Pg.Pool_no___len__, Pg.Pool_no_has, Pg.Pool_no_number_at, Pg.Pool_no_place_of, Pg.Pool_no_first_from, Pg.Pool_no_joined, Pg.Pool_no_met, Pg.Pool_no_without, Pg.Pool_no_dealt, Pg.Pool_no___eq__, Pg.Pool_no___str__, Pg.Pool_no___repr__, Pg.E_Pool_has_1, h1]
    · simp (disch := omega) only [fnM, eVar, eC, eBin, eUn, aNil, aCons, eTup, eLst, eLstN, eFn, eIf, eFld, eCall, eMeth, eMake, insOf, tst, tstB, MP.tAnd, MP.tOr, MP.tNot, eAnd, eOr, eNot, eChain, truth, optR, Res.bind, Res.bindS, sNil, sSeq, sExp, sRet, sRetN, sIf, sAsg, sSet, sPar, MP.sFld, MP.sFldAug, sFor, nxO, gNm, gFld, gIx, setIx, setFld, gsNil, gsCons, gTp, gLs, MP.iRng1, MP.iRng2, iSeq, iLst, MP.iTup, seqL, seqM, seqT, seqX, eIsi, tyName, isi_ii, isi_ib, isi_bi, isi_bb, isi_ni, isi_si, isi_ss, isi_is, isi_tt, isi_ti, isi_li, pAdd, pSub, pMulA_int, pMul_ok, pDiv_ok, pMod_ok, pNeg, pLt, pLe, pGt, pGe, pEq, pNe, pEqB, sEq, pIs, pIsNot, MP.isNon, pIx, fAbs, fMax2, fMin2, fInt, fLen, gSel, pick, AH.put_g, AH.put_n, AH.new_g, AH.new_n, AH.put_put, AH.new_put, List.length_cons, List.length_nil, List.map_cons, List.map_nil, List.cons_append, List.nil_append, List.append_nil, List.replicate, List.getElem?_cons_zero, List.getElem?_cons_succ, List.getElem?_nil, List.set_cons_zero, List.set_cons_succ, List.flatMap_cons, List.flatMap_nil, List.drop_zero, List.drop_succ_cons, List.drop_nil, List.take_succ_cons, List.take_zero, List.take_nil, List.contains_cons, List.contains_nil, Bool.or_false, Bool.or_true, Bool.true_or, Bool.false_or, Bool.and_true, Bool.and_false, Bool.not_true, Bool.not_false, beq_self_eq_true, Nat.reduceAdd, Nat.reduceSub, Nat.reduceLeDiff, Nat.reduceLT, Nat.reduceEqDiff, Nat.reduceBEq, Int.reduceToNat, ↓reduceIte, reduceIte, Bool.false_eq_true, ne_true_f, decide_eq_true_eq, and_self, and_true, true_and, Nat.zero_le, Option.map_some, Option.map_none, Option.bind_some, Int.reduceLT, Int.reduceLE, Int.reduceNeg, decide_true, decide_false, ixN_0, ixN_1, ixN_2, ixN_3, ixN_m1, atI_1, atI_2, atI_3, eq_self, Option.some.injEq, false_and, atI_0, Nat.zero_add, Nat.add_zero, pow10_18, pow10_10, pow10_11, pow10_6, sRaise, sRaise0, sTryO, noEx, fAny, fAll, blsL, compL, wipeD, CT.set, eComp, eCompN, lstOk, fSum, fTuple, fList, sAug, pAddI, pSubI, pIn, pNotIn, inB, MP.iZip, iEnumA, fSortP, fSortSet, eSl, partD, zipD_ints, pairsL_map, eBm, mAppend, List.any_cons, List.any_nil, List.all_cons, List.all_nil, id, List.length_append, List.zip_cons_cons, List.zip_nil_left, List.reverse_cons, List.reverse_nil, eqb_int, eqb_str, eqb_bl, kc0, kc1, kc2, kc3, kc4, kc5, kc6, kc7, kc8, kc9, kc10, kc11, kc12, kc13, kc14, kc15, kc16, kc17, kc18, kc19, kc20, Int.reduceBEq, Int.reduceMul, Int.reduceSub, Pg.Pool_get_kept, Pg.Pool_set_kept, Pg.Pool_put_0, Pg.Pool_no_stretches, Pg.Pool_no___len__, Pg.Pool_no_has, Pg.Pool_no_number_at, Pg.Pool_no_place_of, Pg.Pool_no_first_from, Pg.Pool_no_joined, Pg.Pool_no_met, Pg.Pool_no_without, Pg.Pool_no_dealt, Pg.Pool_no___eq__, Pg.Pool_no___str__, Pg.Pool_no___repr__, Pg.E_Pool_has_1, h1]⟩) (by simp; omega)
  rw [filter_true] at C
  refine fnG_same ?_ rfl
  simp (disch := omega) only [fnM, eVar, eC, eBin, eUn, aNil, aCons, eTup, eLst, eLstN, eFn, eIf, eFld, eCall, eMeth, eMake, tst, tstB, MP.tAnd, MP.tOr, MP.tNot, eAnd, eOr, eNot, eChain, truth, optR, Res.bind, Res.bindS, sNil, sSeq, sExp, sRet, sRetN, sIf, sAsg, sSet, sPar, MP.sFld, MP.sFldAug, sFor, nxO, gNm, gFld, gIx, setIx, setFld, gsNil, gsCons, gTp, gLs, MP.iRng1, MP.iRng2, iSeq, iLst, MP.iTup, seqL, seqM, seqT, seqX, eIsi, tyName, isi_ii, isi_ib, isi_bi, isi_bb, isi_ni, isi_si, isi_ss, isi_is, isi_tt, isi_ti, isi_li, pAdd, pSub, pMulA_int, pMul_ok, pDiv_ok, pMod_ok, pNeg, pLt, pLe, pGt, pGe, pEq, pNe, pEqB, sEq, pIs, pIsNot, MP.isNon, pIx, fAbs, fMax2, fMin2, fInt, fLen, gSel, pick, AH.put_g, AH.put_n, AH.new_g, AH.new_n, AH.put_put, AH.new_put, List.length_cons, List.length_nil, List.map_cons, List.map_nil, List.cons_append, List.nil_append, List.append_nil, List.replicate, List.getElem?_cons_zero, List.getElem?_cons_succ, List.getElem?_nil, List.set_cons_zero, List.set_cons_succ, List.flatMap_cons, List.flatMap_nil, List.drop_zero, List.drop_succ_cons, List.drop_nil, List.take_succ_cons, List.take_zero, List.take_nil, List.contains_cons, List.contains_nil, Bool.or_false, Bool.or_true, Bool.true_or, Bool.false_or, Bool.and_true, Bool.and_false, Bool.not_true, Bool.not_false, beq_self_eq_true, Nat.reduceAdd, Nat.reduceSub, Nat.reduceLeDiff, Nat.reduceLT, Nat.reduceEqDiff, Nat.reduceBEq, Int.reduceToNat, ↓reduceIte, reduceIte, Bool.false_eq_true, ne_true_f, decide_eq_true_eq, and_self, and_true, true_and, Nat.zero_le, Option.map_some, Option.map_none, Option.bind_some, Int.reduceLT, Int.reduceLE, Int.reduceNeg, decide_true, decide_false, ixN_0, ixN_1, ixN_2, ixN_3, ixN_m1, atI_1, atI_2, atI_3, eq_self, Option.some.injEq, false_and, atI_0, Nat.zero_add, Nat.add_zero, pow10_18, pow10_10, pow10_11, pow10_6, sRaise, sRaise0, sTryO, noEx, fAny, fAll, blsL, wipeD, CT.set, eComp, eCompN, lstOk, fSum, fTuple, fList, sAug, pAddI, pSubI, pIn, pNotIn, inB, MP.iZip, iEnumA, fSortP, fSortSet, eSl, partD, zipD_ints, pairsL_map, eBm, mAppend, List.any_cons, List.any_nil, List.all_cons, List.all_nil, id, List.length_append, List.zip_cons_cons, List.zip_nil_left, List.reverse_cons, List.reverse_nil, eqb_int, eqb_str, eqb_bl, kc0, kc1, kc2, kc3, kc4, kc5, kc6, kc7, kc8, kc9, kc10, kc11, kc12, kc13, kc14, kc15, kc16, kc17, kc18, kc19, kc20, Int.reduceBEq, Int.reduceMul, Int.reduceSub, Pg.Pool_get_kept, Pg.Pool_set_kept, Pg.Pool_put_0, Pg.Pool_no_stretches, Pg.Pool_no___len__, Pg.Pool_no_has, Pg.Pool_no_number_at, Pg.Pool_no_place_of, Pg.Pool_no_first_from, Pg.Pool_no_joined, Pg.Pool_no_met, Pg.Pool_no_without, Pg.Pool_no_dealt, Pg.Pool_no___eq__, Pg.Pool_no___str__, Pg.Pool_no___repr__, Pg.b_Pool_has, kept_isT, iSeqT, iAlt, isTxtD, C, blsL_map, List.any_map, List.length_map]
  rfl
theorem sh_row {p : PRow} (g : 0 ≤ p.1 ∧ p.1 ≤ p.2 ∧ p.2 ≤ 999999) : Sh (rowPD p) 60 1 :=
  (Sh.tup (ShL.cons (Sh.int (by omega)) (ShL.cons (Sh.int (by omega)) ShL.nil))).mono (by decide) (by decide)
theorem sh_rows {m : List PRow} (g : Good m) : Sh (.tuple (m.map rowPD)) (62 * m.length + 3) 2 := by
  have := ShL.all (ps := m.map rowPD) (n := 60) (d := 1) fun q hq => by
    obtain ⟨p, hp, rfl⟩ := List.mem_map.mp hq
    exact sh_row (g p hp)
  rw [List.length_map] at this
  exact Sh.tup this
theorem repr_rows {m : List PRow} (g : Good m) (hl : m.length < 1000) : ∃ t : Str, t.length ≤ 62 * m.length + 3 ∧ ∀ h, fRepr h [rowsD m] = some (.str t) :=
  ⟨_, (sh_rows g).l, fun h => repr_of (p := .tuple (m.map rowPD)) (by simp only [rowsD, pd, pdI, pdL_rows]) (sh_rows g) (by omega) (by decide)⟩
theorem prepr_ok {m : List PRow} (g : Good m) (hl : m.length < 1000) : ∃ t : Str, ∀ h, Pg.f_Pool_repr [plD m] h = .ok (.str t) h := by
  obtain ⟨t, tl, R⟩ := repr_rows g hl
  refine ⟨Str.empty ++ ("Pool(" : Str) ++ t ++ (")" : Str), fun h => fnG_same ?_ rfl⟩
  have f : ∀ h, fmtD false h (rowsD m) = some (.str t) := fun h => by
    show fRepr h [rowsD m] = _
    exact R h
  have l0 : (Str.empty ++ ("Pool(" : Str)).length ≤ 100000 := by decide
  have l1 : (Str.empty ++ ("Pool(" : Str) ++ t).length ≤ 100000 := by
    rw [Str.length_append]
    have : (Str.empty ++ ("Pool(" : Str)).length = 5 := by decide
    omega
  have l2 : (Str.empty ++ ("Pool(" : Str) ++ t ++ (")" : Str)).length ≤ 100000 := by
    rw [Str.length_append, Str.length_append]
    have : (Str.empty ++ ("Pool(" : Str)).length = 5 := by decide
    have : ((")" : Str)).length = 1 := by decide
    omega
  simp (disch := omega) only [fnM, eVar, eC, eBin, eUn, aNil, aCons, eTup, eLst, eLstN, eFn, eIf, eFld, eCall, eMeth, eMake, tst, tstB, MP.tAnd, MP.tOr, MP.tNot, eAnd, eOr, eNot, eChain, truth, optR, Res.bind, Res.bindS, sNil, sSeq, sExp, sRet, sRetN, sIf, sAsg, sSet, sPar, MP.sFld, MP.sFldAug, sFor, nxO, gNm, gFld, gIx, setIx, setFld, gsNil, gsCons, gTp, gLs, MP.iRng1, MP.iRng2, iSeq, iLst, MP.iTup, seqL, seqM, seqT, seqX, eIsi, tyName, isi_ii, isi_ib, isi_bi, isi_bb, isi_ni, isi_si, isi_ss, isi_is, isi_tt, isi_ti, isi_li, pAdd, pSub, pMulA_int, pMul_ok, pDiv_ok, pMod_ok, pNeg, pLt, pLe, pGt, pGe, pEq, pNe, pEqB, sEq, pIs, pIsNot, MP.isNon, pIx, fAbs, fMax2, fMin2, fInt, fLen, gSel, pick, AH.put_g, AH.put_n, AH.new_g, AH.new_n, AH.put_put, AH.new_put, List.length_cons, List.length_nil, List.map_cons, List.map_nil, List.cons_append, List.nil_append, List.append_nil, List.replicate, List.getElem?_cons_zero, List.getElem?_cons_succ, List.getElem?_nil, List.set_cons_zero, List.set_cons_succ, List.flatMap_cons, List.flatMap_nil, List.drop_zero, List.drop_succ_cons, List.drop_nil, List.take_succ_cons, List.take_zero, List.take_nil, List.contains_cons, List.contains_nil, Bool.or_false, Bool.or_true, Bool.true_or, Bool.false_or, Bool.and_true, Bool.and_false, Bool.not_true, Bool.not_false, beq_self_eq_true, Nat.reduceAdd, Nat.reduceSub, Nat.reduceLeDiff, Nat.reduceLT, Nat.reduceEqDiff, Nat.reduceBEq, Int.reduceToNat, ↓reduceIte, reduceIte, Bool.false_eq_true, ne_true_f, decide_eq_true_eq, and_self, and_true, true_and, Nat.zero_le, Option.map_some, Option.map_none, Option.bind_some, Int.reduceLT, Int.reduceLE, Int.reduceNeg, decide_true, decide_false, ixN_0, ixN_1, ixN_2, ixN_3, ixN_m1, atI_1, atI_2, atI_3, eq_self, Option.some.injEq, false_and, atI_0, Nat.zero_add, Nat.add_zero, pow10_18, pow10_10, pow10_11, pow10_6, sRaise, sRaise0, sTryO, noEx, fAny, fAll, blsL, compL, wipeD, CT.set, eComp, eCompN, lstOk, fSum, fTuple, fList, sAug, pAddI, pSubI, pIn, pNotIn, inB, MP.iZip, iEnumA, fSortP, fSortSet, eSl, partD, zipD_ints, pairsL_map, eBm, mAppend, List.any_cons, List.any_nil, List.all_cons, List.all_nil, id, List.length_append, List.zip_cons_cons, List.zip_nil_left, List.reverse_cons, List.reverse_nil, eqb_int, eqb_str, eqb_bl, kc0, kc1, kc2, kc3, kc4, kc5, kc6, kc7, kc8, kc9, kc10, kc11, kc12, kc13, kc14, kc15, kc16, kc17, kc18, kc19, kc20, Int.reduceBEq, Int.reduceMul, Int.reduceSub, Pg.Pool_get_kept, Pg.Pool_set_kept, Pg.Pool_put_0, Pg.Pool_no_stretches, Pg.Pool_no___len__, Pg.Pool_no_has, Pg.Pool_no_number_at, Pg.Pool_no_place_of, Pg.Pool_no_first_from, Pg.Pool_no_joined, Pg.Pool_no_met, Pg.Pool_no_without, Pg.Pool_no_dealt, Pg.Pool_no___eq__, Pg.Pool_no___str__, Pg.Pool_no___repr__, Pg.b_Pool_repr, eJs, eFmt, kept_is, f, l0, l1, l2]
end XP
set_option Elab.async false
set_option linter.all false
set_option maxRecDepth 100000
set_option maxHeartbeats 400000
/-! pools: slices of rows, makes -/
namespace XP
open PySem PySem.Spec L2 MP
theorem good_take {ps : List PRow} (g : Good ps) (k : Nat) : Good (ps.take k) := fun p hp => g p (List.mem_of_mem_take hp)
theorem cut_take (ps : List PRow) (k : Int) (k0 : 0 ≤ k) (k1 : k ≤ ps.length) : cutD (ps.map tupP) none (some k) = (ps.take k.toNat).map tupP := by
  obtain ⟨n, rfl⟩ : ∃ n : Nat, k = n := ⟨k.toNat, by omega⟩
  unfold cutD
  rw [HT.sIx_none, HT.sIx_nat, List.length_map, List.drop_zero, Nat.sub_zero, Nat.min_eq_left (by omega), List.map_take, Int.toNat_natCast]
theorem slice_ok (ps : List PRow) (k : Int) (k0 : 0 ≤ k) (k1 : k ≤ ps.length) (s : Sl) (a e : ME) (h h1 : AH) (ea : a s h = .ok (rowsD ps) h) (ee : e s h = .ok (.int k) h1) : eSlA a none (some e) s h = .ok (rowsD (ps.take k.toNat)) h1 := by
  have c := cut_take ps k k0 k1
  unfold eSlA eAlt isTxtD
  simp only [ea, rowsD, eSl, Res.bind, partD, ee, seqT, if_false, Bool.false_eq_true]
  split
  · rename_i hw
    have : ps.take k.toNat = ps := by
      obtain ⟨n, rfl⟩ : ∃ n : Nat, k = n := ⟨k.toNat, by omega⟩
      have h2 := hw.2
      rw [HT.sIx_nat, List.length_map, Nat.min_eq_left (by omega)] at h2
      rw [Int.toNat_natCast, h2, List.take_length]
    rw [this]
  · rw [c]
theorem take1 (ps : List PRow) (s : Sl) (a : ME) (h : AH) (ea : a s h = .ok (rowsD ps) h) : eSlA a none (some (eC (.int 1))) s h = .ok (rowsD (ps.take 1)) h := by
  cases ps with
  | nil =>
    unfold eSlA eAlt isTxtD
    simp only [ea, rowsD, eSl, Res.bind, partD, eC, seqT, if_false, Bool.false_eq_true, List.map_nil, List.length_nil, List.take_nil]
    rw [if_pos (by decide)]
  | cons p r => exact slice_ok (p :: r) 1 (by decide) (by simp only [List.length_cons]; omega) s a (eC (.int 1)) h h ea rfl
theorem rev_rows (ps : List PRow) (s : Sl) (a : ME) (h : AH) (ea : a s h = .ok (rowsD ps) h) : eRevA a s h = .ok (rowsD ps.reverse) h := by
  unfold eRevA
  simp only [ea, rowsD, Res.bind, seqT, List.map_reverse]
theorem hasB_fw {l : List PRow} (v : Val l) (x : Int) : hasB (fw l) x = hasB l x := by
  rw [Bool.eq_iff_iff, hasB_iff, hasB_iff]
  exact fw_has v x
theorem fw_fw {l : List PRow} (v : Val l) : fw (fw l) = fw l := fw_ext (Val.fw v) v fun x => fw_has v x
theorem fw_rev {l : List PRow} (v : Val l) : fw l.reverse = fw l := fw_ext (fun p hp => v p (List.mem_reverse.mp hp)) v fun x => by simp [has]
def Ok3 (A : List PRow) : Prop := Good A ∧ A.length ≤ 20
theorem mk_ok {P : List PRow} (h0 : Ok3 P) (h : AH) : Pg.f_Pool_init [.ref h.n, rowsD P] (h.new (.ins 18 [])) = .ok .non (h.new (plO (fw P))) := init_ok h0.1 h0.2 h
theorem mk0 (h : AH) : Pg.f_Pool_init [.ref h.n, .tup []] (h.new (.ins 18 [])) = .ok .non (h.new (plO [])) := init_ok (ps := []) (fun p hp => by cases hp) (by decide) h
theorem pdL_ints (ns : List Int) : pdL (ns.map D.int) = some (ns.map PyData.int) := by
  induction ns with
  | nil => rfl
  | cons n ns ih => simp only [List.map_cons, pdL, ih]; rfl
theorem lay_ints (ns : List Int) : PyData.canLayAll0 (ns.map .int) = true := by
  induction ns with
  | nil => simp [PyData.canLayAll0]
  | cons n ns ih => simp [PyData.canLayAll0, PyData.canLay0, ih]
theorem depth_ints (ns : List Int) : PyData.depthAll (ns.map .int) ≤ 0 := by
  induction ns with
  | nil => simp [PyData.depthAll]
  | cons n ns ih => simp only [List.map_cons, PyData.depthAll, PyData.depth]; omega
theorem shaped_ints (ns : List Int) : SeqAt.shaped (.list (ns.map .int)) = true := by
  have := depth_ints ns
  simp only [SeqAt.shaped, PyData.canLay0, lay_ints, PyData.depth, Bool.true_and, decide_eq_true_eq]
  exact decide_eq_true (by omega)
theorem eqb_nilI (h : AH) (ns : List Int) : pEqB h (.lst (ns.map .int)) (.lst []) = some ns.isEmpty := by
  have h1 : pd h (.lst (ns.map .int)) = some (.list (ns.map .int)) := by simp only [pd, pdI, pdL_ints]
  have h2 : pd h (.lst []) = some (.list []) := rfl
  have h4 : sEq (.lst (ns.map .int)) (.lst []) = none := rfl
  unfold pEqB
  rw [h4]
  simp only [h1, h2]
  rw [if_pos ⟨shaped_ints ns, shaped_rowsL []⟩]
  cases ns with
  | nil => simp [PyData.eqv, PyData.eqvAll]
  | cons p ps => simp [PyData.eqv, PyData.eqvAll]
end XP
set_option Elab.async false
set_option linter.all false
set_option maxRecDepth 100000
set_option maxHeartbeats 1000000
/-! k01 -/
namespace K01
open PySem PySem.Spec L2 MP XP
theorem has_out {ps : List PRow} (g : Good ps) : hasB ps (-1) = false ∧ hasB ps 1000000 = false := by
  constructor
  · rw [Bool.eq_false_iff]
    intro h
    obtain ⟨p, hp, a, b⟩ := (hasB_iff _ _).mp h
    have := g p hp
    omega
  · rw [Bool.eq_false_iff]
    intro h
    obtain ⟨p, hp, a, b⟩ := (hasB_iff _ _).mp h
    have := g p hp
    omega
theorem right_ok {ps : List PRow} (o : Ok3 ps) (h : AH) : f_law_right [rowsD ps, plD (fw ps)] h = .ok (.bl true) h := by
  obtain ⟨g, hl⟩ := o
  have fl := fw_len ps
  have gf := good_fw g
  have w := fun h => lawfewest_ok ps (by omega) h
  have C := compL_map (ok := fun _ => true) (own := [4, 5]) (g := .tup [4, 5]) (t := tYesD) (e := E_law_right_1) (s := [some (rowsD ps), some (plD (fw ps)), some (rowsD (fw ps)), none, none, none, none, none]) (h := h) tupP (fun _ => true) (fun p => .int (p.2 + 1 - p.1)) rfl (fw ps) [] (fun p _ => ⟨[some (rowsD ps), some (plD (fw ps)), some (rowsD (fw ps)), none, some (.int p.1), some (.int p.2), none, none], rfl, rfl, fun _ => by
    simp (disch := omega) only [fnM, eVar, eC, eBin, eUn, aNil, aCons, eTup, eLst, eLstN, eFn, eIf, eFld, eCall, eMeth, eMake, insOf, tst, tstB, MP.tAnd, MP.tOr, MP.tNot, eAnd, eOr, eNot, eChain, truth, optR, Res.bind, Res.bindS, sNil, sSeq, sExp, sRet, sRetN, sIf, sAsg, sSet, sPar, MP.sFld, MP.sFldAug, sFor, nxO, gNm, gFld, gIx, setIx, setFld, gsNil, gsCons, gTp, gLs, MP.iRng1, MP.iRng2, iSeq, iLst, MP.iTup, seqL, seqM, seqT, seqX, eIsi, tyName, isi_ii, isi_ib, isi_bi, isi_bb, isi_ni, isi_si, isi_ss, isi_is, isi_tt, isi_ti, isi_li, pAdd, pSub, pMulA_int, pMul_ok, pDiv_ok, pMod_ok, pNeg, pLt, pLe, pGt, pGe, pEq, pNe, pEqB, sEq, pIs, pIsNot, MP.isNon, pIx, fAbs, fMax2, fMin2, fInt, fLen, gSel, pick, AH.put_g, AH.put_n, AH.new_g, AH.new_n, AH.put_put, AH.new_put, List.length_cons, List.length_nil, List.map_cons, List.map_nil, List.cons_append, List.nil_append, List.append_nil, List.replicate, List.getElem?_cons_zero, List.getElem?_cons_succ, List.getElem?_nil, List.set_cons_zero, List.set_cons_succ, List.flatMap_cons, List.flatMap_nil, List.drop_zero, List.drop_succ_cons, List.drop_nil, List.take_succ_cons, List.take_zero, List.take_nil, List.contains_cons, List.contains_nil, Bool.or_false, Bool.or_true, Bool.true_or, Bool.false_or, Bool.and_true, Bool.and_false, Bool.not_true, Bool.not_false, beq_self_eq_true, Nat.reduceAdd, Nat.reduceSub, Nat.reduceLeDiff, Nat.reduceLT, Nat.reduceEqDiff, Nat.reduceBEq, Int.reduceToNat, ↓reduceIte, reduceIte, Bool.false_eq_true, ne_true_f, decide_eq_true_eq, and_self, and_true, true_and, Nat.zero_le, Option.map_some, Option.map_none, Option.bind_some, Int.reduceLT, Int.reduceLE, Int.reduceNeg, decide_true, decide_false, ixN_0, ixN_1, ixN_2, ixN_3, ixN_m1, atI_1, atI_2, atI_3, eq_self, Option.some.injEq, false_and, atI_0, Nat.zero_add, Nat.add_zero, pow10_18, pow10_10, pow10_11, pow10_6, sRaise, sRaise0, sTryO, noEx, fAny, fAll, blsL, compL, wipeD, CT.set, eComp, eCompN, lstOk, fSum, fTuple, fList, sAug, pAddI, pSubI, pIn, pNotIn, inB, MP.iZip, iEnumA, fSortP, fSortSet, eSl, partD, zipD_ints, pairsL_map, eBm, mAppend, List.any_cons, List.any_nil, List.all_cons, List.all_nil, id, List.length_append, List.zip_cons_cons, List.zip_nil_left, List.reverse_cons, List.reverse_nil, eqb_int, eqb_str, eqb_bl, kc0, kc1, kc2, kc3, kc4, kc5, kc6, kc7, kc8, kc9, kc10, kc11, kc12, kc13, kc14, kc15, kc16, kc17, kc18, kc19, kc20, Int.reduceBEq, Int.reduceMul, Int.reduceSub, Pg.Pool_get_kept, Pg.Pool_set_kept, Pg.Pool_put_0, Pg.Pool_no_stretches, Pg.Pool_no___len__, Pg.Pool_no_has, Pg.Pool_no_number_at, Pg.Pool_no_place_of, Pg.Pool_no_first_from, Pg.Pool_no_joined, Pg.Pool_no_met, Pg.Pool_no_without, Pg.Pool_no_dealt, Pg.Pool_no___eq__, Pg.Pool_no___str__, Pg.Pool_no___repr__, E_law_right_1]⟩) (by simp; omega)
  rw [filter_true] at C
  have hi := intsL_mapf (fun p : PRow => p.2 + 1 - p.1) (fw ps)
  have e1 : ((fw ps).map fun p : PRow => p.2 + 1 - p.1).sum = cntL (fw ps) := rfl
  have ln := fun h => len_ok gf (by omega) h
  have s1 := fun h => same_rows (fw ps) (by omega) h
  have s2 := fun h => same_ok 8 (.int (cntL (fw ps))) rfl h
  have hb : ∀ x h, Pg.f_Pool_has [plD (fw ps), .int x] h = .ok (.bl (hasB ps x)) h := fun x h => by
    rw [phas_ok (fw ps) x (by omega) h, hasB_fw g.val]
  have hw : ∀ x h, f_law_has [rowsD ps, .int x] h = .ok (.bl (hasB ps x)) h := fun x h => has_ok ps x h (by omega)
  have cc := cnt_le gf
  have inner : ∀ (p : PRow) (x6 x7 : Option D), ∃ y6 y7, L_law_right_3 [some (rowsD ps), some (plD (fw ps)), some (rowsD (fw ps)), some (.int (cntL (fw ps))), some (.int p.1), some (.int p.2), x6, x7] h = .nx [some (rowsD ps), some (plD (fw ps)), some (rowsD (fw ps)), some (.int (cntL (fw ps))), some (.int p.1), some (.int p.2), y6, y7] h := by
    intro p x6 x7
    obtain ⟨s', h', e, y6, y7, rfl, rfl⟩ := forL_all (ok := fun _ => true) (g := gNm 6) (b := L_law_right_2) (fun _ s h' => ∃ y6 y7, s = [some (rowsD ps), some (plD (fw ps)), some (rowsD (fw ps)), some (.int (cntL (fw ps))), some (.int p.1), some (.int p.2), y6, y7] ∧ h' = h) (fun _ _ _ _ => rfl)
      ([p.1 - 1, p.1, (p.1 + p.2) / 2, p.2, p.2 + 1].map D.int) 0 [some (rowsD ps), some (plD (fw ps)), some (rowsD (fw ps)), some (.int (cntL (fw ps))), some (.int p.1), some (.int p.2), x6, x7] h ⟨_, _, rfl, rfl⟩ (fun j d s h' hd ⟨y6, y7, es, eh⟩ => by
        subst es eh
        rw [List.getElem?_map] at hd
        cases q : [p.1 - 1, p.1, (p.1 + p.2) / 2, p.2, p.2 + 1][j]? with
        | none => rw [q] at hd; cases hd
        | some x =>
          rw [q] at hd
          cases hd
          have t1 := hb x h'
          have t2 := hw x h'
          have bb : (hasB ps x == hasB ps x) = true := by simp
          refine ⟨_, _, [some (rowsD ps), some (plD (fw ps)), some (rowsD (fw ps)), some (.int (cntL (fw ps))), some (.int p.1), some (.int p.2), some (.int x), some (.bl (hasB ps x))], h', rfl, .inl ?_, _, _, rfl, rfl⟩
          simp (disch := omega) only [fnM, eVar, eC, eBin, eUn, aNil, aCons, eTup, eLst, eLstN, eFn, eIf, eFld, eCall, eMeth, eMake, tst, tstB, MP.tAnd, MP.tOr, MP.tNot, eAnd, eOr, eNot, eChain, truth, optR, Res.bind, Res.bindS, sNil, sSeq, sExp, sRet, sRetN, sIf, sAsg, sSet, sPar, MP.sFld, MP.sFldAug, sFor, nxO, gNm, gFld, gIx, setIx, setFld, gsNil, gsCons, gTp, gLs, MP.iRng1, MP.iRng2, iSeq, iLst, MP.iTup, seqL, seqM, seqT, seqX, eIsi, tyName, isi_ii, isi_ib, isi_bi, isi_bb, isi_ni, isi_si, isi_ss, isi_is, isi_tt, isi_ti, isi_li, pAdd, pSub, pMulA_int, pMul_ok, pDiv_ok, pMod_ok, pNeg, pLt, pLe, pGt, pGe, pEq, pNe, pEqB, sEq, pIs, pIsNot, MP.isNon, pIx, fAbs, fMax2, fMin2, fInt, fLen, gSel, pick, AH.put_g, AH.put_n, AH.new_g, AH.new_n, AH.put_put, AH.new_put, List.length_cons, List.length_nil, List.map_cons, List.map_nil, List.cons_append, List.nil_append, List.append_nil, List.replicate, List.getElem?_cons_zero, List.getElem?_cons_succ, List.getElem?_nil, List.set_cons_zero, List.set_cons_succ, List.flatMap_cons, List.flatMap_nil, List.drop_zero, List.drop_succ_cons, List.drop_nil, List.take_succ_cons, List.take_zero, List.take_nil, List.contains_cons, List.contains_nil, Bool.or_false, Bool.or_true, Bool.true_or, Bool.false_or, Bool.and_true, Bool.and_false, Bool.not_true, Bool.not_false, beq_self_eq_true, Nat.reduceAdd, Nat.reduceSub, Nat.reduceLeDiff, Nat.reduceLT, Nat.reduceEqDiff, Nat.reduceBEq, Int.reduceToNat, ↓reduceIte, reduceIte, Bool.false_eq_true, ne_true_f, decide_eq_true_eq, and_self, and_true, true_and, Nat.zero_le, Option.map_some, Option.map_none, Option.bind_some, Int.reduceLT, Int.reduceLE, Int.reduceNeg, decide_true, decide_false, ixN_0, ixN_1, ixN_2, ixN_3, ixN_m1, atI_1, atI_2, atI_3, eq_self, Option.some.injEq, false_and, atI_0, Nat.zero_add, Nat.add_zero, pow10_18, pow10_10, pow10_11, pow10_6, sRaise, sRaise0, sTryO, noEx, fAny, fAll, blsL, compL, wipeD, CT.set, eComp, eCompN, lstOk, fSum, fTuple, fList, sAug, pAddI, pSubI, pIn, pNotIn, inB, MP.iZip, iEnumA, fSortP, fSortSet, eSl, partD, zipD_ints, pairsL_map, eBm, mAppend, List.any_cons, List.any_nil, List.all_cons, List.all_nil, id, List.length_append, List.zip_cons_cons, List.zip_nil_left, List.reverse_cons, List.reverse_nil, eqb_int, eqb_str, eqb_bl, kc0, kc1, kc2, kc3, kc4, kc5, kc6, kc7, kc8, kc9, kc10, kc11, kc12, kc13, kc14, kc15, kc16, kc17, kc18, kc19, kc20, Int.reduceBEq, Int.reduceMul, Int.reduceSub, Pg.Pool_get_kept, Pg.Pool_set_kept, Pg.Pool_put_0, Pg.Pool_no_stretches, Pg.Pool_no___len__, Pg.Pool_no_has, Pg.Pool_no_number_at, Pg.Pool_no_place_of, Pg.Pool_no_first_from, Pg.Pool_no_joined, Pg.Pool_no_met, Pg.Pool_no_without, Pg.Pool_no_dealt, Pg.Pool_no___eq__, Pg.Pool_no___str__, Pg.Pool_no___repr__, L_law_right_2, kept_is, t1, t2, bb])
    refine ⟨y6, y7, ?_⟩
    simp only [List.map_cons, List.map_nil] at e
    simp (disch := omega) only [fnM, eVar, eC, eBin, eUn, aNil, aCons, eTup, eLst, eLstN, eFn, eIf, eFld, eCall, eMeth, eMake, insOf, tst, tstB, MP.tAnd, MP.tOr, MP.tNot, eAnd, eOr, eNot, eChain, truth, optR, Res.bind, Res.bindS, sNil, sSeq, sExp, sRet, sRetN, sIf, sAsg, sSet, sPar, MP.sFld, MP.sFldAug, sFor, nxO, gNm, gFld, gIx, setIx, setFld, gsNil, gsCons, gTp, gLs, MP.iRng1, MP.iRng2, iSeq, iLst, MP.iTup, seqL, seqM, seqT, seqX, eIsi, tyName, isi_ii, isi_ib, isi_bi, isi_bb, isi_ni, isi_si, isi_ss, isi_is, isi_tt, isi_ti, isi_li, pAdd, pSub, pMulA_int, pMul_ok, pDiv_ok, pMod_ok, pNeg, pLt, pLe, pGt, pGe, pEq, pNe, pEqB, sEq, pIs, pIsNot, MP.isNon, pIx, fAbs, fMax2, fMin2, fInt, fLen, gSel, pick, AH.put_g, AH.put_n, AH.new_g, AH.new_n, AH.put_put, AH.new_put, List.length_cons, List.length_nil, List.map_cons, List.map_nil, List.cons_append, List.nil_append, List.append_nil, List.replicate, List.getElem?_cons_zero, List.getElem?_cons_succ, List.getElem?_nil, List.set_cons_zero, List.set_cons_succ, List.flatMap_cons, List.flatMap_nil, List.drop_zero, List.drop_succ_cons, List.drop_nil, List.take_succ_cons, List.take_zero, List.take_nil, List.contains_cons, List.contains_nil, Bool.or_false, Bool.or_true, Bool.true_or, Bool.false_or, Bool.and_true, Bool.and_false, Bool.not_true, Bool.not_false, beq_self_eq_true, Nat.reduceAdd, Nat.reduceSub, Nat.reduceLeDiff, Nat.reduceLT, Nat.reduceEqDiff, Nat.reduceBEq, Int.reduceToNat, ↓reduceIte, reduceIte, Bool.false_eq_true, ne_true_f, decide_eq_true_eq, and_self, and_true, true_and, Nat.zero_le, Option.map_some, Option.map_none, Option.bind_some, Int.reduceLT, Int.reduceLE, Int.reduceNeg, decide_true, decide_false, ixN_0, ixN_1, ixN_2, ixN_3, ixN_m1, atI_1, atI_2, atI_3, eq_self, Option.some.injEq, false_and, atI_0, Nat.zero_add, Nat.add_zero, pow10_18, pow10_10, pow10_11, pow10_6, sRaise, sRaise0, sTryO, noEx, fAny, fAll, blsL, compL, wipeD, CT.set, eComp, eCompN, lstOk, fSum, fTuple, fList, sAug, pAddI, pSubI, pIn, pNotIn, inB, MP.iZip, iEnumA, fSortP, fSortSet, eSl, partD, zipD_ints, pairsL_map, eBm, mAppend, List.any_cons, List.any_nil, List.all_cons, List.all_nil, id, List.length_append, List.zip_cons_cons, List.zip_nil_left, List.reverse_cons, List.reverse_nil, eqb_int, eqb_str, eqb_bl, kc0, kc1, kc2, kc3, kc4, kc5, kc6, kc7, kc8, kc9, kc10, kc11, kc12, kc13, kc14, kc15, kc16, kc17, kc18, kc19, kc20, Int.reduceBEq, Int.reduceMul, Int.reduceSub, Pg.Pool_get_kept, Pg.Pool_set_kept, Pg.Pool_put_0, Pg.Pool_no_stretches, Pg.Pool_no___len__, Pg.Pool_no_has, Pg.Pool_no_number_at, Pg.Pool_no_place_of, Pg.Pool_no_first_from, Pg.Pool_no_joined, Pg.Pool_no_met, Pg.Pool_no_without, Pg.Pool_no_dealt, Pg.Pool_no___eq__, Pg.Pool_no___str__, Pg.Pool_no___repr__, L_law_right_3, iSeqT, iAlt, isTxtD, lstOk, e]
  obtain ⟨s', h', e, x4, x5, x6, x7, rfl, rfl⟩ := forL_all (ok := fun _ => true) (g := gSq 2 (gsCons (gNm 4) (gsCons (gNm 5) gsNil))) (b := L_law_right_3) (fun _ s h' => ∃ x4 x5 x6 x7, s = [some (rowsD ps), some (plD (fw ps)), some (rowsD (fw ps)), some (.int (cntL (fw ps))), x4, x5, x6, x7] ∧ h' = h) (fun _ _ _ _ => rfl)
    (ps.map tupP) 0 [some (rowsD ps), some (plD (fw ps)), some (rowsD (fw ps)), some (.int (cntL (fw ps))), none, none, none, none] h ⟨_, _, _, _, rfl, rfl⟩ (fun j d s h' hd ⟨x4, x5, x6, x7, es, eh⟩ => by
      subst es eh
      rw [List.getElem?_map] at hd
      cases q : ps[j]? with
      | none => rw [q] at hd; cases hd
      | some p =>
        rw [q] at hd
        cases hd
        obtain ⟨y6, y7, e⟩ := inner p x6 x7
        exact ⟨_, _, _, _, rfl, .inl e, _, _, _, _, rfl, rfl⟩)
  have b1 := hb (-1) h'
  have b2 := hb 1000000 h'
  obtain ⟨n1, n2⟩ := has_out g
  rw [n1] at b1
  rw [n2] at b2
  have tl : ∀ h, truth h (.bl true) = some true := fun h => rfl
  refine fnG_same ?_ rfl
  have hc0 := cc.1
  have hc1 : cntL (fw ps) < 9223372036854775808 := by omega
  unfold rowsD at w C s1 e ⊢
  simp (disch := omega) only [fnM, eVar, eC, eBin, eUn, aNil, aCons, eTup, eLst, eLstN, eFn, eIf, eFld, eCall, eMeth, eMake, tst, tstB, MP.tAnd, MP.tOr, MP.tNot, eAnd, eOr, eNot, eChain, truth, optR, Res.bind, Res.bindS, sNil, sSeq, sExp, sRet, sRetN, sIf, sAsg, sSet, sPar, MP.sFld, MP.sFldAug, sFor, nxO, gNm, gFld, gIx, setIx, setFld, gsNil, gsCons, gTp, gLs, MP.iRng1, MP.iRng2, iSeq, iLst, MP.iTup, seqL, seqM, seqT, seqX, eIsi, tyName, isi_ii, isi_ib, isi_bi, isi_bb, isi_ni, isi_si, isi_ss, isi_is, isi_tt, isi_ti, isi_li, pAdd, pSub, pMulA_int, pMul_ok, pDiv_ok, pMod_ok, pNeg, pLt, pLe, pGt, pGe, pEq, pNe, pEqB, sEq, pIs, pIsNot, MP.isNon, pIx, fAbs, fMax2, fMin2, fInt, fLen, gSel, pick, AH.put_g, AH.put_n, AH.new_g, AH.new_n, AH.put_put, AH.new_put, List.length_cons, List.length_nil, List.map_cons, List.map_nil, List.cons_append, List.nil_append, List.append_nil, List.replicate, List.getElem?_cons_zero, List.getElem?_cons_succ, List.getElem?_nil, List.set_cons_zero, List.set_cons_succ, List.flatMap_cons, List.flatMap_nil, List.drop_zero, List.drop_succ_cons, List.drop_nil, List.take_succ_cons, List.take_zero, List.take_nil, List.contains_cons, List.contains_nil, Bool.or_false, Bool.or_true, Bool.true_or, Bool.false_or, Bool.and_true, Bool.and_false, Bool.not_true, Bool.not_false, beq_self_eq_true, Nat.reduceAdd, Nat.reduceSub, Nat.reduceLeDiff, Nat.reduceLT, Nat.reduceEqDiff, Nat.reduceBEq, Int.reduceToNat, ↓reduceIte, reduceIte, Bool.false_eq_true, ne_true_f, decide_eq_true_eq, and_self, and_true, true_and, Nat.zero_le, Option.map_some, Option.map_none, Option.bind_some, Int.reduceLT, Int.reduceLE, Int.reduceNeg, decide_true, decide_false, ixN_0, ixN_1, ixN_2, ixN_3, ixN_m1, atI_1, atI_2, atI_3, eq_self, Option.some.injEq, false_and, atI_0, Nat.zero_add, Nat.add_zero, pow10_18, pow10_10, pow10_11, pow10_6, sRaise, sRaise0, sTryO, noEx, fAny, fAll, blsL, wipeD, CT.set, eComp, eCompN, lstOk, fSum, fTuple, fList, sAug, pAddI, pSubI, pIn, pNotIn, inB, MP.iZip, iEnumA, fSortP, fSortSet, eSl, partD, zipD_ints, pairsL_map, eBm, mAppend, List.any_cons, List.any_nil, List.all_cons, List.all_nil, id, List.length_append, List.zip_cons_cons, List.zip_nil_left, List.reverse_cons, List.reverse_nil, eqb_int, eqb_str, eqb_bl, kc0, kc1, kc2, kc3, kc4, kc5, kc6, kc7, kc8, kc9, kc10, kc11, kc12, kc13, kc14, kc15, kc16, kc17, kc18, kc19, kc20, Int.reduceBEq, Int.reduceMul, Int.reduceSub, Pg.Pool_get_kept, Pg.Pool_set_kept, Pg.Pool_put_0, Pg.Pool_no_stretches, Pg.Pool_no___len__, Pg.Pool_no_has, Pg.Pool_no_number_at, Pg.Pool_no_place_of, Pg.Pool_no_first_from, Pg.Pool_no_joined, Pg.Pool_no_met, Pg.Pool_no_without, Pg.Pool_no_dealt, Pg.Pool_no___eq__, Pg.Pool_no___str__, Pg.Pool_no___repr__, b_law_right, w, iSeqT, iAlt, isTxtD, C, hi, e1, seqL, kept_isT, stretches_isT, s1, eOwn1, ln, lenOk, hc0, hc1, s2, e, b1, b2, pIsA]
end K01
set_option Elab.async false
set_option linter.all false
set_option maxRecDepth 100000
set_option maxHeartbeats 1000000
/-! k01, whole -/
namespace K01
open PySem PySem.Spec L2 MP XP
theorem ok3_fw {ps : List PRow} (o : Ok3 ps) : Ok3 (fw ps) := ⟨good_fw o.1, Nat.le_trans (fw_len ps) o.2⟩
theorem ok3_rev {ps : List PRow} (o : Ok3 ps) : Ok3 ps.reverse := ⟨fun p hp => o.1 p (List.mem_reverse.mp hp), by rw [List.length_reverse]; exact o.2⟩
theorem ok3_take {ps : List PRow} (o : Ok3 ps) (h : ps.length < 20) : Ok3 (ps ++ ps.take 1) := ⟨Good.app o.1 (good_take o.1 1), by rw [List.length_append, List.length_take]; omega⟩
theorem ok3_free {ps : List PRow} (o : Ok3 ps) (h : ps.length < 20) {f : Int} (f0 : 0 ≤ f) (f1 : f < 22) : Ok3 (ps ++ [(f, f)]) := ⟨good_snoc o.1 ⟨f0, Int.le_refl _, by omega⟩, by rw [List.length_append, List.length_singleton]; omega⟩
theorem fw_take {ps : List PRow} (v : Val ps) : fw (ps ++ ps.take 1) = fw ps := fw_ext (Val.app v fun p hp => v p (List.mem_of_mem_take hp)) v fun x => by
  rw [has_append]
  exact ⟨fun z => z.elim id fun ⟨p, hp, q⟩ => ⟨p, List.mem_of_mem_take hp, q⟩, .inl⟩
theorem fw_free {ps : List PRow} (v : Val ps) {f : Int} (n : hasB ps f = false) : decide (fw (ps ++ [(f, f)]) = fw ps) = false := by
  rw [decide_eq_false_iff_not]
  intro e
  have h1 : has (fw (ps ++ [(f, f)])) f := (fw_has (Val.app v fun p hp => by rw [List.mem_singleton.mp hp]; exact Int.le_refl _) f).mpr (has_append.mpr (.inr ⟨(f, f), List.mem_singleton.mpr rfl, Int.le_refl _, Int.le_refl _⟩))
  rw [e, fw_has v, ← hasB_iff, n] at h1
  cases h1
theorem alike_ok {ps : List PRow} (o : Ok3 ps) (h : AH) : f_law_alike [plD (fw ps), rowsD ps] h = .ok (.bl true) h := by
  obtain ⟨g, hl⟩ := id o
  have v := g.val
  have fl := fw_len ps
  have w := fun h => lawfewest_ok ps (by omega) h
  have hw : ∀ x h, f_law_has [rowsD ps, .int x] h = .ok (.bl (hasB ps x)) h := fun x h => has_ok ps x h (by omega)
  have m0 := mk_ok (ok3_fw o) h
  rw [fw_fw v] at m0
  have m1 := mk_ok (ok3_rev o) h
  rw [fw_rev v] at m1
  have m2 := mk_ok o h
  have gp := gc_pool h
  have rv := rev_rows ps [some (plD (fw ps)), some (rowsD ps), some (rowsD (fw ps)), none, none] (eVar 1) h rfl
  have tk := take1 ps [some (plD (fw ps)), some (rowsD ps), some (rowsD (fw ps)), none, none] (eVar 1) h rfl
  have eq := fun h => eq_ok (fw ps) (fw ps) h
  have e1 : decide (fw ps = fw ps) = true := decide_eq_true rfl
  rw [e1] at eq
  have C := compL_map (ok := fun _ => true) (own := [4]) (g := .one 4) (t := Q_law_alike_1) (e := E_law_alike_1) (s := [some (plD (fw ps)), some (rowsD ps), some (rowsD (fw ps)), none, none]) (h := h) (fun k : Nat => D.int (k : Int)) (fun k => !hasB ps (k : Int)) (fun k => .int (k : Int)) rfl (List.range 22) [] (fun k _ => ⟨[some (plD (fw ps)), some (rowsD ps), some (rowsD (fw ps)), none, some (.int (k : Int))], rfl, by simp (disch := omega) only [fnM, eVar, eC, eBin, eUn, aNil, aCons, eTup, eLst, eLstN, eFn, eIf, eFld, eCall, eMeth, eMake, insOf, tst, tstB, MP.tAnd, MP.tOr, MP.tNot, eAnd, eOr, eNot, eChain, truth, optR, Res.bind, Res.bindS, sNil, sSeq, sExp, sRet, sRetN, sIf, sAsg, sSet, sPar, MP.sFld, MP.sFldAug, sFor, nxO, gNm, gFld, gIx, setIx, setFld, gsNil, gsCons, gTp, gLs, MP.iRng1, MP.iRng2, iSeq, iLst, MP.iTup, seqL, seqM, seqT, seqX, eIsi, tyName, isi_ii, isi_ib, isi_bi, isi_bb, isi_ni, isi_si, isi_ss, isi_is, isi_tt, isi_ti, isi_li, pAdd, pSub, pMulA_int, pMul_ok, pDiv_ok, pMod_ok, pNeg, pLt, pLe, pGt, pGe, pEq, pNe, pEqB, sEq, pIs, pIsNot, MP.isNon, pIx, fAbs, fMax2, fMin2, fInt, fLen, gSel, pick, AH.put_g, AH.put_n, AH.new_g, AH.new_n, AH.put_put, AH.new_put, List.length_cons, List.length_nil, List.map_cons, List.map_nil, List.cons_append, List.nil_append, List.append_nil, List.replicate, List.getElem?_cons_zero, List.getElem?_cons_succ, List.getElem?_nil, List.set_cons_zero, List.set_cons_succ, List.flatMap_cons, List.flatMap_nil, List.drop_zero, List.drop_succ_cons, List.drop_nil, List.take_succ_cons, List.take_zero, List.take_nil, List.contains_cons, List.contains_nil, Bool.or_false, Bool.or_true, Bool.true_or, Bool.false_or, Bool.and_true, Bool.and_false, Bool.not_true, Bool.not_false, beq_self_eq_true, Nat.reduceAdd, Nat.reduceSub, Nat.reduceLeDiff, Nat.reduceLT, Nat.reduceEqDiff, Nat.reduceBEq, Int.reduceToNat, ↓reduceIte, reduceIte, Bool.false_eq_true, ne_true_f, decide_eq_true_eq, and_self, and_true, true_and, Nat.zero_le, Option.map_some, Option.map_none, Option.bind_some, Int.reduceLT, Int.reduceLE, Int.reduceNeg, decide_true, decide_false, ixN_0, ixN_1, ixN_2, ixN_3, ixN_m1, atI_1, atI_2, atI_3, eq_self, Option.some.injEq, false_and, atI_0, Nat.zero_add, Nat.add_zero, pow10_18, pow10_10, pow10_11, pow10_6, sRaise, sRaise0, sTryO, noEx, fAny, fAll, blsL, compL, wipeD, CT.set, eComp, eCompN, lstOk, fSum, fTuple, fList, sAug, pAddI, pSubI, pIn, pNotIn, inB, MP.iZip, iEnumA, fSortP, fSortSet, eSl, partD, zipD_ints, pairsL_map, eBm, mAppend, List.any_cons, List.any_nil, List.all_cons, List.all_nil, id, List.length_append, List.zip_cons_cons, List.zip_nil_left, List.reverse_cons, List.reverse_nil, eqb_int, eqb_str, eqb_bl, kc0, kc1, kc2, kc3, kc4, kc5, kc6, kc7, kc8, kc9, kc10, kc11, kc12, kc13, kc14, kc15, kc16, kc17, kc18, kc19, kc20, Int.reduceBEq, Int.reduceMul, Int.reduceSub, Pg.Pool_get_kept, Pg.Pool_set_kept, Pg.Pool_put_0, Pg.Pool_no_stretches, Pg.Pool_no___len__, Pg.Pool_no_has, Pg.Pool_no_number_at, Pg.Pool_no_place_of, Pg.Pool_no_first_from, Pg.Pool_no_joined, Pg.Pool_no_met, Pg.Pool_no_without, Pg.Pool_no_dealt, Pg.Pool_no___eq__, Pg.Pool_no___str__, Pg.Pool_no___repr__, Q_law_alike_1, hw], fun _ => by simp (disch := omega) only [fnM, eVar, eC, eBin, eUn, aNil, aCons, eTup, eLst, eLstN, eFn, eIf, eFld, eCall, eMeth, eMake, insOf, tst, tstB, MP.tAnd, MP.tOr, MP.tNot, eAnd, eOr, eNot, eChain, truth, optR, Res.bind, Res.bindS, sNil, sSeq, sExp, sRet, sRetN, sIf, sAsg, sSet, sPar, MP.sFld, MP.sFldAug, sFor, nxO, gNm, gFld, gIx, setIx, setFld, gsNil, gsCons, gTp, gLs, MP.iRng1, MP.iRng2, iSeq, iLst, MP.iTup, seqL, seqM, seqT, seqX, eIsi, tyName, isi_ii, isi_ib, isi_bi, isi_bb, isi_ni, isi_si, isi_ss, isi_is, isi_tt, isi_ti, isi_li, pAdd, pSub, pMulA_int, pMul_ok, pDiv_ok, pMod_ok, pNeg, pLt, pLe, pGt, pGe, pEq, pNe, pEqB, sEq, pIs, pIsNot, MP.isNon, pIx, fAbs, fMax2, fMin2, fInt, fLen, gSel, pick, AH.put_g, AH.put_n, AH.new_g, AH.new_n, AH.put_put, AH.new_put, List.length_cons, List.length_nil, List.map_cons, List.map_nil, List.cons_append, List.nil_append, List.append_nil, List.replicate, List.getElem?_cons_zero, List.getElem?_cons_succ, List.getElem?_nil, List.set_cons_zero, List.set_cons_succ, List.flatMap_cons, List.flatMap_nil, List.drop_zero, List.drop_succ_cons, List.drop_nil, List.take_succ_cons, List.take_zero, List.take_nil, List.contains_cons, List.contains_nil, Bool.or_false, Bool.or_true, Bool.true_or, Bool.false_or, Bool.and_true, Bool.and_false, Bool.not_true, Bool.not_false, beq_self_eq_true, Nat.reduceAdd, Nat.reduceSub, Nat.reduceLeDiff, Nat.reduceLT, Nat.reduceEqDiff, Nat.reduceBEq, Int.reduceToNat, ↓reduceIte, reduceIte, Bool.false_eq_true, ne_true_f, decide_eq_true_eq, and_self, and_true, true_and, Nat.zero_le, Option.map_some, Option.map_none, Option.bind_some, Int.reduceLT, Int.reduceLE, Int.reduceNeg, decide_true, decide_false, ixN_0, ixN_1, ixN_2, ixN_3, ixN_m1, atI_1, atI_2, atI_3, eq_self, Option.some.injEq, false_and, atI_0, Nat.zero_add, Nat.add_zero, pow10_18, pow10_10, pow10_11, pow10_6, sRaise, sRaise0, sTryO, noEx, fAny, fAll, blsL, compL, wipeD, CT.set, eComp, eCompN, lstOk, fSum, fTuple, fList, sAug, pAddI, pSubI, pIn, pNotIn, inB, MP.iZip, iEnumA, fSortP, fSortSet, eSl, partD, zipD_ints, pairsL_map, eBm, mAppend, List.any_cons, List.any_nil, List.all_cons, List.all_nil, id, List.length_append, List.zip_cons_cons, List.zip_nil_left, List.reverse_cons, List.reverse_nil, eqb_int, eqb_str, eqb_bl, kc0, kc1, kc2, kc3, kc4, kc5, kc6, kc7, kc8, kc9, kc10, kc11, kc12, kc13, kc14, kc15, kc16, kc17, kc18, kc19, kc20, Int.reduceBEq, Int.reduceMul, Int.reduceSub, Pg.Pool_get_kept, Pg.Pool_set_kept, Pg.Pool_put_0, Pg.Pool_no_stretches, Pg.Pool_no___len__, Pg.Pool_no_has, Pg.Pool_no_number_at, Pg.Pool_no_place_of, Pg.Pool_no_first_from, Pg.Pool_no_joined, Pg.Pool_no_met, Pg.Pool_no_without, Pg.Pool_no_dealt, Pg.Pool_no___eq__, Pg.Pool_no___str__, Pg.Pool_no___repr__, E_law_alike_1]⟩) (by simp)
  have er : (List.range 22).map (fun k : Nat => D.int (k : Int)) = rng 0 22 := by rfl
  rw [er] at C
  have hg : -2 ^ 62 ≤ (22 : Int) ∧ (22 : Int) < 2 ^ 62 := by decide
  have hF : ((List.range 22).filter fun k : Nat => !hasB ps (k : Int)).map (fun k : Nat => D.int (k : Int)) = (((List.range 22).filter fun k : Nat => !hasB ps (k : Int)).map fun k : Nat => (k : Int)).map D.int := by rw [List.map_map]; rfl
  rw [hF, List.nil_append] at C
  have hFm : ∀ f ∈ ((List.range 22).filter fun k : Nat => !hasB ps (k : Int)).map fun k : Nat => (k : Int), 0 ≤ f ∧ f < 22 ∧ hasB ps f = false := fun f hf => by
    obtain ⟨k, hk, rfl⟩ := List.mem_map.mp hf
    obtain ⟨h1, h2⟩ := List.mem_filter.mp hk
    have := List.mem_range.mp h1
    exact ⟨by omega, by omega, by simpa using h2⟩
  revert C hFm
  generalize ((List.range 22).filter fun k : Nat => !hasB ps (k : Int)).map (fun k : Nat => (k : Int)) = F
  intro C hFm
  have q1 : Pg.f_Pool_eq [plD (fw ps), rowsD (fw ps)] h = .ok (.bl false) h := eq_no (t := "tuple") rfl
  have q2 : ∀ t, Pg.f_Pool_eq [plD (fw ps), .str t] h = .ok (.bl false) h := fun t => eq_no (t := "str") rfl
  have q3 : Pg.f_Pool_eq [plD (fw ps), .non] h = .ok (.bl false) h := eq_no (t := "NoneType") rfl
  have q4 : ∀ n, Pg.f_Pool_eq [plD (fw ps), .int n] h = .ok (.bl false) h := fun n => eq_no (t := "int") rfl
  obtain ⟨t, rp⟩ := prepr_ok (good_fw g) (by omega)
  have ln := fun h => len_ok (good_fw g) (by omega) h
  have cc := cnt_le (good_fw g)
  have hc0 := cc.1
  have hc1 : cntL (fw ps) < 9223372036854775808 := by omega
  have lenr : ∀ h, fLen h [rowsD ps] = some (.int (ps.length : Int)) := fun h => by simp only [fLen, rowsD, seqX, seqT, List.length_map]
  have ty : ∀ h, tyName h (rowsD (fw ps)) = some "tuple" := fun h => rfl
  have io : ∀ h, insOf h (rowsD (fw ps)) = none := fun h => rfl
  have is : ∀ h t, insOf h (.str t) = none := fun h t => rfl
  have ii : ∀ h t, insOf h (.int t) = none := fun h t => rfl
  have inn : ∀ h, insOf h .non = none := fun h => rfl
  have ts : ∀ h t, tyName h (.str t) = some "str" := fun h t => rfl
  have ti : ∀ h t, tyName h (.int t) = some "int" := fun h t => rfl
  have tn : ∀ h, tyName h .non = some "NoneType" := fun h => rfl
  refine fnG_same ?_ rfl
  by_cases h20 : ps.length < 20
  · have m3 := mk_ok (ok3_take o h20) h
    rw [fw_take v] at m3
    have ar := add_rows h ps (ps.take 1) (by rw [List.length_take]; omega)
    have h20i : ((ps.length : Int) < 20) = True := by simp only [eq_iff_iff, iff_true]; omega
    cases F with
    | nil =>
      have nn := eqb_nilI h []
      simp only [List.map_nil] at C nn
      simp (disch := omega) only [fnM, eVar, eC, eBin, eUn, aNil, aCons, eTup, eLst, eLstN, eFn, eIf, eFld, eCall, eMeth, eMake, tst, tstB, MP.tAnd, MP.tOr, MP.tNot, eAnd, eOr, eNot, eChain, truth, optR, Res.bind, Res.bindS, sNil, sSeq, sExp, sRet, sRetN, sIf, sAsg, sSet, sPar, MP.sFld, MP.sFldAug, sFor, nxO, gNm, gFld, gIx, setIx, setFld, gsNil, gsCons, gTp, gLs, MP.iRng1, MP.iRng2, iSeq, iLst, MP.iTup, seqL, seqM, seqT, seqX, eIsi, isi_ii, isi_ib, isi_bi, isi_bb, isi_ni, isi_si, isi_ss, isi_is, isi_tt, isi_ti, isi_li, pSub, pMulA_int, pMul_ok, pDiv_ok, pMod_ok, pNeg, pLt, pLe, pGt, pGe, pEq, pNe, sEq, pIs, pIsNot, MP.isNon, pIx, fAbs, fMax2, fMin2, fInt, gSel, pick, AH.put_g, AH.put_n, AH.new_g, AH.new_n, AH.put_put, AH.new_put, List.length_cons, List.length_nil, List.map_cons, List.map_nil, List.cons_append, List.nil_append, List.append_nil, List.replicate, List.getElem?_cons_zero, List.getElem?_cons_succ, List.getElem?_nil, List.set_cons_zero, List.set_cons_succ, List.flatMap_cons, List.flatMap_nil, List.drop_zero, List.drop_succ_cons, List.drop_nil, List.take_succ_cons, List.take_zero, List.take_nil, List.contains_cons, List.contains_nil, Bool.or_false, Bool.or_true, Bool.true_or, Bool.false_or, Bool.and_true, Bool.and_false, Bool.not_true, Bool.not_false, beq_self_eq_true, Nat.reduceAdd, Nat.reduceSub, Nat.reduceLeDiff, Nat.reduceLT, Nat.reduceEqDiff, Nat.reduceBEq, Int.reduceToNat, ↓reduceIte, reduceIte, Bool.false_eq_true, ne_true_f, decide_eq_true_eq, and_self, and_true, true_and, Nat.zero_le, Option.map_some, Option.map_none, Option.bind_some, Int.reduceLT, Int.reduceLE, Int.reduceNeg, decide_true, decide_false, ixN_0, ixN_1, ixN_2, ixN_3, ixN_m1, atI_1, atI_2, atI_3, eq_self, Option.some.injEq, false_and, atI_0, Nat.zero_add, Nat.add_zero, pow10_18, pow10_10, pow10_11, pow10_6, sRaise, sRaise0, sTryO, noEx, fAny, fAll, blsL, wipeD, CT.set, eComp, eCompN, lstOk, fSum, fTuple, fList, sAug, pAddI, pSubI, pIn, pNotIn, inB, MP.iZip, iEnumA, fSortP, fSortSet, eSl, partD, zipD_ints, pairsL_map, eBm, mAppend, List.any_cons, List.any_nil, List.all_cons, List.all_nil, id, List.length_append, List.zip_cons_cons, List.zip_nil_left, List.reverse_cons, List.reverse_nil, eqb_int, eqb_str, eqb_bl, kc0, kc1, kc2, kc3, kc4, kc5, kc6, kc7, kc8, kc9, kc10, kc11, kc12, kc13, kc14, kc15, kc16, kc17, kc18, kc19, kc20, Int.reduceBEq, Int.reduceMul, Int.reduceSub, Pg.Pool_get_kept, Pg.Pool_set_kept, Pg.Pool_put_0, Pg.Pool_no_stretches, Pg.Pool_no___len__, Pg.Pool_no_has, Pg.Pool_no_number_at, Pg.Pool_no_place_of, Pg.Pool_no_first_from, Pg.Pool_no_joined, Pg.Pool_no_met, Pg.Pool_no_without, Pg.Pool_no_dealt, Pg.Pool_no___eq__, Pg.Pool_no___str__, Pg.Pool_no___repr__, b_law_alike, w, R_law_alike_1_1, m0, gp, rv, eq, isIns, eOwn, kept_is, tAlt, eAlt, m1, eOwnN, m2, R_law_alike_1_2, lenr, h20i, tk, ar, m3, R_law_alike_1_3, hg, C, R_law_alike_1_4, nn, List.isEmpty_nil, io, ty, eOwnD, q1, eOwn1, rp, strOk, is, ts, q2, inn, tn, q3, ln, lenOk, hc0, hc1, ii, ti, q4, eOwnND, decide_true]
    | cons f r =>
      obtain ⟨f0, f1, f2⟩ := hFm f List.mem_cons_self
      have m4 := mk_ok (ok3_free o h20 f0 f1) h
      have eq2 := fun h => eq_ok (fw (ps ++ [(f, f)])) (fw ps) h
      rw [fw_free v f2] at eq2
      have ar2 : pAdd h (rowsD ps) (.tup [.tup [.int f, .int f]]) = some (rowsD (ps ++ [(f, f)])) := add_rows h ps [(f, f)] (by simp; omega)
      have nn := eqb_nilI h (f :: r)
      simp only [List.map_cons] at C nn
      simp (disch := omega) only [fnM, eVar, eC, eBin, eUn, aNil, aCons, eTup, eLst, eLstN, eFn, eIf, eFld, eCall, eMeth, eMake, tst, tstB, MP.tAnd, MP.tOr, MP.tNot, eAnd, eOr, eNot, eChain, truth, optR, Res.bind, Res.bindS, sNil, sSeq, sExp, sRet, sRetN, sIf, sAsg, sSet, sPar, MP.sFld, MP.sFldAug, sFor, nxO, gNm, gFld, gIx, setIx, setFld, gsNil, gsCons, gTp, gLs, MP.iRng1, MP.iRng2, iSeq, iLst, MP.iTup, seqL, seqM, seqT, seqX, eIsi, isi_ii, isi_ib, isi_bi, isi_bb, isi_ni, isi_si, isi_ss, isi_is, isi_tt, isi_ti, isi_li, pSub, pMulA_int, pMul_ok, pDiv_ok, pMod_ok, pNeg, pLt, pLe, pGt, pGe, pEq, pNe, sEq, pIs, pIsNot, MP.isNon, pIx, fAbs, fMax2, fMin2, fInt, gSel, pick, AH.put_g, AH.put_n, AH.new_g, AH.new_n, AH.put_put, AH.new_put, List.length_cons, List.length_nil, List.map_cons, List.map_nil, List.cons_append, List.nil_append, List.append_nil, List.replicate, List.getElem?_cons_zero, List.getElem?_cons_succ, List.getElem?_nil, List.set_cons_zero, List.set_cons_succ, List.flatMap_cons, List.flatMap_nil, List.drop_zero, List.drop_succ_cons, List.drop_nil, List.take_succ_cons, List.take_zero, List.take_nil, List.contains_cons, List.contains_nil, Bool.or_false, Bool.or_true, Bool.true_or, Bool.false_or, Bool.and_true, Bool.and_false, Bool.not_true, Bool.not_false, beq_self_eq_true, Nat.reduceAdd, Nat.reduceSub, Nat.reduceLeDiff, Nat.reduceLT, Nat.reduceEqDiff, Nat.reduceBEq, Int.reduceToNat, ↓reduceIte, reduceIte, Bool.false_eq_true, ne_true_f, decide_eq_true_eq, and_self, and_true, true_and, Nat.zero_le, Option.map_some, Option.map_none, Option.bind_some, Int.reduceLT, Int.reduceLE, Int.reduceNeg, decide_true, decide_false, ixN_0, ixN_1, ixN_2, ixN_3, ixN_m1, atI_1, atI_2, atI_3, eq_self, Option.some.injEq, false_and, atI_0, Nat.zero_add, Nat.add_zero, pow10_18, pow10_10, pow10_11, pow10_6, sRaise, sRaise0, sTryO, noEx, fAny, fAll, blsL, wipeD, CT.set, eComp, eCompN, lstOk, fSum, fTuple, fList, sAug, pAddI, pSubI, pIn, pNotIn, inB, MP.iZip, iEnumA, fSortP, fSortSet, eSl, partD, zipD_ints, pairsL_map, eBm, mAppend, List.any_cons, List.any_nil, List.all_cons, List.all_nil, id, List.length_append, List.zip_cons_cons, List.zip_nil_left, List.reverse_cons, List.reverse_nil, eqb_int, eqb_str, eqb_bl, kc0, kc1, kc2, kc3, kc4, kc5, kc6, kc7, kc8, kc9, kc10, kc11, kc12, kc13, kc14, kc15, kc16, kc17, kc18, kc19, kc20, Int.reduceBEq, Int.reduceMul, Int.reduceSub, Pg.Pool_get_kept, Pg.Pool_set_kept, Pg.Pool_put_0, Pg.Pool_no_stretches, Pg.Pool_no___len__, Pg.Pool_no_has, Pg.Pool_no_number_at, Pg.Pool_no_place_of, Pg.Pool_no_first_from, Pg.Pool_no_joined, Pg.Pool_no_met, Pg.Pool_no_without, Pg.Pool_no_dealt, Pg.Pool_no___eq__, Pg.Pool_no___str__, Pg.Pool_no___repr__, b_law_alike, w, R_law_alike_1_1, m0, gp, rv, eq, isIns, eOwn, kept_is, tAlt, eAlt, m1, eOwnN, m2, R_law_alike_1_2, lenr, h20i, tk, ar, m3, R_law_alike_1_3, hg, C, R_law_alike_1_4, nn, List.isEmpty_cons, ar2, m4, eq2, io, ty, eOwnD, q1, eOwn1, rp, strOk, is, ts, q2, inn, tn, q3, ln, lenOk, hc0, hc1, ii, ti, q4, eOwnND, decide_true]
  · have h20i : ((ps.length : Int) < 20) = False := by simp only [eq_iff_iff, iff_false]; omega
    simp (disch := omega) only [fnM, eVar, eC, eBin, eUn, aNil, aCons, eTup, eLst, eLstN, eFn, eIf, eFld, eCall, eMeth, eMake, tst, tstB, MP.tAnd, MP.tOr, MP.tNot, eAnd, eOr, eNot, eChain, truth, optR, Res.bind, Res.bindS, sNil, sSeq, sExp, sRet, sRetN, sIf, sAsg, sSet, sPar, MP.sFld, MP.sFldAug, sFor, nxO, gNm, gFld, gIx, setIx, setFld, gsNil, gsCons, gTp, gLs, MP.iRng1, MP.iRng2, iSeq, iLst, MP.iTup, seqL, seqM, seqT, seqX, eIsi, isi_ii, isi_ib, isi_bi, isi_bb, isi_ni, isi_si, isi_ss, isi_is, isi_tt, isi_ti, isi_li, pSub, pMulA_int, pMul_ok, pDiv_ok, pMod_ok, pNeg, pLt, pLe, pGt, pGe, pEq, pNe, sEq, pIs, pIsNot, MP.isNon, pIx, fAbs, fMax2, fMin2, fInt, gSel, pick, AH.put_g, AH.put_n, AH.new_g, AH.new_n, AH.put_put, AH.new_put, List.length_cons, List.length_nil, List.map_cons, List.map_nil, List.cons_append, List.nil_append, List.append_nil, List.replicate, List.getElem?_cons_zero, List.getElem?_cons_succ, List.getElem?_nil, List.set_cons_zero, List.set_cons_succ, List.flatMap_cons, List.flatMap_nil, List.drop_zero, List.drop_succ_cons, List.drop_nil, List.take_succ_cons, List.take_zero, List.take_nil, List.contains_cons, List.contains_nil, Bool.or_false, Bool.or_true, Bool.true_or, Bool.false_or, Bool.and_true, Bool.and_false, Bool.not_true, Bool.not_false, beq_self_eq_true, Nat.reduceAdd, Nat.reduceSub, Nat.reduceLeDiff, Nat.reduceLT, Nat.reduceEqDiff, Nat.reduceBEq, Int.reduceToNat, ↓reduceIte, reduceIte, Bool.false_eq_true, ne_true_f, decide_eq_true_eq, and_self, and_true, true_and, Nat.zero_le, Option.map_some, Option.map_none, Option.bind_some, Int.reduceLT, Int.reduceLE, Int.reduceNeg, decide_true, decide_false, ixN_0, ixN_1, ixN_2, ixN_3, ixN_m1, atI_1, atI_2, atI_3, eq_self, Option.some.injEq, false_and, atI_0, Nat.zero_add, Nat.add_zero, pow10_18, pow10_10, pow10_11, pow10_6, sRaise, sRaise0, sTryO, noEx, fAny, fAll, blsL, wipeD, CT.set, eComp, eCompN, lstOk, fSum, fTuple, fList, sAug, pAddI, pSubI, pIn, pNotIn, inB, MP.iZip, iEnumA, fSortP, fSortSet, eSl, partD, zipD_ints, pairsL_map, eBm, mAppend, List.any_cons, List.any_nil, List.all_cons, List.all_nil, id, List.length_append, List.zip_cons_cons, List.zip_nil_left, List.reverse_cons, List.reverse_nil, eqb_int, eqb_str, eqb_bl, kc0, kc1, kc2, kc3, kc4, kc5, kc6, kc7, kc8, kc9, kc10, kc11, kc12, kc13, kc14, kc15, kc16, kc17, kc18, kc19, kc20, Int.reduceBEq, Int.reduceMul, Int.reduceSub, Pg.Pool_get_kept, Pg.Pool_set_kept, Pg.Pool_put_0, Pg.Pool_no_stretches, Pg.Pool_no___len__, Pg.Pool_no_has, Pg.Pool_no_number_at, Pg.Pool_no_place_of, Pg.Pool_no_first_from, Pg.Pool_no_joined, Pg.Pool_no_met, Pg.Pool_no_without, Pg.Pool_no_dealt, Pg.Pool_no___eq__, Pg.Pool_no___str__, Pg.Pool_no___repr__, b_law_alike, w, R_law_alike_1_1, m0, gp, rv, eq, isIns, eOwn, kept_is, tAlt, eAlt, m1, eOwnN, m2, R_law_alike_1_2, lenr, h20i, R_law_alike_1_3, hg, C, R_law_alike_1_4, io, ty, eOwnD, q1, eOwn1, rp, strOk, is, ts, q2, inn, tn, q3, ln, lenOk, hc0, hc1, ii, ti, q4, eOwnND, decide_false]
theorem round_ok (ns : List Int) (i : Int) (i0 : 0 ≤ i) (i1 : i < 4) (s : Sl) (h : AH) (hs : ∃ x1 x2 x3 x4 x5 x6 x7, s = [some (.fz (ns.map .int)), x1, x2, x3, x4, x5, x6, x7]) :
    ∃ s1 h1 s2 h2, gNm 1 (.int i) s h = some (s1, h1) ∧ (L_law_8 s1 h1 = .nx s2 h2 ∨ L_law_8 s1 h1 = .ct s2 h2) ∧ ∃ x1 x2 x3 x4 x5 x6 x7, s2 = [some (.fz (ns.map .int)), x1, x2, x3, x4, x5, x6, x7] := by
  obtain ⟨x1, x2, x3, x4, x5, x6, x7, rfl⟩ := hs
  obtain ⟨a, rfl⟩ : ∃ a : Nat, i = a := ⟨i.toNat, by omega⟩
  obtain ⟨β0, tb, B0⟩ := bagB_ok ns a (by omega)
  have e0 := AH.new_same h (bagO β0)
  obtain ⟨P, β1, t1, G, l0, B1⟩ := stretches_ok (m := 20) B0 (by decide) (by decide) (by decide) (by decide)
  have O : Ok3 P := ⟨G, by omega⟩
  obtain ⟨Q, β2, t2, G2, l2, B2⟩ := stretches_ok (m := 20) B1 (by decide) (by decide) (by decide) (by decide)
  have O2 : Ok3 Q := ⟨G2, by omega⟩
  have O3 : Ok3 [] := ⟨fun p hp => (by cases hp), by decide⟩
  have k1 := t1 _ _ e0
  have k2 := t2 _ h.n (AH.put_same (o := bagO β1) e0)
  rw [AH.put_put] at k2
  rw [AH.new_put] at k1 k2
  rw [AH.new_put] at k2
  have m1 := mk_ok O (h.new (bagO β1))
  have g1 := fun m => gc_pool (h.new (bagO β1)) m
  have m2 := mk_ok O2 (h.new (bagO β2))
  have m3 := mk0 (h.new (bagO β2))
  have g2 := fun m => gc_pool (h.new (bagO β2)) m
  simp only [AH.new_n] at m1 g1 m2 g2 m3
  have r1 := fun h => right_ok O h
  have a1 := fun h => alike_ok O h
  have r2 := fun h => right_ok O2 h
  have r3 : ∀ h, f_law_right [.tup [], plD []] h = .ok (.bl true) h := fun h => right_ok O3 h
  have w1 := fun h => lawfewest_ok P (by omega) h
  have w2 := fun h => lawfewest_ok Q (by omega) h
  have q := fun h => eq_ok (fw Q) (fw P) h
  have q2 := fun h => eqb_rows2 h (fw Q) (fw P)
  have q3 : ∀ h, Pg.f_Pool_eq [plD [], plD []] h = .ok (.bl true) h := fun h => eq_ok [] [] h
  have bb : (decide (fw Q = fw P) == decide (fw Q = fw P)) = true := by simp
  obtain ⟨s', h', e, y5, rfl, rfl⟩ := forR (g := gNm 5) (b := L_law_1) (fun _ s h' => ∃ y5, s = [some (.fz (ns.map .int)), some (.int a), some (.ref h.n), some (rowsD P), some (plD (fw P)), y5, x6, x7] ∧ h' = h.new (bagO β1)) (lo := 0) (hi := 2) (by decide)
    (s := [some (.fz (ns.map .int)), some (.int a), some (.ref h.n), some (rowsD P), some (plD (fw P)), x5, x6, x7]) (h := h.new (bagO β1)) ⟨_, rfl, rfl⟩ (fun i s h' i0 i1 ⟨y5, es, eh⟩ => by
      subst es eh
      refine ⟨_, _, [some (.fz (ns.map .int)), some (.int a), some (.ref h.n), some (rowsD P), some (plD (fw P)), some (.int i), x6, x7], h.new (bagO β1), rfl, .inl ?_, _, rfl, rfl⟩
      simp (disch := omega) only [fnM, eVar, eC, eBin, eUn, aNil, aCons, eTup, eLst, eLstN, eFn, eIf, eFld, eCall, eMeth, eMake, insOf, tst, tstB, MP.tAnd, MP.tOr, MP.tNot, eAnd, eOr, eNot, eChain, truth, optR, Res.bind, Res.bindS, sNil, sSeq, sExp, sRet, sRetN, sIf, sAsg, sSet, sPar, MP.sFld, MP.sFldAug, sFor, nxO, gNm, gFld, gIx, setIx, setFld, gsNil, gsCons, gTp, gLs, MP.iRng1, MP.iRng2, iSeq, iLst, MP.iTup, seqL, seqM, seqT, seqX, eIsi, tyName, isi_ii, isi_ib, isi_bi, isi_bb, isi_ni, isi_si, isi_ss, isi_is, isi_tt, isi_ti, isi_li, pAdd, pSub, pMulA_int, pMul_ok, pDiv_ok, pMod_ok, pNeg, pLt, pLe, pGt, pGe, pEq, pNe, pEqB, sEq, pIs, pIsNot, MP.isNon, pIx, fAbs, fMax2, fMin2, fInt, fLen, gSel, pick, AH.put_g, AH.put_n, AH.new_g, AH.new_n, AH.put_put, AH.new_put, List.length_cons, List.length_nil, List.map_cons, List.map_nil, List.cons_append, List.nil_append, List.append_nil, List.replicate, List.getElem?_cons_zero, List.getElem?_cons_succ, List.getElem?_nil, List.set_cons_zero, List.set_cons_succ, List.flatMap_cons, List.flatMap_nil, List.drop_zero, List.drop_succ_cons, List.drop_nil, List.take_succ_cons, List.take_zero, List.take_nil, List.contains_cons, List.contains_nil, Bool.or_false, Bool.or_true, Bool.true_or, Bool.false_or, Bool.and_true, Bool.and_false, Bool.not_true, Bool.not_false, beq_self_eq_true, Nat.reduceAdd, Nat.reduceSub, Nat.reduceLeDiff, Nat.reduceLT, Nat.reduceEqDiff, Nat.reduceBEq, Int.reduceToNat, ↓reduceIte, reduceIte, Bool.false_eq_true, ne_true_f, decide_eq_true_eq, and_self, and_true, true_and, Nat.zero_le, Option.map_some, Option.map_none, Option.bind_some, Int.reduceLT, Int.reduceLE, Int.reduceNeg, decide_true, decide_false, ixN_0, ixN_1, ixN_2, ixN_3, ixN_m1, atI_1, atI_2, atI_3, eq_self, Option.some.injEq, false_and, atI_0, Nat.zero_add, Nat.add_zero, pow10_18, pow10_10, pow10_11, pow10_6, sRaise, sRaise0, sTryO, noEx, fAny, fAll, blsL, compL, wipeD, CT.set, eComp, eCompN, lstOk, fSum, fTuple, fList, sAug, pAddI, pSubI, pIn, pNotIn, inB, MP.iZip, iEnumA, fSortP, fSortSet, eSl, partD, zipD_ints, pairsL_map, eBm, mAppend, List.any_cons, List.any_nil, List.all_cons, List.all_nil, id, List.length_append, List.zip_cons_cons, List.zip_nil_left, List.reverse_cons, List.reverse_nil, eqb_int, eqb_str, eqb_bl, kc0, kc1, kc2, kc3, kc4, kc5, kc6, kc7, kc8, kc9, kc10, kc11, kc12, kc13, kc14, kc15, kc16, kc17, kc18, kc19, kc20, Int.reduceBEq, Int.reduceMul, Int.reduceSub, Pg.Pool_get_kept, Pg.Pool_set_kept, Pg.Pool_put_0, Pg.Pool_no_stretches, Pg.Pool_no___len__, Pg.Pool_no_has, Pg.Pool_no_number_at, Pg.Pool_no_place_of, Pg.Pool_no_first_from, Pg.Pool_no_joined, Pg.Pool_no_met, Pg.Pool_no_without, Pg.Pool_no_dealt, Pg.Pool_no___eq__, Pg.Pool_no___str__, Pg.Pool_no___repr__, L_law_1, r1, a1])
  have hg : -2 ^ 62 ≤ (2 : Int) ∧ (2 : Int) < 2 ^ 62 := by decide
  refine ⟨_, _, [some (.fz (ns.map .int)), some (.int a), some (.ref h.n), some (rowsD P), some (plD (fw P)), y5, some (rowsD Q), some (plD (fw Q))], h.new (bagO β2), rfl, .inl ?_, _, _, _, _, _, _, _, rfl⟩
  simp (disch := omega) only [fnM, eVar, eC, eBin, eUn, aNil, aCons, eTup, eLst, eLstN, eFn, eIf, eFld, eCall, eMeth, eMake, tst, tstB, MP.tAnd, MP.tOr, MP.tNot, eAnd, eOr, eNot, eChain, truth, optR, Res.bind, Res.bindS, sNil, sSeq, sExp, sRet, sRetN, sIf, sAsg, sSet, sPar, MP.sFld, MP.sFldAug, sFor, nxO, gNm, gFld, gIx, setIx, setFld, gsNil, gsCons, gTp, gLs, MP.iRng1, MP.iRng2, iSeq, iLst, MP.iTup, seqL, seqM, seqT, seqX, eIsi, tyName, isi_ii, isi_ib, isi_bi, isi_bb, isi_ni, isi_si, isi_ss, isi_is, isi_tt, isi_ti, isi_li, pAdd, pSub, pMulA_int, pMul_ok, pDiv_ok, pMod_ok, pNeg, pLt, pLe, pGt, pGe, pEq, pNe, sEq, pIs, pIsNot, MP.isNon, pIx, fAbs, fMax2, fMin2, fInt, fLen, gSel, pick, AH.put_g, AH.put_n, AH.new_g, AH.new_n, AH.put_put, AH.new_put, List.length_cons, List.length_nil, List.map_cons, List.map_nil, List.cons_append, List.nil_append, List.append_nil, List.replicate, List.getElem?_cons_zero, List.getElem?_cons_succ, List.getElem?_nil, List.set_cons_zero, List.set_cons_succ, List.flatMap_cons, List.flatMap_nil, List.drop_zero, List.drop_succ_cons, List.drop_nil, List.take_succ_cons, List.take_zero, List.take_nil, List.contains_cons, List.contains_nil, Bool.or_false, Bool.or_true, Bool.true_or, Bool.false_or, Bool.and_true, Bool.and_false, Bool.not_true, Bool.not_false, beq_self_eq_true, Nat.reduceAdd, Nat.reduceSub, Nat.reduceLeDiff, Nat.reduceLT, Nat.reduceEqDiff, Nat.reduceBEq, Int.reduceToNat, ↓reduceIte, reduceIte, Bool.false_eq_true, ne_true_f, decide_eq_true_eq, and_self, and_true, true_and, Nat.zero_le, Option.map_some, Option.map_none, Option.bind_some, Int.reduceLT, Int.reduceLE, Int.reduceNeg, decide_true, decide_false, ixN_0, ixN_1, ixN_2, ixN_3, ixN_m1, atI_1, atI_2, atI_3, eq_self, Option.some.injEq, false_and, atI_0, Nat.zero_add, Nat.add_zero, pow10_18, pow10_10, pow10_11, pow10_6, sRaise, sRaise0, sTryO, noEx, fAny, fAll, blsL, compL, wipeD, CT.set, eComp, eCompN, lstOk, fSum, fTuple, fList, sAug, pAddI, pSubI, pIn, pNotIn, inB, MP.iZip, iEnumA, fSortP, fSortSet, eSl, partD, zipD_ints, pairsL_map, eBm, mAppend, List.any_cons, List.any_nil, List.all_cons, List.all_nil, id, List.length_append, List.zip_cons_cons, List.zip_nil_left, List.reverse_cons, List.reverse_nil, eqb_int, eqb_str, eqb_bl, kc0, kc1, kc2, kc3, kc4, kc5, kc6, kc7, kc8, kc9, kc10, kc11, kc12, kc13, kc14, kc15, kc16, kc17, kc18, kc19, kc20, Int.reduceBEq, Int.reduceMul, Int.reduceSub, Pg.Pool_get_kept, Pg.Pool_set_kept, Pg.Pool_put_0, Pg.Pool_no_stretches, Pg.Pool_no___len__, Pg.Pool_no_has, Pg.Pool_no_number_at, Pg.Pool_no_place_of, Pg.Pool_no_first_from, Pg.Pool_no_joined, Pg.Pool_no_met, Pg.Pool_no_without, Pg.Pool_no_dealt, Pg.Pool_no___eq__, Pg.Pool_no___str__, Pg.Pool_no___repr__, L_law_8, e_bag, tb, R_law_1_1, k1, R_law_1_2, m1, g1, R_law_1_3, hg, e, R_law_1_4, k2, R_law_1_5, m2, g2, R_law_1_6, isIns, eAlt, tAlt, eOwn, kept_is, q, w1, w2, q2, bb, r1, r2, m3, r3, q3]
theorem law_true : LawTrue f_law := by
  intro ns hns
  have hm : 0 ≤ (if (if (ns.length : Int) < 4 then (ns.length : Int) else 4) > 1 then (if (ns.length : Int) < 4 then (ns.length : Int) else 4) else 1) ∧ (if (if (ns.length : Int) < 4 then (ns.length : Int) else 4) > 1 then (if (ns.length : Int) < 4 then (ns.length : Int) else 4) else 1) ≤ 4 := by
    split <;> split <;> omega
  obtain ⟨s', h', e, x1, x2, x3, x4, x5, x6, x7, rfl⟩ := forR (g := gNm 1) (b := L_law_8) (fun _ s _ => ∃ x1 x2 x3 x4 x5 x6 x7, s = [some (.fz (ns.map .int)), x1, x2, x3, x4, x5, x6, x7])
    (s := [some (.fz (ns.map .int)), none, none, none, none, none, none, none]) (h := ah0) hm.1 ⟨_, _, _, _, _, _, _, rfl⟩ (fun i s h i0 i1 P => round_ok ns i i0 (by omega) s h P)
  have hg := rngG hm.1 (by omega)
  refine law_gc ?_
  refine ⟨h', ?_⟩
  simp (disch := omega) only [fnM, eVar, eC, eBin, eUn, aNil, aCons, eTup, eLst, eLstN, eFn, eIf, eFld, eCall, eMeth, eMake, insOf, tst, tstB, MP.tAnd, MP.tOr, MP.tNot, eAnd, eOr, eNot, eChain, truth, optR, Res.bind, Res.bindS, sNil, sSeq, sExp, sRet, sRetN, sIf, sAsg, sSet, sPar, MP.sFld, MP.sFldAug, sFor, nxO, gNm, gFld, gIx, setIx, setFld, gsNil, gsCons, gTp, gLs, MP.iRng1, MP.iRng2, iSeq, iLst, MP.iTup, seqL, seqM, seqT, seqX, eIsi, tyName, isi_ii, isi_ib, isi_bi, isi_bb, isi_ni, isi_si, isi_ss, isi_is, isi_tt, isi_ti, isi_li, pAdd, pSub, pMulA_int, pMul_ok, pDiv_ok, pMod_ok, pNeg, pLt, pLe, pGt, pGe, pEq, pNe, pEqB, sEq, pIs, pIsNot, MP.isNon, pIx, fAbs, fMax2, fMin2, fInt, fLen, gSel, pick, AH.put_g, AH.put_n, AH.new_g, AH.new_n, AH.put_put, AH.new_put, List.length_cons, List.length_nil, List.map_cons, List.map_nil, List.cons_append, List.nil_append, List.append_nil, List.replicate, List.getElem?_cons_zero, List.getElem?_cons_succ, List.getElem?_nil, List.set_cons_zero, List.set_cons_succ, List.flatMap_cons, List.flatMap_nil, List.drop_zero, List.drop_succ_cons, List.drop_nil, List.take_succ_cons, List.take_zero, List.take_nil, List.contains_cons, List.contains_nil, Bool.or_false, Bool.or_true, Bool.true_or, Bool.false_or, Bool.and_true, Bool.and_false, Bool.not_true, Bool.not_false, beq_self_eq_true, Nat.reduceAdd, Nat.reduceSub, Nat.reduceLeDiff, Nat.reduceLT, Nat.reduceEqDiff, Nat.reduceBEq, Int.reduceToNat, ↓reduceIte, reduceIte, Bool.false_eq_true, ne_true_f, decide_eq_true_eq, and_self, and_true, true_and, Nat.zero_le, Option.map_some, Option.map_none, Option.bind_some, Int.reduceLT, Int.reduceLE, Int.reduceNeg, decide_true, decide_false, ixN_0, ixN_1, ixN_2, ixN_3, ixN_m1, atI_1, atI_2, atI_3, eq_self, Option.some.injEq, false_and, atI_0, Nat.zero_add, Nat.add_zero, pow10_18, pow10_10, pow10_11, pow10_6, sRaise, sRaise0, sTryO, noEx, fAny, fAll, blsL, compL, wipeD, CT.set, eComp, eCompN, lstOk, fSum, fTuple, fList, sAug, pAddI, pSubI, pIn, pNotIn, inB, MP.iZip, iEnumA, fSortP, fSortSet, eSl, partD, zipD_ints, pairsL_map, eBm, mAppend, List.any_cons, List.any_nil, List.all_cons, List.all_nil, id, List.length_append, List.zip_cons_cons, List.zip_nil_left, List.reverse_cons, List.reverse_nil, eqb_int, eqb_str, eqb_bl, kc0, kc1, kc2, kc3, kc4, kc5, kc6, kc7, kc8, kc9, kc10, kc11, kc12, kc13, kc14, kc15, kc16, kc17, kc18, kc19, kc20, Int.reduceBEq, Int.reduceMul, Int.reduceSub, Pg.Pool_get_kept, Pg.Pool_set_kept, Pg.Pool_put_0, Pg.Pool_no_stretches, Pg.Pool_no___len__, Pg.Pool_no_has, Pg.Pool_no_number_at, Pg.Pool_no_place_of, Pg.Pool_no_first_from, Pg.Pool_no_joined, Pg.Pool_no_met, Pg.Pool_no_without, Pg.Pool_no_dealt, Pg.Pool_no___eq__, Pg.Pool_no___str__, Pg.Pool_no___repr__, b_law, hg, List.length_map, e]
end K01
set_option Elab.async false
set_option linter.all false
set_option maxRecDepth 100000
set_option maxHeartbeats 4000000
namespace V01
open PySem PySem.Spec L2 MP
open PyProof.Rows hiding St
def top (i : Nat) : Stmt := PySem.Challenge.pw_leasepair_k01_pools_made.main.body.getD i (.Pass ⟨0, 0, 0, 0⟩)
abbrev s_law_bag : Stmt := top 15
abbrev N_law_bag : List Str := ["_law_script", "_law_at", "_law_cell"]
theorem sc_law_bag : FnScope N_law_bag ["_law_script", "_law_at"] (defScope s_law_bag) := ⟨rfl, rfl, rfl, by decide +kernel, rfl, by decide +kernel, by decide +kernel⟩
abbrev s_law_take : Stmt := top 16
abbrev N_law_take : List Str := ["_law_bag_here", "_law_many", "_law_digit", "_law_primes", "_law_step", "_law_base", "_law_here"]
theorem sc_law_take : FnScope N_law_take ["_law_bag_here", "_law_many"] (defScope s_law_take) := ⟨rfl, rfl, rfl, by decide +kernel, rfl, by decide +kernel, by decide +kernel⟩
abbrev s_law_stretches : Stmt := top 19
abbrev N_law_stretches : List Str := ["_law_bag_here", "_law_most", "_law_wide", "_law_long", "_law_found", "_law_turn", "_law_begin"]
theorem sc_law_stretches : FnScope N_law_stretches ["_law_bag_here", "_law_most"] (defScope s_law_stretches) := ⟨rfl, rfl, rfl, by decide +kernel, rfl, by decide +kernel, by decide +kernel⟩
abbrev s_NoPool_init : Stmt := inClass (top 2) 0
abbrev N_NoPool_init : List Str := ["self", "at"]
theorem sc_NoPool_init : FnScope N_NoPool_init ["self", "at"] (defScope s_NoPool_init) := ⟨rfl, rfl, rfl, by decide +kernel, rfl, by decide +kernel, by decide +kernel⟩
abbrev s_is_whole : Stmt := top 4
abbrev N_is_whole : List Str := ["thing"]
theorem sc_is_whole : FnScope N_is_whole ["thing"] (defScope s_is_whole) := ⟨rfl, rfl, rfl, by decide +kernel, rfl, by decide +kernel, by decide +kernel⟩
abbrev s_is_within : Stmt := top 5
abbrev N_is_within : List Str := ["thing", "least", "most"]
theorem sc_is_within : FnScope N_is_within ["thing", "least", "most"] (defScope s_is_within) := ⟨rfl, rfl, rfl, by decide +kernel, rfl, by decide +kernel, by decide +kernel⟩
abbrev s_is_stretch : Stmt := top 9
abbrev N_is_stretch : List Str := ["thing", "number"]
theorem sc_is_stretch : FnScope N_is_stretch ["thing"] (defScope s_is_stretch) := ⟨rfl, rfl, rfl, by decide +kernel, rfl, by decide +kernel, by decide +kernel⟩
abbrev s_look_stretches : Stmt := top 10
abbrev N_look_stretches : List Str := ["thing", "at", "pair"]
theorem sc_look_stretches : FnScope N_look_stretches ["thing"] (defScope s_look_stretches) := ⟨rfl, rfl, rfl, by decide +kernel, rfl, by decide +kernel, by decide +kernel⟩
abbrev s_fewest : Stmt := top 11
abbrev N_fewest : List Str := ["stretches", "found", "low", "high"]
theorem sc_fewest : FnScope N_fewest ["stretches"] (defScope s_fewest) := ⟨rfl, rfl, rfl, by decide +kernel, rfl, by decide +kernel, by decide +kernel⟩
abbrev s_Pool_init : Stmt := inClass (top 12) 0
abbrev N_Pool_init : List Str := ["self", "stretches"]
theorem sc_Pool_init : FnScope N_Pool_init ["self", "stretches"] (defScope s_Pool_init) := ⟨rfl, rfl, rfl, by decide +kernel, rfl, by decide +kernel, by decide +kernel⟩
abbrev s_law_has : Stmt := top 17
abbrev N_law_has : List Str := ["_law_rows", "_law_number", "_law_begin", "_law_end"]
theorem sc_law_has : FnScope N_law_has ["_law_rows", "_law_number"] (defScope s_law_has) := ⟨rfl, rfl, rfl, by decide +kernel, rfl, by decide +kernel, by decide +kernel⟩
abbrev s_law_fewest : Stmt := top 18
abbrev N_law_fewest : List Str := ["_law_rows", "_law_lows", "_law_highs", "_law_begin", "_law_end"]
theorem sc_law_fewest : FnScope N_law_fewest ["_law_rows"] (defScope s_law_fewest) := ⟨rfl, rfl, rfl, by decide +kernel, rfl, by decide +kernel, by decide +kernel⟩
abbrev s_Pool_stretches : Stmt := inClass (top 12) 1
abbrev N_Pool_stretches : List Str := ["self"]
theorem sc_Pool_stretches : FnScope N_Pool_stretches ["self"] (defScope s_Pool_stretches) := ⟨rfl, rfl, rfl, by decide +kernel, rfl, by decide +kernel, by decide +kernel⟩
abbrev s_law_same : Stmt := top 20
abbrev N_law_same : List Str := ["_law_here", "_law_there", "_law_a", "_law_b"]
theorem sc_law_same : FnScope N_law_same ["_law_here", "_law_there"] (defScope s_law_same) := ⟨rfl, rfl, rfl, by decide +kernel, rfl, by decide +kernel, by decide +kernel⟩
abbrev s_Pool_len : Stmt := inClass (top 12) 2
abbrev N_Pool_len : List Str := ["self", "low", "high"]
theorem sc_Pool_len : FnScope N_Pool_len ["self"] (defScope s_Pool_len) := ⟨rfl, rfl, rfl, by decide +kernel, rfl, by decide +kernel, by decide +kernel⟩
abbrev s_Pool_has : Stmt := inClass (top 12) 3
abbrev N_Pool_has : List Str := ["self", "number", "low", "high"]
theorem sc_Pool_has : FnScope N_Pool_has ["self", "number"] (defScope s_Pool_has) := ⟨rfl, rfl, rfl, by decide +kernel, rfl, by decide +kernel, by decide +kernel⟩
abbrev s_law_right : Stmt := top 22
abbrev N_law_right : List Str := ["_law_rows", "_law_pool", "_law_due", "_law_many", "_law_begin", "_law_end", "_law_number", "_law_told"]
theorem sc_law_right : FnScope N_law_right ["_law_rows", "_law_pool"] (defScope s_law_right) := ⟨rfl, rfl, rfl, by decide +kernel, rfl, by decide +kernel, by decide +kernel⟩
abbrev s_Pool_eq : Stmt := inClass (top 12) 11
abbrev N_Pool_eq : List Str := ["self", "other"]
theorem sc_Pool_eq : FnScope N_Pool_eq ["self", "other"] (defScope s_Pool_eq) := ⟨rfl, rfl, rfl, by decide +kernel, rfl, by decide +kernel, by decide +kernel⟩
abbrev s_Pool_repr : Stmt := inClass (top 12) 13
abbrev N_Pool_repr : List Str := ["self"]
theorem sc_Pool_repr : FnScope N_Pool_repr ["self"] (defScope s_Pool_repr) := ⟨rfl, rfl, rfl, by decide +kernel, rfl, by decide +kernel, by decide +kernel⟩
abbrev s_law_alike : Stmt := top 23
abbrev N_law_alike : List Str := ["_law_pool", "_law_rows", "_law_shortest", "_law_free", "_law_number"]
theorem sc_law_alike : FnScope N_law_alike ["_law_pool", "_law_rows"] (defScope s_law_alike) := ⟨rfl, rfl, rfl, by decide +kernel, rfl, by decide +kernel, by decide +kernel⟩
abbrev s_law : Stmt := top 24
abbrev N_law : List Str := ["_law_script", "_law_at", "_law_bag_here", "_law_rows", "_law_pool", "_law_turn", "_law_other", "_law_second"]
theorem sc_law : FnScope N_law ["_law_script"] (defScope s_law) := ⟨rfl, rfl, rfl, by decide +kernel, rfl, by decide +kernel, by decide +kernel⟩
def d_law_bag : He.DefD := ⟨("_law_bag", none), "_law_bag", "_law_bag", defArgs s_law_bag, defBody s_law_bag, defScope s_law_bag, [], []⟩
def d_law_take : He.DefD := ⟨("_law_take", none), "_law_take", "_law_take", defArgs s_law_take, defBody s_law_take, defScope s_law_take, [], []⟩
def d_law_stretches : He.DefD := ⟨("_law_stretches", none), "_law_stretches", "_law_stretches", defArgs s_law_stretches, defBody s_law_stretches, defScope s_law_stretches, [], []⟩
def d_NoPool_init : He.DefD := ⟨("NoPool", some "__init__"), "__init__", "NoPool.__init__", defArgs s_NoPool_init, defBody s_NoPool_init, defScope s_NoPool_init, [], []⟩
def d_is_whole : He.DefD := ⟨("is_whole", none), "is_whole", "is_whole", defArgs s_is_whole, defBody s_is_whole, defScope s_is_whole, [], []⟩
def d_is_within : He.DefD := ⟨("is_within", none), "is_within", "is_within", defArgs s_is_within, defBody s_is_within, defScope s_is_within, [], []⟩
def d_is_stretch : He.DefD := ⟨("is_stretch", none), "is_stretch", "is_stretch", defArgs s_is_stretch, defBody s_is_stretch, defScope s_is_stretch, [], []⟩
def d_look_stretches : He.DefD := ⟨("look_stretches", none), "look_stretches", "look_stretches", defArgs s_look_stretches, defBody s_look_stretches, defScope s_look_stretches, [], []⟩
def d_fewest : He.DefD := ⟨("fewest", none), "fewest", "fewest", defArgs s_fewest, defBody s_fewest, defScope s_fewest, [], []⟩
def d_Pool_init : He.DefD := ⟨("Pool", some "__init__"), "__init__", "Pool.__init__", defArgs s_Pool_init, defBody s_Pool_init, defScope s_Pool_init, [.adr (He.dflAt ("Pool", some "__init__") 0)], []⟩
def d_law_has : He.DefD := ⟨("_law_has", none), "_law_has", "_law_has", defArgs s_law_has, defBody s_law_has, defScope s_law_has, [], []⟩
def d_law_fewest : He.DefD := ⟨("_law_fewest", none), "_law_fewest", "_law_fewest", defArgs s_law_fewest, defBody s_law_fewest, defScope s_law_fewest, [], []⟩
def d_Pool_stretches : He.DefD := ⟨("Pool", some "stretches"), "stretches", "Pool.stretches", defArgs s_Pool_stretches, defBody s_Pool_stretches, defScope s_Pool_stretches, [], []⟩
def d_law_same : He.DefD := ⟨("_law_same", none), "_law_same", "_law_same", defArgs s_law_same, defBody s_law_same, defScope s_law_same, [], []⟩
def d_Pool_len : He.DefD := ⟨("Pool", some "__len__"), "__len__", "Pool.__len__", defArgs s_Pool_len, defBody s_Pool_len, defScope s_Pool_len, [], []⟩
def d_Pool_has : He.DefD := ⟨("Pool", some "has"), "has", "Pool.has", defArgs s_Pool_has, defBody s_Pool_has, defScope s_Pool_has, [], []⟩
def d_law_right : He.DefD := ⟨("_law_right", none), "_law_right", "_law_right", defArgs s_law_right, defBody s_law_right, defScope s_law_right, [], []⟩
def d_Pool_eq : He.DefD := ⟨("Pool", some "__eq__"), "__eq__", "Pool.__eq__", defArgs s_Pool_eq, defBody s_Pool_eq, defScope s_Pool_eq, [], []⟩
def d_Pool_repr : He.DefD := ⟨("Pool", some "__repr__"), "__repr__", "Pool.__repr__", defArgs s_Pool_repr, defBody s_Pool_repr, defScope s_Pool_repr, [], []⟩
def d_law_alike : He.DefD := ⟨("_law_alike", none), "_law_alike", "_law_alike", defArgs s_law_alike, defBody s_law_alike, defScope s_law_alike, [], []⟩
def d_law : He.DefD := ⟨("law", none), "law", "law", defArgs s_law, defBody s_law, defScope s_law, [], []⟩
def fns : List He.DefD := [d_law_bag, d_law_take, d_law_stretches, d_NoPool_init, d_is_whole, d_is_within, d_is_stretch, d_look_stretches, d_fewest, d_Pool_init, d_law_has, d_law_fewest, d_Pool_stretches, d_law_same, d_Pool_len, d_Pool_has, d_law_right, d_Pool_eq, d_Pool_repr, d_law_alike, d_law]
def fa : List He.Fa := [.free "len", .free "min", .free "max", .free "range", .glo "_law_bag", .glo "_law_stretches", .mkr "Pool", .glo "Pool", .glo "_law_right", .glo "_law_alike", .meth "Pool" "__eq__", .glo "_law_fewest", .cls "Pool", .free "isinstance", .noat "Pool" "kept", .meth "Pool" "stretches", .glo "look_stretches", .glo "fewest", .free "sorted", .free "tuple", .int "MOST_STRETCHES" 20, .glo "NoPool", .free "enumerate", .glo "is_stretch", .int "MOST_NUMBER" 999999, .glo "is_within", .free "all", .glo "is_whole", .free "int", .free "bool", .free "sum", .glo "_law_same", .meth "Pool" "__len__", .meth "Pool" "has", .glo "_law_has", .free "any", .free "list", .free "zip", .free "set", .glo "_law_take", .meth "Pool" "__repr__", .free "repr", .free "abs", .glo "law"]
def xa : List XFa := [.tup0 (He.dflAt ("Pool", some "__init__") 0), .any (fun K => nzB (He.ga K "Pool")), .any (fun K => subB K (He.ga K "Pool")), .any (fun K => iscB K (He.ga K "Pool")), .ini "NoPool", .any (fun K => nzB (He.ga K "NoPool")), .xk "NoPool" "ValueError.__new__" [.type "ValueError", .type "Exception", .type "BaseException", .type "object"], .any (fun K => neB K (He.ga K "Pool")), .tk "NoPool" "at"]
def Tc (K : PySem.W.Frag) : Nat → Addr
  | 0 => He.ga K "NoPool"
  | 18 => He.ga K "Pool"
  | _ => 0
structure Ctx (K : PySem.W.Frag) (mg : Str → Option Value) : Prop where
  c : He.SaysD fa fns K
  x : xAll xa K = true
  h : ∃ hp : Heap, K.In hp ∧ hp.Ns mainGlobals mg
section
variable {P : Program} {w : World} {K : PySem.W.Frag} {mg : Str → Option Value} {base : Heap}
noncomputable abbrev Ctx.hp (z : Ctx K mg) : Heap := z.h.choose
theorem Ctx.k (z : Ctx K mg) : K.In z.hp := z.h.choose_spec.1
theorem Ctx.n (z : Ctx K mg) : z.hp.Ns mainGlobals mg := z.h.choose_spec.2
theorem Ctx.f_kept (z : Ctx K mg) : FldOk K (Tc K) [18] "kept" := fun k hk => by
  obtain ⟨hk, hn⟩ := hk
  simp only [List.contains_cons, List.contains_nil, Bool.or_false, Bool.or_eq_true, beq_iff_eq] at hk
  subst hk; exact ⟨(He.cls_ok (z.c.fact 12)), (He.noat_ok (z.c.fact 14))⟩
noncomputable abbrev fd_law_bag (z : Ctx K mg) : FuncData := (z.c.def_ 0 (d := d_law_bag) rfl).choose
theorem fS_law_bag (z : Ctx K mg) : FunD K "_law_bag" "_law_bag" (defArgs s_law_bag) (defBody s_law_bag) (defScope s_law_bag) [] [] (He.fAd K ("_law_bag", none)) (fd_law_bag z) := (z.c.def_ 0 (d := d_law_bag) rfl).choose_spec
noncomputable abbrev fd_law_take (z : Ctx K mg) : FuncData := (z.c.def_ 1 (d := d_law_take) rfl).choose
theorem fS_law_take (z : Ctx K mg) : FunD K "_law_take" "_law_take" (defArgs s_law_take) (defBody s_law_take) (defScope s_law_take) [] [] (He.fAd K ("_law_take", none)) (fd_law_take z) := (z.c.def_ 1 (d := d_law_take) rfl).choose_spec
noncomputable abbrev fd_law_stretches (z : Ctx K mg) : FuncData := (z.c.def_ 2 (d := d_law_stretches) rfl).choose
theorem fS_law_stretches (z : Ctx K mg) : FunD K "_law_stretches" "_law_stretches" (defArgs s_law_stretches) (defBody s_law_stretches) (defScope s_law_stretches) [] [] (He.fAd K ("_law_stretches", none)) (fd_law_stretches z) := (z.c.def_ 2 (d := d_law_stretches) rfl).choose_spec
noncomputable abbrev fd_NoPool_init (z : Ctx K mg) : FuncData := (z.c.def_ 3 (d := d_NoPool_init) rfl).choose
theorem fS_NoPool_init (z : Ctx K mg) : FunD K "__init__" "NoPool.__init__" (defArgs s_NoPool_init) (defBody s_NoPool_init) (defScope s_NoPool_init) [] [] (He.fAd K ("NoPool", some "__init__")) (fd_NoPool_init z) := (z.c.def_ 3 (d := d_NoPool_init) rfl).choose_spec
noncomputable abbrev fd_is_whole (z : Ctx K mg) : FuncData := (z.c.def_ 4 (d := d_is_whole) rfl).choose
theorem fS_is_whole (z : Ctx K mg) : FunD K "is_whole" "is_whole" (defArgs s_is_whole) (defBody s_is_whole) (defScope s_is_whole) [] [] (He.fAd K ("is_whole", none)) (fd_is_whole z) := (z.c.def_ 4 (d := d_is_whole) rfl).choose_spec
noncomputable abbrev fd_is_within (z : Ctx K mg) : FuncData := (z.c.def_ 5 (d := d_is_within) rfl).choose
theorem fS_is_within (z : Ctx K mg) : FunD K "is_within" "is_within" (defArgs s_is_within) (defBody s_is_within) (defScope s_is_within) [] [] (He.fAd K ("is_within", none)) (fd_is_within z) := (z.c.def_ 5 (d := d_is_within) rfl).choose_spec
noncomputable abbrev fd_is_stretch (z : Ctx K mg) : FuncData := (z.c.def_ 6 (d := d_is_stretch) rfl).choose
theorem fS_is_stretch (z : Ctx K mg) : FunD K "is_stretch" "is_stretch" (defArgs s_is_stretch) (defBody s_is_stretch) (defScope s_is_stretch) [] [] (He.fAd K ("is_stretch", none)) (fd_is_stretch z) := (z.c.def_ 6 (d := d_is_stretch) rfl).choose_spec
noncomputable abbrev fd_look_stretches (z : Ctx K mg) : FuncData := (z.c.def_ 7 (d := d_look_stretches) rfl).choose
theorem fS_look_stretches (z : Ctx K mg) : FunD K "look_stretches" "look_stretches" (defArgs s_look_stretches) (defBody s_look_stretches) (defScope s_look_stretches) [] [] (He.fAd K ("look_stretches", none)) (fd_look_stretches z) := (z.c.def_ 7 (d := d_look_stretches) rfl).choose_spec
noncomputable abbrev fd_fewest (z : Ctx K mg) : FuncData := (z.c.def_ 8 (d := d_fewest) rfl).choose
theorem fS_fewest (z : Ctx K mg) : FunD K "fewest" "fewest" (defArgs s_fewest) (defBody s_fewest) (defScope s_fewest) [] [] (He.fAd K ("fewest", none)) (fd_fewest z) := (z.c.def_ 8 (d := d_fewest) rfl).choose_spec
noncomputable abbrev fd_Pool_init (z : Ctx K mg) : FuncData := (z.c.def_ 9 (d := d_Pool_init) rfl).choose
theorem fS_Pool_init (z : Ctx K mg) : FunD K "__init__" "Pool.__init__" (defArgs s_Pool_init) (defBody s_Pool_init) (defScope s_Pool_init) [.ref (He.dflAt ("Pool", some "__init__") 0 K)] [] (He.fAd K ("Pool", some "__init__")) (fd_Pool_init z) := (z.c.def_ 9 (d := d_Pool_init) rfl).choose_spec
noncomputable abbrev fd_law_has (z : Ctx K mg) : FuncData := (z.c.def_ 10 (d := d_law_has) rfl).choose
theorem fS_law_has (z : Ctx K mg) : FunD K "_law_has" "_law_has" (defArgs s_law_has) (defBody s_law_has) (defScope s_law_has) [] [] (He.fAd K ("_law_has", none)) (fd_law_has z) := (z.c.def_ 10 (d := d_law_has) rfl).choose_spec
noncomputable abbrev fd_law_fewest (z : Ctx K mg) : FuncData := (z.c.def_ 11 (d := d_law_fewest) rfl).choose
theorem fS_law_fewest (z : Ctx K mg) : FunD K "_law_fewest" "_law_fewest" (defArgs s_law_fewest) (defBody s_law_fewest) (defScope s_law_fewest) [] [] (He.fAd K ("_law_fewest", none)) (fd_law_fewest z) := (z.c.def_ 11 (d := d_law_fewest) rfl).choose_spec
noncomputable abbrev fd_Pool_stretches (z : Ctx K mg) : FuncData := (z.c.def_ 12 (d := d_Pool_stretches) rfl).choose
theorem fS_Pool_stretches (z : Ctx K mg) : FunD K "stretches" "Pool.stretches" (defArgs s_Pool_stretches) (defBody s_Pool_stretches) (defScope s_Pool_stretches) [] [] (He.fAd K ("Pool", some "stretches")) (fd_Pool_stretches z) := (z.c.def_ 12 (d := d_Pool_stretches) rfl).choose_spec
noncomputable abbrev fd_law_same (z : Ctx K mg) : FuncData := (z.c.def_ 13 (d := d_law_same) rfl).choose
theorem fS_law_same (z : Ctx K mg) : FunD K "_law_same" "_law_same" (defArgs s_law_same) (defBody s_law_same) (defScope s_law_same) [] [] (He.fAd K ("_law_same", none)) (fd_law_same z) := (z.c.def_ 13 (d := d_law_same) rfl).choose_spec
noncomputable abbrev fd_Pool_len (z : Ctx K mg) : FuncData := (z.c.def_ 14 (d := d_Pool_len) rfl).choose
theorem fS_Pool_len (z : Ctx K mg) : FunD K "__len__" "Pool.__len__" (defArgs s_Pool_len) (defBody s_Pool_len) (defScope s_Pool_len) [] [] (He.fAd K ("Pool", some "__len__")) (fd_Pool_len z) := (z.c.def_ 14 (d := d_Pool_len) rfl).choose_spec
noncomputable abbrev fd_Pool_has (z : Ctx K mg) : FuncData := (z.c.def_ 15 (d := d_Pool_has) rfl).choose
theorem fS_Pool_has (z : Ctx K mg) : FunD K "has" "Pool.has" (defArgs s_Pool_has) (defBody s_Pool_has) (defScope s_Pool_has) [] [] (He.fAd K ("Pool", some "has")) (fd_Pool_has z) := (z.c.def_ 15 (d := d_Pool_has) rfl).choose_spec
noncomputable abbrev fd_law_right (z : Ctx K mg) : FuncData := (z.c.def_ 16 (d := d_law_right) rfl).choose
theorem fS_law_right (z : Ctx K mg) : FunD K "_law_right" "_law_right" (defArgs s_law_right) (defBody s_law_right) (defScope s_law_right) [] [] (He.fAd K ("_law_right", none)) (fd_law_right z) := (z.c.def_ 16 (d := d_law_right) rfl).choose_spec
noncomputable abbrev fd_Pool_eq (z : Ctx K mg) : FuncData := (z.c.def_ 17 (d := d_Pool_eq) rfl).choose
theorem fS_Pool_eq (z : Ctx K mg) : FunD K "__eq__" "Pool.__eq__" (defArgs s_Pool_eq) (defBody s_Pool_eq) (defScope s_Pool_eq) [] [] (He.fAd K ("Pool", some "__eq__")) (fd_Pool_eq z) := (z.c.def_ 17 (d := d_Pool_eq) rfl).choose_spec
noncomputable abbrev fd_Pool_repr (z : Ctx K mg) : FuncData := (z.c.def_ 18 (d := d_Pool_repr) rfl).choose
theorem fS_Pool_repr (z : Ctx K mg) : FunD K "__repr__" "Pool.__repr__" (defArgs s_Pool_repr) (defBody s_Pool_repr) (defScope s_Pool_repr) [] [] (He.fAd K ("Pool", some "__repr__")) (fd_Pool_repr z) := (z.c.def_ 18 (d := d_Pool_repr) rfl).choose_spec
noncomputable abbrev fd_law_alike (z : Ctx K mg) : FuncData := (z.c.def_ 19 (d := d_law_alike) rfl).choose
theorem fS_law_alike (z : Ctx K mg) : FunD K "_law_alike" "_law_alike" (defArgs s_law_alike) (defBody s_law_alike) (defScope s_law_alike) [] [] (He.fAd K ("_law_alike", none)) (fd_law_alike z) := (z.c.def_ 19 (d := d_law_alike) rfl).choose_spec
noncomputable abbrev fd_law (z : Ctx K mg) : FuncData := (z.c.def_ 20 (d := d_law) rfl).choose
theorem fS_law (z : Ctx K mg) : FunD K "law" "law" (defArgs s_law) (defBody s_law) (defScope s_law) [] [] (He.fAd K ("law", none)) (fd_law z) := (z.c.def_ 20 (d := d_law) rfl).choose_spec
theorem bd_law_bag_2 (z : Ctx K mg) : Bd K (fd_law_bag z) ["_law_script", "_law_at"] 2 [] [(.us, 0), (.us, 1)] [] [] := by
  exact bd_n (fS_law_bag z) fun _ _ _ _ _ _ us ws h1 h2 => match us, ws, h1, h2 with | [_, _], [], _, _ => rfl
theorem ok_law_bag (z : Ctx K mg) : Fn P w K (Tc K) mg base 1 (He.fAd K ("_law_bag", none)) (fd_law_bag z) ["_law_script", "_law_at"] K01.f_law_bag :=
  Fn.ofG (N := N_law_bag) (b := K01.b_law_bag) (fS_law_bag z) sc_law_bag fun cdv A outer s H E hr => by
    have sc := sc_law_bag
    have tk : Takes (cxOf (L2.CX P w) P w K mg base N_law_bag "_law_bag" (defScope s_law_bag) (He.fAd K ("_law_bag", none)) cdv A outer s H E) (fun cls d _ H' => E cls d H') := takes_of rfl rfl rfl rfl
    unfold K01.b_law_bag
    exact s_cons (s_set (i := 2) sc.nd (r_op o_add g_add (r_op o_mulA g_mulA (r_int) (r_var 1)) (r_int))) (s_cons (s_if (t_cmp op_lt g_lt (r_var 1) (r_fn c_len n_len (He.free_ok z.k z.n (z.c.fact 0)) (PySem.boot_len) (r_cons (r_var 0) (r_nil))) (nomark _)) (s_one (s_set (i := 2) sc.nd (r_ix (r_var 0) (r_var 1)))) (s_nil)) (s_one (s_ret (r_lstN (r_cons (r_op o_mulA g_mulA (r_fn call_abs n_abs (He.free_ok z.k z.n (z.c.fact 42)) (boot_abs) (r_cons (r_var 2) (r_nil))) (r_ty call_int1 n_int (He.free_ok z.k z.n (z.c.fact 28)) (boot_int) (r_cons (r_cmp op_ge g_ge (r_fn call_abs n_abs (He.free_ok z.k z.n (z.c.fact 42)) (boot_abs) (r_cons (r_var 2) (r_nil))) (r_op op_pow2 g_pow (r_int) (r_int)) (nomark _)) (r_nil)))) (r_cons (r_op o_add g_add (r_op op_mod g_mod (r_var 2) (r_int)) (r_op o_mulA g_mulA (r_int) (r_var 1))) (r_cons (r_int) (r_nil))))))))
theorem bd_law_take_2 (z : Ctx K mg) : Bd K (fd_law_take z) ["_law_bag_here", "_law_many"] 2 [] [(.us, 0), (.us, 1)] [] [] := by
  exact bd_n (fS_law_take z) fun _ _ _ _ _ _ us ws h1 h2 => match us, ws, h1, h2 with | [_, _], [], _, _ => rfl
theorem ok_law_take (z : Ctx K mg) : Fn P w K (Tc K) mg base 1 (He.fAd K ("_law_take", none)) (fd_law_take z) ["_law_bag_here", "_law_many"] K01.f_law_take :=
  Fn.ofG (N := N_law_take) (b := K01.b_law_take) (fS_law_take z) sc_law_take fun cdv A outer s H E hr => by
    have sc := sc_law_take
    have tk : Takes (cxOf (L2.CX P w) P w K mg base N_law_take "_law_take" (defScope s_law_take) (He.fAd K ("_law_take", none)) cdv A outer s H E) (fun cls d _ H' => E cls d H') := takes_of rfl rfl rfl rfl
    unfold K01.b_law_take
    exact s_cons (s_if (t_cmp op_gt g_gt (r_ix (r_var 0) (r_int)) (r_int) (nomark _)) (s_cons (s_set (i := 2) sc.nd (r_op op_mod g_mod (r_ix (r_var 0) (r_int)) (r_var 1))) (s_cons (s_asg (r_op op_fdivW g_div (r_ix (r_var 0) (r_int)) (r_var 1)) (g_ixs (r_var 0) (r_int))) (s_one (s_ret (r_var 2))))) (s_nil)) (s_cons (s_set (i := 3) sc.nd (r_tup (r_cons (r_int) (r_cons (r_int) (r_cons (r_int) (r_cons (r_int) (r_cons (r_int) (r_cons (r_int) (r_cons (r_int) (r_cons (r_int) (r_nil))))))))))) (s_cons (s_asg (r_op o_add g_add (r_ix (r_var 0) (r_int)) (r_int)) (g_ixs (r_var 0) (r_int))) (s_cons (s_set (i := 4) sc.nd (r_ix (r_var 0) (r_int))) (s_cons (s_set (i := 5) sc.nd (r_op o_add g_add (r_op o_mulA g_mulA (r_op o_add g_add (r_ix (r_var 0) (r_int)) (r_int)) (r_op o_add g_add (r_op o_mulA g_mulA (r_int) (r_var 4)) (r_int))) (r_op o_mulA g_mulA (r_op o_mulA g_mulA (r_int) (r_var 4)) (r_var 4)))) (s_cons (s_set (i := 6) sc.nd (r_op op_mod g_mod (r_op op_pow2 g_pow (r_var 5) (r_int)) (r_ix (r_var 3) (r_op op_mod g_mod (r_var 4) (r_int))))) (s_one (s_ret (r_op op_mod g_mod (r_op op_fdivW g_div (r_op op_mod g_mod (r_op o_mulA g_mulA (r_var 6) (r_op o_add g_add (r_op op_fdivW g_div (r_var 6) (r_int)) (r_int))) (r_ix (r_var 3) (r_op op_mod g_mod (r_op o_add g_add (r_var 4) (r_int)) (r_int)))) (r_int)) (r_var 1)))))))))
theorem bd_law_stretches_2 (z : Ctx K mg) : Bd K (fd_law_stretches z) ["_law_bag_here", "_law_most"] 2 [] [(.us, 0), (.us, 1)] [] [] := by
  exact bd_n (fS_law_stretches z) fun _ _ _ _ _ _ us ws h1 h2 => match us, ws, h1, h2 with | [_, _], [], _, _ => rfl
theorem ok_law_stretches (z : Ctx K mg) : Fn P w K (Tc K) mg base 2 (He.fAd K ("_law_stretches", none)) (fd_law_stretches z) ["_law_bag_here", "_law_most"] K01.f_law_stretches :=
  Fn.ofG (N := N_law_stretches) (b := K01.b_law_stretches) (fS_law_stretches z) sc_law_stretches fun cdv A outer s H E hr => by
    have sc := sc_law_stretches
    have tk : Takes (cxOf (L2.CX P w) P w K mg base N_law_stretches "_law_stretches" (defScope s_law_stretches) (He.fAd K ("_law_stretches", none)) cdv A outer s H E) (fun cls d _ H' => E cls d H') := takes_of rfl rfl rfl rfl
    unfold K01.b_law_stretches
    exact s_cons (s_set (i := 2) sc.nd (r_ix (r_lst (r_cons (r_int) (r_cons (r_int) (r_cons (r_int) (r_cons (r_int) (r_nil)))))) (r_call tk (ok_law_take z) (hr.mono (by decide)) (He.glo_ok z.k z.n (z.c.fact 39)) (fS_law_take z).kp (bd_law_take_2 z) rl0 rl0 (caPm (r_cons (r_var 0) (r_cons (r_int) (r_nil))))))) (s_cons (s_set (i := 3) sc.nd (r_ix (r_lst (r_cons (r_int) (r_cons (r_int) (r_cons (r_int) (r_cons (r_int) (r_nil)))))) (r_call tk (ok_law_take z) (hr.mono (by decide)) (He.glo_ok z.k z.n (z.c.fact 39)) (fS_law_take z).kp (bd_law_take_2 z) rl0 rl0 (caPm (r_cons (r_var 0) (r_cons (r_int) (r_nil))))))) (s_cons (s_set (i := 4) sc.nd (r_lstN (r_nil))) (s_cons (s_for (passes_of rfl) rfl (i_rng1 (He.free_ok z.k z.n (z.c.fact 3)) (r_call tk (ok_law_take z) (hr.mono (by decide)) (He.glo_ok z.k z.n (z.c.fact 39)) (fS_law_take z).kp (bd_law_take_2 z) rl0 rl0 (caPm (r_cons (r_var 0) (r_cons (r_ix (r_lst (r_cons (r_int) (r_cons (r_op o_add g_add (r_var 1) (r_int)) (r_nil)))) (r_call tk (ok_law_take z) (hr.mono (by decide)) (He.glo_ok z.k z.n (z.c.fact 39)) (fS_law_take z).kp (bd_law_take_2 z) rl0 rl0 (caPm (r_cons (r_var 0) (r_cons (r_int) (r_nil)))))) (r_nil)))))) (g_nm (i := 5) sc.nd) (s_cons (s_set (i := 6) sc.nd (r_call tk (ok_law_take z) (hr.mono (by decide)) (He.glo_ok z.k z.n (z.c.fact 39)) (fS_law_take z).kp (bd_law_take_2 z) rl0 rl0 (caPm (r_cons (r_var 0) (r_cons (r_var 2) (r_nil)))))) (s_cons (s_if (t_pw (w_and (t_cmp (o_ne hr) g_ne (r_var 4) (r_lst (r_nil)) (nomark _)) (w_and1 (t_cmp (o_eq hr) g_eq (r_call tk (ok_law_take z) (hr.mono (by decide)) (He.glo_ok z.k z.n (z.c.fact 39)) (fS_law_take z).kp (bd_law_take_2 z) rl0 rl0 (caPm (r_cons (r_var 0) (r_cons (r_int) (r_nil))))) (r_int) (nomark _))))) (s_one (s_set (i := 6) sc.nd (r_fn (call_min2 rfl) n_min2 (He.free_ok z.k z.n (z.c.fact 1)) (boot_min) (r_cons (r_int) (r_cons (r_op o_add g_add (r_ix (r_ix (r_var 4) (r_un un_neg g_neg (r_int))) (r_int)) (r_call tk (ok_law_take z) (hr.mono (by decide)) (He.glo_ok z.k z.n (z.c.fact 39)) (fS_law_take z).kp (bd_law_take_2 z) rl0 rl0 (caPm (r_cons (r_var 0) (r_cons (r_int) (r_nil)))))) (r_nil)))))) (s_nil)) (s_one (s_exp (r_bm PySem.F.plainAttrs_list PySem.F.slot_list_append PySem.F.type_list_append (fun _ _ _ _ _ _ _ _ _ => mt_append _ _ _ _ _ _ _ _ _) (by unfold BmOk; decide) m_append (r_var 4) (r_cons (r_tup (r_cons (r_var 6) (r_cons (r_fn (call_min2 rfl) n_min2 (He.free_ok z.k z.n (z.c.fact 1)) (boot_min) (r_cons (r_int) (r_cons (r_op o_add g_add (r_var 6) (r_call tk (ok_law_take z) (hr.mono (by decide)) (He.glo_ok z.k z.n (z.c.fact 39)) (fS_law_take z).kp (bd_law_take_2 z) rl0 rl0 (caPm (r_cons (r_var 0) (r_cons (r_var 3) (r_nil)))))) (r_nil)))) (r_nil)))) (r_nil)))))))) (s_one (s_ret (r_ty call_tuple_of n_tuple (He.free_ok z.k z.n (z.c.fact 19)) (PyProof.Rows.boot_tuple) (r_cons (r_var 4) (r_nil))))))))
theorem bx_NoPool_init (z : Ctx K mg) : Binds K (fd_NoPool_init z) ["self", "at"] [] := FunD.bindsN (fS_NoPool_init z) (fun _ _ _ _ _ _ us hl => match us, hl with | [_, _], _ => rfl)
theorem ok_NoPool_init (z : Ctx K mg) : FnOk P w K mg base (L2.CX P w) 1 (He.fAd K ("NoPool", some "__init__")) (fd_NoPool_init z) ["self", "at"] (spXi (He.ga K "NoPool") ["at"]) :=
  init1_ok PySem.F.store_ValueError (xk_ok (xAll_at z.x 6 (f := .xk "NoPool" "ValueError.__new__" [.type "ValueError", .type "Exception", .type "BaseException", .type "object"]))) (tk_ok (xAll_at z.x 8 (f := .tk "NoPool" "at"))) (fS_NoPool_init z) sc_NoPool_init (.inl rfl) (.inl rfl)
theorem bd_is_whole_1 (z : Ctx K mg) : Bd K (fd_is_whole z) ["thing"] 1 [] [(.us, 0)] [] [] := by
  exact bd_n (fS_is_whole z) fun _ _ _ _ _ _ us ws h1 h2 => match us, ws, h1, h2 with | [_], [], _, _ => rfl
theorem ok_is_whole (z : Ctx K mg) : Fn P w K (Tc K) mg base 1 (He.fAd K ("is_whole", none)) (fd_is_whole z) ["thing"] Pg.f_is_whole :=
  Fn.ofG (N := N_is_whole) (b := Pg.b_is_whole) (fS_is_whole z) sc_is_whole fun cdv A outer s H E hr => by
    have sc := sc_is_whole
    have tk : Takes (cxOf (L2.CX P w) P w K mg base N_is_whole "is_whole" (defScope s_is_whole) (He.fAd K ("is_whole", none)) cdv A outer s H E) (fun cls d _ H' => E cls d H') := takes_of rfl rfl rfl rfl
    unfold Pg.b_is_whole
    exact s_one (s_ret (r_and (r_isi ii_int (He.free_ok z.k z.n (z.c.fact 13)) (He.free_ok z.k z.n (z.c.fact 28)) boot_int (r_var 0)) (r_one (r_not (r_isi ii_bool (He.free_ok z.k z.n (z.c.fact 13)) (He.free_ok z.k z.n (z.c.fact 29)) boot_bool (r_var 0))))))
theorem bd_is_within_3 (z : Ctx K mg) : Bd K (fd_is_within z) ["thing", "least", "most"] 3 [] [(.us, 0), (.us, 1), (.us, 2)] [] [] := by
  exact bd_n (fS_is_within z) fun _ _ _ _ _ _ us ws h1 h2 => match us, ws, h1, h2 with | [_, _, _], [], _, _ => rfl
theorem ok_is_within (z : Ctx K mg) : Fn P w K (Tc K) mg base 2 (He.fAd K ("is_within", none)) (fd_is_within z) ["thing", "least", "most"] Pg.f_is_within :=
  Fn.ofG (N := N_is_within) (b := Pg.b_is_within) (fS_is_within z) sc_is_within fun cdv A outer s H E hr => by
    have sc := sc_is_within
    have tk : Takes (cxOf (L2.CX P w) P w K mg base N_is_within "is_within" (defScope s_is_within) (He.fAd K ("is_within", none)) cdv A outer s H E) (fun cls d _ H' => E cls d H') := takes_of rfl rfl rfl rfl
    unfold Pg.b_is_within
    exact s_one (s_ret (r_and (r_call tk (ok_is_whole z) (hr.mono (by decide)) (He.glo_ok z.k z.n (z.c.fact 27)) (fS_is_whole z).kp (bd_is_whole_1 z) rl0 rl0 (caPm (r_cons (r_var 0) (r_nil)))) (r_one (r_chain op_le g_le op_le g_le (r_var 1) (r_var 0) (r_var 2)))))
theorem bd_is_stretch_1 (z : Ctx K mg) : Bd K (fd_is_stretch z) ["thing"] 1 [] [(.us, 0)] [] [] := by
  exact bd_n (fS_is_stretch z) fun _ _ _ _ _ _ us ws h1 h2 => match us, ws, h1, h2 with | [_], [], _, _ => rfl
theorem ok_is_stretch (z : Ctx K mg) : Fn P w K (Tc K) mg base 3 (He.fAd K ("is_stretch", none)) (fd_is_stretch z) ["thing"] Pg.f_is_stretch :=
  Fn.ofG (N := N_is_stretch) (b := Pg.b_is_stretch) (fS_is_stretch z) sc_is_stretch fun cdv A outer s H E hr => by
    have sc := sc_is_stretch
    have tk : Takes (cxOf (L2.CX P w) P w K mg base N_is_stretch "is_stretch" (defScope s_is_stretch) (He.fAd K ("is_stretch", none)) cdv A outer s H E) (fun cls d _ H' => E cls d H') := takes_of rfl rfl rfl rfl
    unfold Pg.b_is_stretch
    exact s_cons (s_if (t_pw (w_or (t_not (t_truth (r_isi ii_tuple (He.free_ok z.k z.n (z.c.fact 13)) (He.free_ok z.k z.n (z.c.fact 19)) boot_tuple (r_var 0)))) (w_or1 (t_cmp (o_ne hr) g_ne (r_fn c_len n_len (He.free_ok z.k z.n (z.c.fact 0)) (PySem.boot_len) (r_cons (r_var 0) (r_nil))) (r_int) (nomark _))))) (s_one (s_ret (r_bl))) (s_nil)) (s_one (s_ret (r_and (r_fn (cr_all rfl) n_all (He.free_ok z.k z.n (z.c.fact 26)) (boot_all) (r_cons (r_comp rfl sc.nd (own := [("number", 1)]) (g := (.one 1)) (i_seqT (r_var 0)) (blkOk_by (N := N_is_stretch) (sc := defScope s_is_stretch) (by decide +kernel)) (fun _ _ _ _ _ => pg_name (i := 1) sc.nd rfl (Or.inl rfl)) (fun _ _ _ _ _ => ts_nil) (fun _ _ _ _ _ => r_call takes0 (ok_is_within z) (hr.mono (by decide)) (He.glo_ok z.k z.n (z.c.fact 25)) (fS_is_within z).kp (bd_is_within_3 z) rl0 rl0 (caPm (r_cons (r_var 1) (r_cons (r_int) (r_cons (glob_int (He.int_ok z.k z.n (z.c.fact 24))) (r_nil))))))) (r_nil))) (r_one (r_cmp op_le g_le (r_ix (r_var 0) (r_int)) (r_ix (r_var 0) (r_int)) (nomark _))))))
theorem bd_look_stretches_1 (z : Ctx K mg) : Bd K (fd_look_stretches z) ["thing"] 1 [] [(.us, 0)] [] [] := by
  exact bd_n (fS_look_stretches z) fun _ _ _ _ _ _ us ws h1 h2 => match us, ws, h1, h2 with | [_], [], _, _ => rfl
theorem ok_look_stretches (z : Ctx K mg) : Fn P w K (Tc K) mg base 4 (He.fAd K ("look_stretches", none)) (fd_look_stretches z) ["thing"] Pg.f_look_stretches :=
  Fn.ofG (N := N_look_stretches) (b := Pg.b_look_stretches) (fS_look_stretches z) sc_look_stretches fun cdv A outer s H E hr => by
    have sc := sc_look_stretches
    have tk : Takes (cxOf (L2.CX P w) P w K mg base N_look_stretches "look_stretches" (defScope s_look_stretches) (He.fAd K ("look_stretches", none)) cdv A outer s H E) (fun cls d _ H' => E cls d H') := takes_of rfl rfl rfl rfl
    unfold Pg.b_look_stretches
    exact s_cons (s_if (t_pw (w_or (t_not (t_truth (r_isi ii_tuple (He.free_ok z.k z.n (z.c.fact 13)) (He.free_ok z.k z.n (z.c.fact 19)) boot_tuple (r_var 0)))) (w_or1 (t_cmp op_gt g_gt (r_fn c_len n_len (He.free_ok z.k z.n (z.c.fact 0)) (PySem.boot_len) (r_cons (r_var 0) (r_nil))) (glob_int (He.int_ok z.k z.n (z.c.fact 20))) (nomark _))))) (s_one (s_raise (T := Tc K) (cl := 0) (fs := ["at"]) ⟨(nz (f := fun K => He.ga K "NoPool") (xAll_at z.x 5 (f := .any (fun K => nzB (He.ga K "NoPool"))))), by decide⟩ rfl tk (pmk_x PySem.F.excBase_ValueError (xk_ok (xAll_at z.x 6 (f := .xk "NoPool" "ValueError.__new__" [.type "ValueError", .type "Exception", .type "BaseException", .type "object"]))) (ini_ok1 (xAll_at z.x 4 (f := .ini "NoPool"))) (ini_ok2 (xAll_at z.x 4 (f := .ini "NoPool"))) (ok_NoPool_init z) (hr.r.mono (by decide)) rfl (by decide) (bx_NoPool_init z) rfl (He.glo_ok z.k z.n (z.c.fact 21)) (r_cons (r_non) (r_nil))))) (s_nil)) (s_one (s_for (passes_of rfl) rfl (i_enumA (He.free_ok z.k z.n (z.c.fact 22)) (r_cons (r_var 0) (r_nil))) (g_sq rfl (gs_cons (g_nm (i := 1) sc.nd) (gs_cons (g_nm (i := 2) sc.nd) (gs_nil)))) (s_one (s_if (t_not (t_truth (r_call tk (ok_is_stretch z) (hr.mono (by decide)) (He.glo_ok z.k z.n (z.c.fact 23)) (fS_is_stretch z).kp (bd_is_stretch_1 z) rl0 rl0 (caPm (r_cons (r_var 2) (r_nil)))))) (s_one (s_raise (T := Tc K) (cl := 0) (fs := ["at"]) ⟨(nz (f := fun K => He.ga K "NoPool") (xAll_at z.x 5 (f := .any (fun K => nzB (He.ga K "NoPool"))))), by decide⟩ rfl tk (pmk_x PySem.F.excBase_ValueError (xk_ok (xAll_at z.x 6 (f := .xk "NoPool" "ValueError.__new__" [.type "ValueError", .type "Exception", .type "BaseException", .type "object"]))) (ini_ok1 (xAll_at z.x 4 (f := .ini "NoPool"))) (ini_ok2 (xAll_at z.x 4 (f := .ini "NoPool"))) (ok_NoPool_init z) (hr.r.mono (by decide)) rfl (by decide) (bx_NoPool_init z) rfl (He.glo_ok z.k z.n (z.c.fact 21)) (r_cons (r_var 1) (r_nil))))) (s_nil)))))
theorem bd_fewest_1 (z : Ctx K mg) : Bd K (fd_fewest z) ["stretches"] 1 [] [(.us, 0)] [] [] := by
  exact bd_n (fS_fewest z) fun _ _ _ _ _ _ us ws h1 h2 => match us, ws, h1, h2 with | [_], [], _, _ => rfl
theorem ok_fewest (z : Ctx K mg) : Fn P w K (Tc K) mg base 1 (He.fAd K ("fewest", none)) (fd_fewest z) ["stretches"] Pg.f_fewest :=
  Fn.ofG (N := N_fewest) (b := Pg.b_fewest) (fS_fewest z) sc_fewest fun cdv A outer s H E hr => by
    have sc := sc_fewest
    have tk : Takes (cxOf (L2.CX P w) P w K mg base N_fewest "fewest" (defScope s_fewest) (He.fAd K ("fewest", none)) cdv A outer s H E) (fun cls d _ H' => E cls d H') := takes_of rfl rfl rfl rfl
    unfold Pg.b_fewest
    exact s_cons (s_set (i := 1) sc.nd (r_lstN (r_nil))) (s_cons (s_for (passes_of rfl) rfl (i_seqT (r_fn cr_sortP2 n_sortP (He.free_ok z.k z.n (z.c.fact 18)) (PyProof.Rows.boot_sorted) (r_cons (r_var 0) (r_nil)))) (g_sq rfl (gs_cons (g_nm (i := 2) sc.nd) (gs_cons (g_nm (i := 3) sc.nd) (gs_nil)))) (s_one (s_if (t_pw (w_and (t_cmp (o_ne hr) g_ne (r_var 1) (r_lst (r_nil)) (nomark _)) (w_and1 (t_cmp op_le g_le (r_var 2) (r_op o_add g_add (r_ix (r_ix (r_var 1) (r_un un_neg g_neg (r_int))) (r_int)) (r_int)) (nomark _))))) (s_one (s_asg (r_tup (r_cons (r_ix (r_ix (r_var 1) (r_un un_neg g_neg (r_int))) (r_int)) (r_cons (r_fn (call_max2 rfl) n_max2 (He.free_ok z.k z.n (z.c.fact 2)) (boot_max) (r_cons (r_ix (r_ix (r_var 1) (r_un un_neg g_neg (r_int))) (r_int)) (r_cons (r_var 3) (r_nil)))) (r_nil)))) (g_ixs (r_var 1) (r_un un_neg g_neg (r_int))))) (s_one (s_exp (r_bm PySem.F.plainAttrs_list PySem.F.slot_list_append PySem.F.type_list_append (fun _ _ _ _ _ _ _ _ _ => mt_append _ _ _ _ _ _ _ _ _) (by unfold BmOk; decide) m_append (r_var 1) (r_cons (r_tup (r_cons (r_var 2) (r_cons (r_var 3) (r_nil)))) (r_nil)))))))) (s_one (s_ret (r_ty call_tuple_of n_tuple (He.free_ok z.k z.n (z.c.fact 19)) (PyProof.Rows.boot_tuple) (r_cons (r_var 1) (r_nil))))))
theorem bd_Pool_init_2 (z : Ctx K mg) : Bd K (fd_Pool_init z) ["self", "stretches"] 2 [] [(.us, 0), (.us, 1)] [.ref (He.dflAt ("Pool", some "__init__") 0 K)] [] := by
  exact bd_d (fS_Pool_init z) (by simp) fun _ _ _ _ _ _ _ us its ws h1 h2 h3 => match us, its, ws, h1, h2, h3 with | [_, _], [_], [], _, _, _ => ⟨_, rfl, rfl⟩
theorem bd_Pool_init_1 (z : Ctx K mg) : Bd K (fd_Pool_init z) ["self", "stretches"] 1 [] [(.us, 0), (.its, 0)] [.ref (He.dflAt ("Pool", some "__init__") 0 K)] [] := by
  exact bd_d (fS_Pool_init z) (by simp) fun _ _ _ _ _ _ _ us its ws h1 h2 h3 => match us, its, ws, h1, h2, h3 with | [_], [_], [], _, _, _ => ⟨_, rfl, rfl⟩
theorem bd_Pool_init_1_stretches (z : Ctx K mg) : Bd K (fd_Pool_init z) ["self", "stretches"] 1 ["stretches"] [(.us, 0), (.ws, 0)] [.ref (He.dflAt ("Pool", some "__init__") 0 K)] [] := by
  exact bd_d (fS_Pool_init z) (by simp) fun _ _ _ _ _ _ _ us its ws h1 h2 h3 => match us, its, ws, h1, h2, h3 with | [_], [_], [_], _, _, _ => ⟨_, rfl, rfl⟩
theorem ok_Pool_init (z : Ctx K mg) : Fn P w K (Tc K) mg base 5 (He.fAd K ("Pool", some "__init__")) (fd_Pool_init z) ["self", "stretches"] Pg.f_Pool_init :=
  Fn.ofG (N := N_Pool_init) (b := Pg.b_Pool_init) (fS_Pool_init z) sc_Pool_init fun cdv A outer s H E hr => by
    have sc := sc_Pool_init
    have tk : Takes (cxOf (L2.CX P w) P w K mg base N_Pool_init "Pool.__init__" (defScope s_Pool_init) (He.fAd K ("Pool", some "__init__")) cdv A outer s H E) (fun cls d _ H' => E cls d H') := takes_of rfl rfl rfl rfl
    unfold Pg.b_Pool_init
    exact s_cons (s_exp (r_call tk (ok_look_stretches z) (hr.mono (by decide)) (He.glo_ok z.k z.n (z.c.fact 16)) (fS_look_stretches z).kp (bd_look_stretches_1 z) rl0 rl0 (caPm (r_cons (r_var 1) (r_nil))))) (s_one (s_fld (z.f_kept) (r_var 0) (r_call tk (ok_fewest z) (hr.mono (by decide)) (He.glo_ok z.k z.n (z.c.fact 17)) (fS_fewest z).kp (bd_fewest_1 z) rl0 rl0 (caPm (r_cons (r_var 1) (r_nil))))))
theorem bd_law_has_2 (z : Ctx K mg) : Bd K (fd_law_has z) ["_law_rows", "_law_number"] 2 [] [(.us, 0), (.us, 1)] [] [] := by
  exact bd_n (fS_law_has z) fun _ _ _ _ _ _ us ws h1 h2 => match us, ws, h1, h2 with | [_, _], [], _, _ => rfl
theorem ok_law_has (z : Ctx K mg) : Fn P w K (Tc K) mg base 1 (He.fAd K ("_law_has", none)) (fd_law_has z) ["_law_rows", "_law_number"] K01.f_law_has :=
  Fn.ofG (N := N_law_has) (b := K01.b_law_has) (fS_law_has z) sc_law_has fun cdv A outer s H E hr => by
    have sc := sc_law_has
    have tk : Takes (cxOf (L2.CX P w) P w K mg base N_law_has "_law_has" (defScope s_law_has) (He.fAd K ("_law_has", none)) cdv A outer s H E) (fun cls d _ H' => E cls d H') := takes_of rfl rfl rfl rfl
    unfold K01.b_law_has
    exact s_one (s_ret (r_fn (cr_any rfl) n_any (He.free_ok z.k z.n (z.c.fact 35)) (boot_any) (r_cons (r_comp rfl sc.nd (own := [("_law_begin", 2), ("_law_end", 3)]) (g := (.tup [2, 3])) (i_seqT (r_var 0)) (blkOk_by (N := N_law_has) (sc := defScope s_law_has) (by decide +kernel)) (fun _ _ _ _ _ => pg_tup rfl (pgs_cons (pg_name (i := 2) sc.nd rfl (Or.inl rfl)) (pgs_cons (pg_name (i := 3) sc.nd rfl (Or.inl rfl)) pgs_nil))) (fun _ _ _ _ _ => ts_nil) (fun _ _ _ _ _ => r_chain op_le g_le op_le g_le (r_var 2) (r_var 1) (r_var 3))) (r_nil))))
theorem bd_law_fewest_1 (z : Ctx K mg) : Bd K (fd_law_fewest z) ["_law_rows"] 1 [] [(.us, 0)] [] [] := by
  exact bd_n (fS_law_fewest z) fun _ _ _ _ _ _ us ws h1 h2 => match us, ws, h1, h2 with | [_], [], _, _ => rfl
theorem ok_law_fewest (z : Ctx K mg) : Fn P w K (Tc K) mg base 2 (He.fAd K ("_law_fewest", none)) (fd_law_fewest z) ["_law_rows"] K01.f_law_fewest :=
  Fn.ofG (N := N_law_fewest) (b := K01.b_law_fewest) (fS_law_fewest z) sc_law_fewest fun cdv A outer s H E hr => by
    have sc := sc_law_fewest
    have tk : Takes (cxOf (L2.CX P w) P w K mg base N_law_fewest "_law_fewest" (defScope s_law_fewest) (He.fAd K ("_law_fewest", none)) cdv A outer s H E) (fun cls d _ H' => E cls d H') := takes_of rfl rfl rfl rfl
    unfold K01.b_law_fewest
    exact s_cons (s_set (i := 1) sc.nd (r_sortSet rfl (He.free_ok z.k z.n (z.c.fact 18)) (He.free_ok z.k z.n (z.c.fact 38)) (r_cons (r_comp rfl sc.nd (own := [("_law_begin", 3), ("_law_end", 4)]) (g := (.tup [3, 4])) (i_seqT (r_var 0)) (blkOk_by (N := N_law_fewest) (sc := defScope s_law_fewest) (by decide +kernel)) (fun _ _ _ _ _ => pg_tup rfl (pgs_cons (pg_name (i := 3) sc.nd rfl (Or.inl rfl)) (pgs_cons (pg_name (i := 4) sc.nd rfl (Or.inl rfl)) pgs_nil))) (fun _ _ _ _ _ => ts_one (t_not (t_truth (r_call takes0 (ok_law_has z) (hr.mono (by decide)) (He.glo_ok z.k z.n (z.c.fact 34)) (fS_law_has z).kp (bd_law_has_2 z) rl0 rl0 (caPm (r_cons (r_var 0) (r_cons (r_op op_sub g_sub (r_var 3) (r_int)) (r_nil)))))))) (fun _ _ _ _ _ => r_var 3)) (r_nil)))) (s_cons (s_set (i := 2) sc.nd (r_sortSet rfl (He.free_ok z.k z.n (z.c.fact 18)) (He.free_ok z.k z.n (z.c.fact 38)) (r_cons (r_comp rfl sc.nd (own := [("_law_begin", 3), ("_law_end", 4)]) (g := (.tup [3, 4])) (i_seqT (r_var 0)) (blkOk_by (N := N_law_fewest) (sc := defScope s_law_fewest) (by decide +kernel)) (fun _ _ _ _ _ => pg_tup rfl (pgs_cons (pg_name (i := 3) sc.nd rfl (Or.inl rfl)) (pgs_cons (pg_name (i := 4) sc.nd rfl (Or.inl rfl)) pgs_nil))) (fun _ _ _ _ _ => ts_one (t_not (t_truth (r_call takes0 (ok_law_has z) (hr.mono (by decide)) (He.glo_ok z.k z.n (z.c.fact 34)) (fS_law_has z).kp (bd_law_has_2 z) rl0 rl0 (caPm (r_cons (r_var 0) (r_cons (r_op o_add g_add (r_var 4) (r_int)) (r_nil)))))))) (fun _ _ _ _ _ => r_var 4)) (r_nil)))) (s_one (s_ret (r_ty call_tuple_of n_tuple (He.free_ok z.k z.n (z.c.fact 19)) (PyProof.Rows.boot_tuple) (r_cons (r_comp rfl sc.nd (own := [("_law_begin", 3), ("_law_end", 4)]) (g := (.tup [3, 4])) (i_zipA (He.free_ok z.k z.n (z.c.fact 37)) (r_cons (r_var 1) (r_cons (r_var 2) (r_nil)))) (blkOk_by (N := N_law_fewest) (sc := defScope s_law_fewest) (by decide +kernel)) (fun _ _ _ _ _ => pg_tup rfl (pgs_cons (pg_name (i := 3) sc.nd rfl (Or.inl rfl)) (pgs_cons (pg_name (i := 4) sc.nd rfl (Or.inl rfl)) pgs_nil))) (fun _ _ _ _ _ => ts_nil) (fun _ _ _ _ _ => r_tup (r_cons (r_var 3) (r_cons (r_var 4) (r_nil))))) (r_nil))))))
theorem bd_Pool_stretches_1 (z : Ctx K mg) : Bd K (fd_Pool_stretches z) ["self"] 1 [] [(.us, 0)] [] [] := by
  exact bd_n (fS_Pool_stretches z) fun _ _ _ _ _ _ us ws h1 h2 => match us, ws, h1, h2 with | [_], [], _, _ => rfl
theorem ok_Pool_stretches (z : Ctx K mg) : Fn P w K (Tc K) mg base 1 (He.fAd K ("Pool", some "stretches")) (fd_Pool_stretches z) ["self"] Pg.f_Pool_stretches :=
  Fn.ofG (N := N_Pool_stretches) (b := Pg.b_Pool_stretches) (fS_Pool_stretches z) sc_Pool_stretches fun cdv A outer s H E hr => by
    have sc := sc_Pool_stretches
    have tk : Takes (cxOf (L2.CX P w) P w K mg base N_Pool_stretches "Pool.stretches" (defScope s_Pool_stretches) (He.fAd K ("Pool", some "stretches")) cdv A outer s H E) (fun cls d _ H' => E cls d H') := takes_of rfl rfl rfl rfl
    unfold Pg.b_Pool_stretches
    exact s_one (s_ret (r_fld (z.f_kept) (r_var 0)))
theorem bd_law_same_2 (z : Ctx K mg) : Bd K (fd_law_same z) ["_law_here", "_law_there"] 2 [] [(.us, 0), (.us, 1)] [] [] := by
  exact bd_n (fS_law_same z) fun _ _ _ _ _ _ us ws h1 h2 => match us, ws, h1, h2 with | [_, _], [], _, _ => rfl
theorem ok_law_same (z : Ctx K mg) : ∀ n : Nat, Fn P w K (Tc K) mg base (0 + n) (He.fAd K ("_law_same", none)) (fd_law_same z) ["_law_here", "_law_there"] (K01.f_law_same n)
  | 0 => Fn.stuck
  | n + 1 => Fn.ofG (k := 0 + n) (N := N_law_same) (b := K01.b_law_same (K01.f_law_same n)) (fS_law_same z) sc_law_same fun cdv A outer s H E hr => by
    have ih := ok_law_same z n
    have sc := sc_law_same
    have tk : Takes (cxOf (L2.CX P w) P w K mg base N_law_same "_law_same" (defScope s_law_same) (He.fAd K ("_law_same", none)) cdv A outer s H E) (fun cls d _ H' => E cls d H') := takes_of rfl rfl rfl rfl
    unfold K01.b_law_same
    exact s_cons (s_if (t_pw (w_or (t_cmp (o_ne hr) g_ne (r_isi ii_list (He.free_ok z.k z.n (z.c.fact 13)) (He.free_ok z.k z.n (z.c.fact 36)) boot_list (r_var 0)) (r_isi ii_list (He.free_ok z.k z.n (z.c.fact 13)) (He.free_ok z.k z.n (z.c.fact 36)) boot_list (r_var 1)) (nomark _)) (w_or1 (t_cmp (o_ne hr) g_ne (r_isi ii_tuple (He.free_ok z.k z.n (z.c.fact 13)) (He.free_ok z.k z.n (z.c.fact 19)) boot_tuple (r_var 0)) (r_isi ii_tuple (He.free_ok z.k z.n (z.c.fact 13)) (He.free_ok z.k z.n (z.c.fact 19)) boot_tuple (r_var 1)) (nomark _))))) (s_one (s_ret (r_bl))) (s_nil)) (s_cons (s_if (t_pw (w_or (t_truth (r_isi ii_list (He.free_ok z.k z.n (z.c.fact 13)) (He.free_ok z.k z.n (z.c.fact 36)) boot_list (r_var 0))) (w_or1 (t_truth (r_isi ii_tuple (He.free_ok z.k z.n (z.c.fact 13)) (He.free_ok z.k z.n (z.c.fact 19)) boot_tuple (r_var 0)))))) (s_one (s_ret (r_and (r_cmp (o_eq hr) g_eq (r_fn c_len n_len (He.free_ok z.k z.n (z.c.fact 0)) (PySem.boot_len) (r_cons (r_var 0) (r_nil))) (r_fn c_len n_len (He.free_ok z.k z.n (z.c.fact 0)) (PySem.boot_len) (r_cons (r_var 1) (r_nil))) (nomark _)) (r_one (r_fn (cr_all rfl) n_all (He.free_ok z.k z.n (z.c.fact 26)) (boot_all) (r_cons (r_comp rfl sc.nd (own := [("_law_a", 2), ("_law_b", 3)]) (g := (.tup [2, 3])) (i_zipA (He.free_ok z.k z.n (z.c.fact 37)) (r_cons (r_var 0) (r_cons (r_var 1) (r_nil)))) (blkOk_by (N := N_law_same) (sc := defScope s_law_same) (by decide +kernel)) (fun _ _ _ _ _ => pg_tup rfl (pgs_cons (pg_name (i := 2) sc.nd rfl (Or.inl rfl)) (pgs_cons (pg_name (i := 3) sc.nd rfl (Or.inl rfl)) pgs_nil))) (fun _ _ _ _ _ => ts_nil) (fun _ _ _ _ _ => r_call takes0 ih (hr.mono (by omega)) (He.glo_ok z.k z.n (z.c.fact 31)) (fS_law_same z).kp (bd_law_same_2 z) rl0 rl0 (caPm (r_cons (r_var 2) (r_cons (r_var 3) (r_nil)))))) (r_nil))))))) (s_nil)) (s_one (s_ret (r_and (r_cmp (o_eq hr) g_eq (r_isi ii_bool (He.free_ok z.k z.n (z.c.fact 13)) (He.free_ok z.k z.n (z.c.fact 29)) boot_bool (r_var 0)) (r_isi ii_bool (He.free_ok z.k z.n (z.c.fact 13)) (He.free_ok z.k z.n (z.c.fact 29)) boot_bool (r_var 1)) (nomark _)) (r_one (r_cmp (o_eq hr) g_eq (r_var 0) (r_var 1) (nomark _)))))))
theorem bd_Pool_len_1 (z : Ctx K mg) : Bd K (fd_Pool_len z) ["self"] 1 [] [(.us, 0)] [] [] := by
  exact bd_n (fS_Pool_len z) fun _ _ _ _ _ _ us ws h1 h2 => match us, ws, h1, h2 with | [_], [], _, _ => rfl
theorem ok_Pool_len (z : Ctx K mg) : Fn P w K (Tc K) mg base 1 (He.fAd K ("Pool", some "__len__")) (fd_Pool_len z) ["self"] Pg.f_Pool_len :=
  Fn.ofG (N := N_Pool_len) (b := Pg.b_Pool_len) (fS_Pool_len z) sc_Pool_len fun cdv A outer s H E hr => by
    have sc := sc_Pool_len
    have tk : Takes (cxOf (L2.CX P w) P w K mg base N_Pool_len "Pool.__len__" (defScope s_Pool_len) (He.fAd K ("Pool", some "__len__")) cdv A outer s H E) (fun cls d _ H' => E cls d H') := takes_of rfl rfl rfl rfl
    unfold Pg.b_Pool_len
    exact s_one (s_ret (r_lenRng (He.free_ok z.k z.n (z.c.fact 0)) (He.free_ok z.k z.n (z.c.fact 3)) (r_fn (cr_sum rfl) n_sum (He.free_ok z.k z.n (z.c.fact 30)) (boot_sum) (r_cons (r_comp rfl sc.nd (own := [("low", 1), ("high", 2)]) (g := (.tup [1, 2])) (i_seqT (r_fld (z.f_kept) (r_var 0))) (blkOk_by (N := N_Pool_len) (sc := defScope s_Pool_len) (by decide +kernel)) (fun _ _ _ _ _ => pg_tup rfl (pgs_cons (pg_name (i := 1) sc.nd rfl (Or.inl rfl)) (pgs_cons (pg_name (i := 2) sc.nd rfl (Or.inl rfl)) pgs_nil))) (fun _ _ _ _ _ => ts_nil) (fun _ _ _ _ _ => r_op op_sub g_sub (r_op o_add g_add (r_var 2) (r_int)) (r_var 1))) (r_nil)))))
theorem bd_Pool_has_2 (z : Ctx K mg) : Bd K (fd_Pool_has z) ["self", "number"] 2 [] [(.us, 0), (.us, 1)] [] [] := by
  exact bd_n (fS_Pool_has z) fun _ _ _ _ _ _ us ws h1 h2 => match us, ws, h1, h2 with | [_, _], [], _, _ => rfl
theorem ok_Pool_has (z : Ctx K mg) : Fn P w K (Tc K) mg base 1 (He.fAd K ("Pool", some "has")) (fd_Pool_has z) ["self", "number"] Pg.f_Pool_has :=
  Fn.ofG (N := N_Pool_has) (b := Pg.b_Pool_has) (fS_Pool_has z) sc_Pool_has fun cdv A outer s H E hr => by
    have sc := sc_Pool_has
    have tk : Takes (cxOf (L2.CX P w) P w K mg base N_Pool_has "Pool.has" (defScope s_Pool_has) (He.fAd K ("Pool", some "has")) cdv A outer s H E) (fun cls d _ H' => E cls d H') := takes_of rfl rfl rfl rfl
    unfold Pg.b_Pool_has
    exact s_one (s_ret (r_fn (cr_any rfl) n_any (He.free_ok z.k z.n (z.c.fact 35)) (boot_any) (r_cons (r_comp rfl sc.nd (own := [("low", 2), ("high", 3)]) (g := (.tup [2, 3])) (i_seqT (r_fld (z.f_kept) (r_var 0))) (blkOk_by (N := N_Pool_has) (sc := defScope s_Pool_has) (by decide +kernel)) (fun _ _ _ _ _ => pg_tup rfl (pgs_cons (pg_name (i := 2) sc.nd rfl (Or.inl rfl)) (pgs_cons (pg_name (i := 3) sc.nd rfl (Or.inl rfl)) pgs_nil))) (fun _ _ _ _ _ => ts_nil) (fun _ _ _ _ _ => r_chain op_le g_le op_le g_le (r_var 2) (r_var 1) (r_var 3))) (r_nil))))
theorem bd_law_right_2 (z : Ctx K mg) : Bd K (fd_law_right z) ["_law_rows", "_law_pool"] 2 [] [(.us, 0), (.us, 1)] [] [] := by
  exact bd_n (fS_law_right z) fun _ _ _ _ _ _ us ws h1 h2 => match us, ws, h1, h2 with | [_, _], [], _, _ => rfl
theorem ok_law_right (z : Ctx K mg) : Fn P w K (Tc K) mg base 9 (He.fAd K ("_law_right", none)) (fd_law_right z) ["_law_rows", "_law_pool"] K01.f_law_right :=
  Fn.ofG (N := N_law_right) (b := K01.b_law_right) (fS_law_right z) sc_law_right fun cdv A outer s H E hr => by
    have sc := sc_law_right
    have tk : Takes (cxOf (L2.CX P w) P w K mg base N_law_right "_law_right" (defScope s_law_right) (He.fAd K ("_law_right", none)) cdv A outer s H E) (fun cls d _ H' => E cls d H') := takes_of rfl rfl rfl rfl
    unfold K01.b_law_right
    exact s_cons (s_set (i := 2) sc.nd (r_call tk (ok_law_fewest z) (hr.mono (by decide)) (He.glo_ok z.k z.n (z.c.fact 11)) (fS_law_fewest z).kp (bd_law_fewest_1 z) rl0 rl0 (caPm (r_cons (r_var 0) (r_nil))))) (s_cons (s_set (i := 3) sc.nd (r_fn (cr_sum rfl) n_sum (He.free_ok z.k z.n (z.c.fact 30)) (boot_sum) (r_cons (r_comp rfl sc.nd (own := [("_law_begin", 4), ("_law_end", 5)]) (g := (.tup [4, 5])) (i_seqT (r_var 2)) (blkOk_by (N := N_law_right) (sc := defScope s_law_right) (by decide +kernel)) (fun _ _ _ _ _ => pg_tup rfl (pgs_cons (pg_name (i := 4) sc.nd rfl (Or.inl rfl)) (pgs_cons (pg_name (i := 5) sc.nd rfl (Or.inl rfl)) pgs_nil))) (fun _ _ _ _ _ => ts_nil) (fun _ _ _ _ _ => r_op op_sub g_sub (r_op o_add g_add (r_var 5) (r_int)) (r_var 4))) (r_nil)))) (s_cons (s_if (t_pw (w_or (t_not (t_truth (r_call tk (ok_law_same z 8) (hr.mono (by decide)) (He.glo_ok z.k z.n (z.c.fact 31)) (fS_law_same z).kp (bd_law_same_2 z) rl0 rl0 (caPm (r_cons (r_meth (T := Tc K) (cl := 18) tk (r_var 1) (He.cls_ok (z.c.fact 12)) (He.meth_ok (z.c.fact 15)) (ok_Pool_stretches z) (hr.mono (by decide)) (bd_Pool_stretches_1 z) rl0 rl0 (ca0m)) (r_cons (r_var 2) (r_nil))))))) (w_or1 (t_not (t_truth (r_call tk (ok_law_same z 8) (hr.mono (by decide)) (He.glo_ok z.k z.n (z.c.fact 31)) (fS_law_same z).kp (bd_law_same_2 z) rl0 rl0 (caPm (r_cons (r_own1 (T := Tc K) (cl := 18) (lenOk_v _) (cr_len (He.meth_ok (z.c.fact 32)) (ok_Pool_len z) (hr.mono (by decide)) (bd_Pool_len_1 z)) (He.free_ok z.k z.n (z.c.fact 0)) PySem.boot_len (r_var 1)) (r_cons (r_var 3) (r_nil)))))))))) (s_one (s_ret (r_bl))) (s_nil)) (s_cons (s_for (passes_of rfl) rfl (i_seqT (r_var 0)) (g_sq rfl (gs_cons (g_nm (i := 4) sc.nd) (gs_cons (g_nm (i := 5) sc.nd) (gs_nil)))) (s_one (s_for (passes_of rfl) rfl (i_seqT (r_lst (r_cons (r_op op_sub g_sub (r_var 4) (r_int)) (r_cons (r_var 4) (r_cons (r_op op_fdivW g_div (r_op o_add g_add (r_var 4) (r_var 5)) (r_int)) (r_cons (r_var 5) (r_cons (r_op o_add g_add (r_var 5) (r_int)) (r_nil)))))))) (g_nm (i := 6) sc.nd) (s_cons (s_set (i := 7) sc.nd (r_meth (T := Tc K) (cl := 18) tk (r_var 1) (He.cls_ok (z.c.fact 12)) (He.meth_ok (z.c.fact 33)) (ok_Pool_has z) (hr.mono (by decide)) (bd_Pool_has_2 z) rl0 rl0 (caPm (r_cons (r_var 6) (r_nil))))) (s_one (s_if (t_pw (w_or (t_not (t_truth (r_isi ii_bool (He.free_ok z.k z.n (z.c.fact 13)) (He.free_ok z.k z.n (z.c.fact 29)) boot_bool (r_var 7)))) (w_or1 (t_cmp (o_ne hr) g_ne (r_var 7) (r_call tk (ok_law_has z) (hr.mono (by decide)) (He.glo_ok z.k z.n (z.c.fact 34)) (fS_law_has z).kp (bd_law_has_2 z) rl0 rl0 (caPm (r_cons (r_var 0) (r_cons (r_var 6) (r_nil))))) (nomark _))))) (s_one (s_ret (r_bl))) (s_nil))))))) (s_one (s_ret (r_and (r_cmp o_isA g_isA (r_meth (T := Tc K) (cl := 18) tk (r_var 1) (He.cls_ok (z.c.fact 12)) (He.meth_ok (z.c.fact 33)) (ok_Pool_has z) (hr.mono (by decide)) (bd_Pool_has_2 z) rl0 rl0 (caPm (r_cons (r_un un_neg g_neg (r_int)) (r_nil)))) (r_bl) (nomark _)) (r_one (r_cmp o_isA g_isA (r_meth (T := Tc K) (cl := 18) tk (r_var 1) (He.cls_ok (z.c.fact 12)) (He.meth_ok (z.c.fact 33)) (ok_Pool_has z) (hr.mono (by decide)) (bd_Pool_has_2 z) rl0 rl0 (caPm (r_cons (r_op op_pow2 g_pow (r_int) (r_int)) (r_nil)))) (r_bl) (nomark _)))))))))
theorem bd_Pool_eq_2 (z : Ctx K mg) : Bd K (fd_Pool_eq z) ["self", "other"] 2 [] [(.us, 0), (.us, 1)] [] [] := by
  exact bd_n (fS_Pool_eq z) fun _ _ _ _ _ _ us ws h1 h2 => match us, ws, h1, h2 with | [_, _], [], _, _ => rfl
theorem ok_Pool_eq (z : Ctx K mg) : Fn P w K (Tc K) mg base 2 (He.fAd K ("Pool", some "__eq__")) (fd_Pool_eq z) ["self", "other"] Pg.f_Pool_eq :=
  Fn.ofG (N := N_Pool_eq) (b := Pg.b_Pool_eq) (fS_Pool_eq z) sc_Pool_eq fun cdv A outer s H E hr => by
    have sc := sc_Pool_eq
    have tk : Takes (cxOf (L2.CX P w) P w K mg base N_Pool_eq "Pool.__eq__" (defScope s_Pool_eq) (He.fAd K ("Pool", some "__eq__")) cdv A outer s H E) (fun cls d _ H' => E cls d H') := takes_of rfl rfl rfl rfl
    unfold Pg.b_Pool_eq
    exact s_one (s_ret (r_and (r_isiC (T := Tc K) (cl := 18) (isc_ok (He.cls_ok (z.c.fact 12)) (xAll_at z.x 3 (f := .any (fun K => iscB K (He.ga K "Pool"))))) (He.free_ok z.k z.n (z.c.fact 13)) (He.glo_ok z.k z.n (z.c.fact 7)) (r_var 1)) (r_one (r_cmp (o_eq hr) g_eq (r_fld (z.f_kept) (r_var 0)) (r_meth (T := Tc K) (cl := 18) tk (r_var 1) (He.cls_ok (z.c.fact 12)) (He.meth_ok (z.c.fact 15)) (ok_Pool_stretches z) (hr.mono (by decide)) (bd_Pool_stretches_1 z) rl0 rl0 (ca0m)) (nomark _)))))
theorem bd_Pool_repr_1 (z : Ctx K mg) : Bd K (fd_Pool_repr z) ["self"] 1 [] [(.us, 0)] [] [] := by
  exact bd_n (fS_Pool_repr z) fun _ _ _ _ _ _ us ws h1 h2 => match us, ws, h1, h2 with | [_], [], _, _ => rfl
theorem ok_Pool_repr (z : Ctx K mg) : Fn P w K (Tc K) mg base 1 (He.fAd K ("Pool", some "__repr__")) (fd_Pool_repr z) ["self"] Pg.f_Pool_repr :=
  Fn.ofG (N := N_Pool_repr) (b := Pg.b_Pool_repr) (fS_Pool_repr z) sc_Pool_repr fun cdv A outer s H E hr => by
    have sc := sc_Pool_repr
    have tk : Takes (cxOf (L2.CX P w) P w K mg base N_Pool_repr "Pool.__repr__" (defScope s_Pool_repr) (He.fAd K ("Pool", some "__repr__")) cdv A outer s H E) (fun cls d _ H' => E cls d H') := takes_of rfl rfl rfl rfl
    unfold Pg.b_Pool_repr
    exact s_one (s_ret (r_js (.cons (r_str) (.cons (r_fm hr (r_fld (z.f_kept) (r_var 0))) (.cons (r_str) .nil)))))
theorem bd_law_alike_2 (z : Ctx K mg) : Bd K (fd_law_alike z) ["_law_pool", "_law_rows"] 2 [] [(.us, 0), (.us, 1)] [] [] := by
  exact bd_n (fS_law_alike z) fun _ _ _ _ _ _ us ws h1 h2 => match us, ws, h1, h2 with | [_, _], [], _, _ => rfl
theorem ok_law_alike (z : Ctx K mg) : Fn P w K (Tc K) mg base 7 (He.fAd K ("_law_alike", none)) (fd_law_alike z) ["_law_pool", "_law_rows"] K01.f_law_alike :=
  Fn.ofG (N := N_law_alike) (b := K01.b_law_alike) (fS_law_alike z) sc_law_alike fun cdv A outer s H E hr => by
    have sc := sc_law_alike
    have tk : Takes (cxOf (L2.CX P w) P w K mg base N_law_alike "_law_alike" (defScope s_law_alike) (He.fAd K ("_law_alike", none)) cdv A outer s H E) (fun cls d _ H' => E cls d H') := takes_of rfl rfl rfl rfl
    unfold K01.b_law_alike
    exact s_cons (s_set (i := 2) sc.nd (r_call tk (ok_law_fewest z) (hr.mono (by decide)) (He.glo_ok z.k z.n (z.c.fact 11)) (fS_law_fewest z).kp (bd_law_fewest_1 z) rl0 rl0 (caPm (r_cons (r_var 1) (r_nil))))) (s_cons (s_if (t_pw (w_or (t_not (t_alt (t_own (T := Tc K) (cl := 18) (He.meth_ok (z.c.fact 10)) (ok_Pool_eq z) (hr.mono (by decide)) (bd_Pool_eq_2 z) (r_make (T := Tc K) (cl := 18) tk (He.mkr_ok (z.c.fact 6)) (nz (f := fun K => He.ga K "Pool") (xAll_at z.x 1 (f := .any (fun K => nzB (He.ga K "Pool"))))) (ok_Pool_init z) (hr.mono (by decide)) (He.glo_ok z.k z.n (z.c.fact 7)) (bd_Pool_init_2 z) (rl_cons ((by exact rc_tup0 (xAll_at z.x 0 (f := .tup0 (He.dflAt ("Pool", some "__init__") 0))))) rl0) rl0 (caPm (r_cons (r_var 2) (r_nil)))) (r_var 0) (nomark _)) (t_ownD (T := Tc K) (cl := 18) (He.meth_ok (z.c.fact 10)) (sbB (f := fun K => He.ga K "Pool") (xAll_at z.x 2 (f := .any (fun K => subB K (He.ga K "Pool"))))) (ok_Pool_eq z) (hr.mono (by decide)) (bd_Pool_eq_2 z) (r_make (T := Tc K) (cl := 18) tk (He.mkr_ok (z.c.fact 6)) (nz (f := fun K => He.ga K "Pool") (xAll_at z.x 1 (f := .any (fun K => nzB (He.ga K "Pool"))))) (ok_Pool_init z) (hr.mono (by decide)) (He.glo_ok z.k z.n (z.c.fact 7)) (bd_Pool_init_2 z) (rl_cons ((by exact rc_tup0 (xAll_at z.x 0 (f := .tup0 (He.dflAt ("Pool", some "__init__") 0))))) rl0) rl0 (caPm (r_cons (r_var 2) (r_nil)))) (r_var 0) (nomark _)))) (w_or (t_not (t_alt (t_own (T := Tc K) (cl := 18) (He.meth_ok (z.c.fact 10)) (ok_Pool_eq z) (hr.mono (by decide)) (bd_Pool_eq_2 z) (r_var 0) (r_make (T := Tc K) (cl := 18) tk (He.mkr_ok (z.c.fact 6)) (nz (f := fun K => He.ga K "Pool") (xAll_at z.x 1 (f := .any (fun K => nzB (He.ga K "Pool"))))) (ok_Pool_init z) (hr.mono (by decide)) (He.glo_ok z.k z.n (z.c.fact 7)) (bd_Pool_init_1_stretches z) (rl_cons ((by exact rc_tup0 (xAll_at z.x 0 (f := .tup0 (He.dflAt ("Pool", some "__init__") 0))))) rl0) rl0 (caKm (k_cons (r_revA (r_var 1)) (k_nil)))) (nomark _)) (t_ownD (T := Tc K) (cl := 18) (He.meth_ok (z.c.fact 10)) (sbB (f := fun K => He.ga K "Pool") (xAll_at z.x 2 (f := .any (fun K => subB K (He.ga K "Pool"))))) (ok_Pool_eq z) (hr.mono (by decide)) (bd_Pool_eq_2 z) (r_var 0) (r_make (T := Tc K) (cl := 18) tk (He.mkr_ok (z.c.fact 6)) (nz (f := fun K => He.ga K "Pool") (xAll_at z.x 1 (f := .any (fun K => nzB (He.ga K "Pool"))))) (ok_Pool_init z) (hr.mono (by decide)) (He.glo_ok z.k z.n (z.c.fact 7)) (bd_Pool_init_1_stretches z) (rl_cons ((by exact rc_tup0 (xAll_at z.x 0 (f := .tup0 (He.dflAt ("Pool", some "__init__") 0))))) rl0) rl0 (caKm (k_cons (r_revA (r_var 1)) (k_nil)))) (nomark _)))) (w_or1 (t_alt (t_ownN (T := Tc K) (cl := 18) (He.meth_ok (z.c.fact 10)) (nbB (f := fun K => He.ga K "Pool") (xAll_at z.x 7 (f := .any (fun K => neB K (He.ga K "Pool"))))) (ok_Pool_eq z) (hr.mono (by decide)) (bd_Pool_eq_2 z) (r_var 0) (r_make (T := Tc K) (cl := 18) tk (He.mkr_ok (z.c.fact 6)) (nz (f := fun K => He.ga K "Pool") (xAll_at z.x 1 (f := .any (fun K => nzB (He.ga K "Pool"))))) (ok_Pool_init z) (hr.mono (by decide)) (He.glo_ok z.k z.n (z.c.fact 7)) (bd_Pool_init_2 z) (rl_cons ((by exact rc_tup0 (xAll_at z.x 0 (f := .tup0 (He.dflAt ("Pool", some "__init__") 0))))) rl0) rl0 (caPm (r_cons (r_var 1) (r_nil)))) (nomark _)) (t_ownND (T := Tc K) (cl := 18) (He.meth_ok (z.c.fact 10)) (nbB (f := fun K => He.ga K "Pool") (xAll_at z.x 7 (f := .any (fun K => neB K (He.ga K "Pool"))))) (ok_Pool_eq z) (hr.mono (by decide)) (bd_Pool_eq_2 z) (r_var 0) (r_make (T := Tc K) (cl := 18) tk (He.mkr_ok (z.c.fact 6)) (nz (f := fun K => He.ga K "Pool") (xAll_at z.x 1 (f := .any (fun K => nzB (He.ga K "Pool"))))) (ok_Pool_init z) (hr.mono (by decide)) (He.glo_ok z.k z.n (z.c.fact 7)) (bd_Pool_init_2 z) (rl_cons ((by exact rc_tup0 (xAll_at z.x 0 (f := .tup0 (He.dflAt ("Pool", some "__init__") 0))))) rl0) rl0 (caPm (r_cons (r_var 1) (r_nil)))) (nomark _))))))) (s_one (s_ret (r_bl))) (s_nil)) (s_cons (s_if (t_pw (w_and (t_cmp op_lt g_lt (r_fn c_len n_len (He.free_ok z.k z.n (z.c.fact 0)) (PySem.boot_len) (r_cons (r_var 1) (r_nil))) (r_int) (nomark _)) (w_and1 (t_not (t_alt (t_own (T := Tc K) (cl := 18) (He.meth_ok (z.c.fact 10)) (ok_Pool_eq z) (hr.mono (by decide)) (bd_Pool_eq_2 z) (r_make (T := Tc K) (cl := 18) tk (He.mkr_ok (z.c.fact 6)) (nz (f := fun K => He.ga K "Pool") (xAll_at z.x 1 (f := .any (fun K => nzB (He.ga K "Pool"))))) (ok_Pool_init z) (hr.mono (by decide)) (He.glo_ok z.k z.n (z.c.fact 7)) (bd_Pool_init_2 z) (rl_cons ((by exact rc_tup0 (xAll_at z.x 0 (f := .tup0 (He.dflAt ("Pool", some "__init__") 0))))) rl0) rl0 (caPm (r_cons (r_op o_add g_add (r_var 1) (r_slA (r_var 1) o_none (o_some (r_int)))) (r_nil)))) (r_var 0) (nomark _)) (t_ownD (T := Tc K) (cl := 18) (He.meth_ok (z.c.fact 10)) (sbB (f := fun K => He.ga K "Pool") (xAll_at z.x 2 (f := .any (fun K => subB K (He.ga K "Pool"))))) (ok_Pool_eq z) (hr.mono (by decide)) (bd_Pool_eq_2 z) (r_make (T := Tc K) (cl := 18) tk (He.mkr_ok (z.c.fact 6)) (nz (f := fun K => He.ga K "Pool") (xAll_at z.x 1 (f := .any (fun K => nzB (He.ga K "Pool"))))) (ok_Pool_init z) (hr.mono (by decide)) (He.glo_ok z.k z.n (z.c.fact 7)) (bd_Pool_init_2 z) (rl_cons ((by exact rc_tup0 (xAll_at z.x 0 (f := .tup0 (He.dflAt ("Pool", some "__init__") 0))))) rl0) rl0 (caPm (r_cons (r_op o_add g_add (r_var 1) (r_slA (r_var 1) o_none (o_some (r_int)))) (r_nil)))) (r_var 0) (nomark _))))))) (s_one (s_ret (r_bl))) (s_nil)) (s_cons (s_comp (i := 3) rfl sc.nd (own := [("_law_number", 4)]) (g := (.one 4)) (i_rng1 (He.free_ok z.k z.n (z.c.fact 3)) (r_int)) (blkOk_by (N := N_law_alike) (sc := defScope s_law_alike) (by decide +kernel)) (fun _ _ _ _ _ => pg_name (i := 4) sc.nd rfl (Or.inl rfl)) (fun _ _ _ _ _ => ts_one (t_not (t_truth (r_call takes0 (ok_law_has z) (hr.mono (by decide)) (He.glo_ok z.k z.n (z.c.fact 34)) (fS_law_has z).kp (bd_law_has_2 z) rl0 rl0 (caPm (r_cons (r_var 1) (r_cons (r_var 4) (r_nil)))))))) (fun _ _ _ _ _ => r_var 4) (sw_true rfl rfl rfl (by decide +kernel))) (s_cons (s_if (t_pw (w_and (t_cmp op_lt g_lt (r_fn c_len n_len (He.free_ok z.k z.n (z.c.fact 0)) (PySem.boot_len) (r_cons (r_var 1) (r_nil))) (r_int) (nomark _)) (w_and (t_cmp (o_ne hr) g_ne (r_var 3) (r_lst (r_nil)) (nomark _)) (w_and1 (t_alt (t_own (T := Tc K) (cl := 18) (He.meth_ok (z.c.fact 10)) (ok_Pool_eq z) (hr.mono (by decide)) (bd_Pool_eq_2 z) (r_make (T := Tc K) (cl := 18) tk (He.mkr_ok (z.c.fact 6)) (nz (f := fun K => He.ga K "Pool") (xAll_at z.x 1 (f := .any (fun K => nzB (He.ga K "Pool"))))) (ok_Pool_init z) (hr.mono (by decide)) (He.glo_ok z.k z.n (z.c.fact 7)) (bd_Pool_init_2 z) (rl_cons ((by exact rc_tup0 (xAll_at z.x 0 (f := .tup0 (He.dflAt ("Pool", some "__init__") 0))))) rl0) rl0 (caPm (r_cons (r_op o_add g_add (r_var 1) (r_tup (r_cons (r_tup (r_cons (r_ix (r_var 3) (r_int)) (r_cons (r_ix (r_var 3) (r_int)) (r_nil)))) (r_nil)))) (r_nil)))) (r_var 0) (nomark _)) (t_ownD (T := Tc K) (cl := 18) (He.meth_ok (z.c.fact 10)) (sbB (f := fun K => He.ga K "Pool") (xAll_at z.x 2 (f := .any (fun K => subB K (He.ga K "Pool"))))) (ok_Pool_eq z) (hr.mono (by decide)) (bd_Pool_eq_2 z) (r_make (T := Tc K) (cl := 18) tk (He.mkr_ok (z.c.fact 6)) (nz (f := fun K => He.ga K "Pool") (xAll_at z.x 1 (f := .any (fun K => nzB (He.ga K "Pool"))))) (ok_Pool_init z) (hr.mono (by decide)) (He.glo_ok z.k z.n (z.c.fact 7)) (bd_Pool_init_2 z) (rl_cons ((by exact rc_tup0 (xAll_at z.x 0 (f := .tup0 (He.dflAt ("Pool", some "__init__") 0))))) rl0) rl0 (caPm (r_cons (r_op o_add g_add (r_var 1) (r_tup (r_cons (r_tup (r_cons (r_ix (r_var 3) (r_int)) (r_cons (r_ix (r_var 3) (r_int)) (r_nil)))) (r_nil)))) (r_nil)))) (r_var 0) (nomark _))))))) (s_one (s_ret (r_bl))) (s_nil)) (s_one (s_ret (r_and (r_not (r_alt (r_own (T := Tc K) (cl := 18) (He.meth_ok (z.c.fact 10)) (ok_Pool_eq z) (hr.mono (by decide)) (bd_Pool_eq_2 z) (r_var 0) (r_var 2) (nomark _)) (r_ownD (T := Tc K) (cl := 18) (He.meth_ok (z.c.fact 10)) (sbB (f := fun K => He.ga K "Pool") (xAll_at z.x 2 (f := .any (fun K => subB K (He.ga K "Pool"))))) (ok_Pool_eq z) (hr.mono (by decide)) (bd_Pool_eq_2 z) (r_var 0) (r_var 2) (nomark _)))) (r_and (r_not (r_alt (r_own (T := Tc K) (cl := 18) (He.meth_ok (z.c.fact 10)) (ok_Pool_eq z) (hr.mono (by decide)) (bd_Pool_eq_2 z) (r_var 0) (r_own1 (T := Tc K) (cl := 18) (strOk_v _) (cr_repr (He.meth_ok (z.c.fact 40)) (ok_Pool_repr z) (hr.mono (by decide)) (bd_Pool_repr_1 z)) (He.free_ok z.k z.n (z.c.fact 41)) boot_repr (r_var 0)) (nomark _)) (r_ownD (T := Tc K) (cl := 18) (He.meth_ok (z.c.fact 10)) (sbB (f := fun K => He.ga K "Pool") (xAll_at z.x 2 (f := .any (fun K => subB K (He.ga K "Pool"))))) (ok_Pool_eq z) (hr.mono (by decide)) (bd_Pool_eq_2 z) (r_var 0) (r_own1 (T := Tc K) (cl := 18) (strOk_v _) (cr_repr (He.meth_ok (z.c.fact 40)) (ok_Pool_repr z) (hr.mono (by decide)) (bd_Pool_repr_1 z)) (He.free_ok z.k z.n (z.c.fact 41)) boot_repr (r_var 0)) (nomark _)))) (r_and (r_not (r_alt (r_own (T := Tc K) (cl := 18) (He.meth_ok (z.c.fact 10)) (ok_Pool_eq z) (hr.mono (by decide)) (bd_Pool_eq_2 z) (r_var 0) (r_non) (nomark _)) (r_ownD (T := Tc K) (cl := 18) (He.meth_ok (z.c.fact 10)) (sbB (f := fun K => He.ga K "Pool") (xAll_at z.x 2 (f := .any (fun K => subB K (He.ga K "Pool"))))) (ok_Pool_eq z) (hr.mono (by decide)) (bd_Pool_eq_2 z) (r_var 0) (r_non) (nomark _)))) (r_one (r_alt (r_ownN (T := Tc K) (cl := 18) (He.meth_ok (z.c.fact 10)) (nbB (f := fun K => He.ga K "Pool") (xAll_at z.x 7 (f := .any (fun K => neB K (He.ga K "Pool"))))) (ok_Pool_eq z) (hr.mono (by decide)) (bd_Pool_eq_2 z) (r_var 0) (r_own1 (T := Tc K) (cl := 18) (lenOk_v _) (cr_len (He.meth_ok (z.c.fact 32)) (ok_Pool_len z) (hr.mono (by decide)) (bd_Pool_len_1 z)) (He.free_ok z.k z.n (z.c.fact 0)) PySem.boot_len (r_var 0)) (nomark _)) (r_ownND (T := Tc K) (cl := 18) (He.meth_ok (z.c.fact 10)) (nbB (f := fun K => He.ga K "Pool") (xAll_at z.x 7 (f := .any (fun K => neB K (He.ga K "Pool"))))) (ok_Pool_eq z) (hr.mono (by decide)) (bd_Pool_eq_2 z) (r_var 0) (r_own1 (T := Tc K) (cl := 18) (lenOk_v _) (cr_len (He.meth_ok (z.c.fact 32)) (ok_Pool_len z) (hr.mono (by decide)) (bd_Pool_len_1 z)) (He.free_ok z.k z.n (z.c.fact 0)) PySem.boot_len (r_var 0)) (nomark _)))))))))))))
theorem ok_law (z : Ctx K mg) : Fn P w K (Tc K) mg base 10 (He.fAd K ("law", none)) (fd_law z) ["_law_script"] K01.f_law :=
  Fn.ofG (N := N_law) (b := K01.b_law) (fS_law z) sc_law fun cdv A outer s H E hr => by
    have sc := sc_law
    have tk : Takes (cxOf (L2.CX P w) P w K mg base N_law "law" (defScope s_law) (He.fAd K ("law", none)) cdv A outer s H E) (fun cls d _ H' => E cls d H') := takes_of rfl rfl rfl rfl
    unfold K01.b_law
    exact s_cons (s_for (passes_of rfl) rfl (i_rng1 (He.free_ok z.k z.n (z.c.fact 3)) (r_fn (call_max2 rfl) n_max2 (He.free_ok z.k z.n (z.c.fact 2)) (boot_max) (r_cons (r_int) (r_cons (r_fn (call_min2 rfl) n_min2 (He.free_ok z.k z.n (z.c.fact 1)) (boot_min) (r_cons (r_int) (r_cons (r_fn c_len n_len (He.free_ok z.k z.n (z.c.fact 0)) (PySem.boot_len) (r_cons (r_var 0) (r_nil))) (r_nil)))) (r_nil))))) (g_nm (i := 1) sc.nd) (s_cons (s_set (i := 2) sc.nd (r_call tk (ok_law_bag z) (hr.mono (by decide)) (He.glo_ok z.k z.n (z.c.fact 4)) (fS_law_bag z).kp (bd_law_bag_2 z) rl0 rl0 (caPm (r_cons (r_var 0) (r_cons (r_var 1) (r_nil)))))) (s_cons (s_set (i := 3) sc.nd (r_call tk (ok_law_stretches z) (hr.mono (by decide)) (He.glo_ok z.k z.n (z.c.fact 5)) (fS_law_stretches z).kp (bd_law_stretches_2 z) rl0 rl0 (caPm (r_cons (r_var 2) (r_cons (r_int) (r_nil)))))) (s_cons (s_set (i := 4) sc.nd (r_make (T := Tc K) (cl := 18) tk (He.mkr_ok (z.c.fact 6)) (nz (f := fun K => He.ga K "Pool") (xAll_at z.x 1 (f := .any (fun K => nzB (He.ga K "Pool"))))) (ok_Pool_init z) (hr.mono (by decide)) (He.glo_ok z.k z.n (z.c.fact 7)) (bd_Pool_init_2 z) (rl_cons ((by exact rc_tup0 (xAll_at z.x 0 (f := .tup0 (He.dflAt ("Pool", some "__init__") 0))))) rl0) rl0 (caPm (r_cons (r_var 3) (r_nil))))) (s_cons (s_for (passes_of rfl) rfl (i_rng1 (He.free_ok z.k z.n (z.c.fact 3)) (r_int)) (g_nm (i := 5) sc.nd) (s_one (s_if (t_pw (w_or (t_not (t_truth (r_call tk (ok_law_right z) (hr.mono (by decide)) (He.glo_ok z.k z.n (z.c.fact 8)) (fS_law_right z).kp (bd_law_right_2 z) rl0 rl0 (caPm (r_cons (r_var 3) (r_cons (r_var 4) (r_nil))))))) (w_or1 (t_not (t_truth (r_call tk (ok_law_alike z) (hr.mono (by decide)) (He.glo_ok z.k z.n (z.c.fact 9)) (fS_law_alike z).kp (bd_law_alike_2 z) rl0 rl0 (caPm (r_cons (r_var 4) (r_cons (r_var 3) (r_nil)))))))))) (s_one (s_ret (r_bl))) (s_nil)))) (s_cons (s_set (i := 6) sc.nd (r_call tk (ok_law_stretches z) (hr.mono (by decide)) (He.glo_ok z.k z.n (z.c.fact 5)) (fS_law_stretches z).kp (bd_law_stretches_2 z) rl0 rl0 (caPm (r_cons (r_var 2) (r_cons (r_int) (r_nil)))))) (s_cons (s_set (i := 7) sc.nd (r_make (T := Tc K) (cl := 18) tk (He.mkr_ok (z.c.fact 6)) (nz (f := fun K => He.ga K "Pool") (xAll_at z.x 1 (f := .any (fun K => nzB (He.ga K "Pool"))))) (ok_Pool_init z) (hr.mono (by decide)) (He.glo_ok z.k z.n (z.c.fact 7)) (bd_Pool_init_2 z) (rl_cons ((by exact rc_tup0 (xAll_at z.x 0 (f := .tup0 (He.dflAt ("Pool", some "__init__") 0))))) rl0) rl0 (caPm (r_cons (r_var 6) (r_nil))))) (s_cons (s_if (t_pw (w_or (t_cmp (o_ne hr) g_ne (r_alt (r_own (T := Tc K) (cl := 18) (He.meth_ok (z.c.fact 10)) (ok_Pool_eq z) (hr.mono (by decide)) (bd_Pool_eq_2 z) (r_var 7) (r_var 4) (nomark _)) (r_ownD (T := Tc K) (cl := 18) (He.meth_ok (z.c.fact 10)) (sbB (f := fun K => He.ga K "Pool") (xAll_at z.x 2 (f := .any (fun K => subB K (He.ga K "Pool"))))) (ok_Pool_eq z) (hr.mono (by decide)) (bd_Pool_eq_2 z) (r_var 7) (r_var 4) (nomark _))) (r_cmp (o_eq hr) g_eq (r_call tk (ok_law_fewest z) (hr.mono (by decide)) (He.glo_ok z.k z.n (z.c.fact 11)) (fS_law_fewest z).kp (bd_law_fewest_1 z) rl0 rl0 (caPm (r_cons (r_var 6) (r_nil)))) (r_call tk (ok_law_fewest z) (hr.mono (by decide)) (He.glo_ok z.k z.n (z.c.fact 11)) (fS_law_fewest z).kp (bd_law_fewest_1 z) rl0 rl0 (caPm (r_cons (r_var 3) (r_nil)))) (nomark _)) (nomark _)) (w_or1 (t_not (t_truth (r_call tk (ok_law_right z) (hr.mono (by decide)) (He.glo_ok z.k z.n (z.c.fact 8)) (fS_law_right z).kp (bd_law_right_2 z) rl0 rl0 (caPm (r_cons (r_var 3) (r_cons (r_var 4) (r_nil)))))))))) (s_one (s_ret (r_bl))) (s_nil)) (s_one (s_if (t_pw (w_or (t_not (t_truth (r_call tk (ok_law_right z) (hr.mono (by decide)) (He.glo_ok z.k z.n (z.c.fact 8)) (fS_law_right z).kp (bd_law_right_2 z) rl0 rl0 (caPm (r_cons (r_var 6) (r_cons (r_var 7) (r_nil))))))) (w_or (t_not (t_truth (r_call tk (ok_law_right z) (hr.mono (by decide)) (He.glo_ok z.k z.n (z.c.fact 8)) (fS_law_right z).kp (bd_law_right_2 z) rl0 rl0 (caPm (r_cons (r_tup (r_nil)) (r_cons (r_make (T := Tc K) (cl := 18) tk (He.mkr_ok (z.c.fact 6)) (nz (f := fun K => He.ga K "Pool") (xAll_at z.x 1 (f := .any (fun K => nzB (He.ga K "Pool"))))) (ok_Pool_init z) (hr.mono (by decide)) (He.glo_ok z.k z.n (z.c.fact 7)) (bd_Pool_init_1 z) (rl_cons ((by exact rc_tup0 (xAll_at z.x 0 (f := .tup0 (He.dflAt ("Pool", some "__init__") 0))))) rl0) rl0 (ca0m)) (r_nil))))))) (w_or1 (t_not (t_alt (t_own (T := Tc K) (cl := 18) (He.meth_ok (z.c.fact 10)) (ok_Pool_eq z) (hr.mono (by decide)) (bd_Pool_eq_2 z) (r_make (T := Tc K) (cl := 18) tk (He.mkr_ok (z.c.fact 6)) (nz (f := fun K => He.ga K "Pool") (xAll_at z.x 1 (f := .any (fun K => nzB (He.ga K "Pool"))))) (ok_Pool_init z) (hr.mono (by decide)) (He.glo_ok z.k z.n (z.c.fact 7)) (bd_Pool_init_2 z) (rl_cons ((by exact rc_tup0 (xAll_at z.x 0 (f := .tup0 (He.dflAt ("Pool", some "__init__") 0))))) rl0) rl0 (caPm (r_cons (r_tup (r_nil)) (r_nil)))) (r_make (T := Tc K) (cl := 18) tk (He.mkr_ok (z.c.fact 6)) (nz (f := fun K => He.ga K "Pool") (xAll_at z.x 1 (f := .any (fun K => nzB (He.ga K "Pool"))))) (ok_Pool_init z) (hr.mono (by decide)) (He.glo_ok z.k z.n (z.c.fact 7)) (bd_Pool_init_1 z) (rl_cons ((by exact rc_tup0 (xAll_at z.x 0 (f := .tup0 (He.dflAt ("Pool", some "__init__") 0))))) rl0) rl0 (ca0m)) (nomark _)) (t_ownD (T := Tc K) (cl := 18) (He.meth_ok (z.c.fact 10)) (sbB (f := fun K => He.ga K "Pool") (xAll_at z.x 2 (f := .any (fun K => subB K (He.ga K "Pool"))))) (ok_Pool_eq z) (hr.mono (by decide)) (bd_Pool_eq_2 z) (r_make (T := Tc K) (cl := 18) tk (He.mkr_ok (z.c.fact 6)) (nz (f := fun K => He.ga K "Pool") (xAll_at z.x 1 (f := .any (fun K => nzB (He.ga K "Pool"))))) (ok_Pool_init z) (hr.mono (by decide)) (He.glo_ok z.k z.n (z.c.fact 7)) (bd_Pool_init_2 z) (rl_cons ((by exact rc_tup0 (xAll_at z.x 0 (f := .tup0 (He.dflAt ("Pool", some "__init__") 0))))) rl0) rl0 (caPm (r_cons (r_tup (r_nil)) (r_nil)))) (r_make (T := Tc K) (cl := 18) tk (He.mkr_ok (z.c.fact 6)) (nz (f := fun K => He.ga K "Pool") (xAll_at z.x 1 (f := .any (fun K => nzB (He.ga K "Pool"))))) (ok_Pool_init z) (hr.mono (by decide)) (He.glo_ok z.k z.n (z.c.fact 7)) (bd_Pool_init_1 z) (rl_cons ((by exact rc_tup0 (xAll_at z.x 0 (f := .tup0 (He.dflAt ("Pool", some "__init__") 0))))) rl0) rl0 (ca0m)) (nomark _)))))))) (s_one (s_ret (r_bl))) (s_nil))))))))))) (s_one (s_ret (r_bl)))
end
end V01
set_option Elab.async false
set_option linter.all false
set_option maxRecDepth 100000
set_option maxHeartbeats 0
namespace V01
open PySem PySem.Spec L2 MP
open PyProof.Rows hiding St
abbrev R : PySem.W.OpenRow := PySem.W.OpenLaw.row PySem.Challenge.rw_leasepair_k01_pools_made
abbrev hk : PySem.W.Hook := MP.hookE 6 fa fns (xAll xa)
def ob (s : PySem.W.SharedT) : He.AlD × Bool := MP.obsE 6 fa fns (xAll xa) (HandSHeadRun.getT s)
theorem ob_eq (s : PySem.W.SharedT) : ob s = hk.obs s.abs := MP.obsE_eq (HandSHeadRun.getT_eq s)
def loose : List PySem.Str := ["_wall", "NoPool", "is_whole", "is_within", "is_stretch", "look_stretches", "fewest", "Pool", "stretch_text", "_law_bag", "_law_take", "_law_has", "_law_fewest", "_law_stretches", "_law_same", "_law_whole", "_law_right", "_law_alike", "MOST_STRETCHES", "MOST_NUMBER"]
theorem run (w : World) : HandSHeadRun.RunEq R (PySem.W.view R.prog [24]) hk ob 4000 loose w := by
  intro os
  kernel_rfl
theorem bdA_law {K : PySem.W.Frag} {mg : Str → Option Value} (z : Ctx K mg) (s : Shared) (v : Value) : BindsTo s (fd_law z) ⟨[v], []⟩ [("_law_script", v)] := FunD.bindsA (ps := ["_law_script"]) (fS_law z) (fun _ _ _ _ _ _ us hl => match us, hl with | [_], _ => rfl) s [v] rfl
end V01
open PySem PySem.W PySem.Calls PyProof.Rows
theorem V01.holds_of (hm : MP.LawTrue K01.f_law) : PySem.Challenge.rw_leasepair_k01_pools_made.Holds := by
  w_on; o_law
  refine HandSHeadRun.head_any (r := OpenLaw.row PySem.Challenge.rw_leasepair_k01_pools_made) (q := view (OpenLaw.row PySem.Challenge.rw_leasepair_k01_pools_made).prog [24]) (H := V01.hk) (ob := V01.ob) (M := 4000) (loose := V01.loose) (d := HandSHeadRun.topDef (OpenLaw.row PySem.Challenge.rw_leasepair_k01_pools_made).prog 24) (kwd := []) V01.ob_eq
    (by kernel_rfl) (fun s => by kernel_rfl) V01.run (by kernel_rfl) (by kernel_rfl) (by kernel_rfl) (by rfl) (by first | assumption | decide +kernel) (by decide +kernel) ⟨rfl, rfl, rfl, rfl, rfl, by decide +kernel⟩ ?hw ?hc
  case hw => w_witness2
  case hc =>
    refine MP.walk_law (l := PySem.Challenge.rw_leasepair_k01_pools_made) (k := 10) (x := "_law_script") (m := K01.f_law) rfl (by kernel_rfl) ⟨⟨rfl, by decide, by decide⟩, rfl⟩ ?F hm
    intro w mg fa h Y G hmg0
    obtain ⟨K, KX, c, xx⟩ := Y
    have hmg : mg ("law" : PySem.Str) = some (.ref fa) := by
      have e : (HandSHeadRun.topDef (OpenLaw.row PySem.Challenge.rw_leasepair_k01_pools_made).prog 24).name = ("law" : PySem.Str) := by kernel_rfl
      rw [← e]
      exact hmg0
    have z : V01.Ctx K mg := ⟨c, xx, h, KX, G⟩
    have e := hmg.symm.trans (He.glo_ok z.k z.n (z.c.fact 43))
    cases e
    exact ⟨K, V01.Tc K, V01.fd_law z, KX, fun s u => V01.bdA_law z s u, fun base _ _ => V01.ok_law z⟩
theorem PySem.Challenge.cw_leasepair_k01_pools_made_holds : PySem.Challenge.rw_leasepair_k01_pools_made.Holds := by
  exact V01.holds_of K01.law_true
