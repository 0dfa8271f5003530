import PyProof.Rows.All
import Wide.All
import OpenK.AllK
import Wide.FinOn
import HandS.ForMost
import HandS.NoneIn
import HandS.Flow
import HandS.Rev
import HandS.IsInst
import HandS.Replace
import KE.DataAny
import HandS.More
import HandS.Codes
import PySem.Challenge.RW_pleatproof_k01_lines_righted_by_trying_a
set_option Elab.async false
set_option linter.all false
set_option maxRecDepth 100000
/-! VC1: value trees, labels, what represents what. -/
namespace VC
open PySem PySem.Spec PyProof.Rows L2

/-- a test that the kernel does not run -/
noncomputable def grd (p : Prop) : Bool := @decide p (Classical.propDecidable p)
theorem grd_iff {p : Prop} : grd p = true ↔ p := by
  unfold grd; exact @decide_eq_true_iff p (Classical.propDecidable p)
/-- a list is owned, or frozen (nobody changes it), or fixed (one of the law's own caller or of the text) -/
inductive Z where
  | own | frz | fix
  deriving DecidableEq
def Z.cold : Z → Bool
  | .own => false | .frz => true | .fix => true
def Z.hot : Z → Bool
  | .own => true | .frz => false | .fix => true
def Z.frost : Z → Z
  | .own => .frz | .frz => .frz | .fix => .fix
/-- plain values as trees -/
inductive D where
  | non | bl (b : Bool) | int (i : Int) | str (s : Str)
  | tup (xs : List D)
  | lst (z : Z) (xs : List D)

mutual
/-- nothing that can change -/
def D.imm : D → Bool
  | .non => true | .bl _ => true | .int _ => true | .str _ => true
  | .tup xs => immL xs
  | .lst _ _ => false
def immL : List D → Bool
  | [] => true
  | x :: xs => x.imm && immL xs
end
mutual
/-- no owned list in it -/
def D.cold : D → Bool
  | .non => true | .bl _ => true | .int _ => true | .str _ => true
  | .tup xs => coldL xs
  | .lst z xs => z.cold && coldL xs
def coldL : List D → Bool
  | [] => true
  | x :: xs => x.cold && coldL xs
end
mutual
/-- no frozen list in it -/
def D.hot : D → Bool
  | .non => true | .bl _ => true | .int _ => true | .str _ => true
  | .tup xs => hotL xs
  | .lst z xs => z.hot && hotL xs
def hotL : List D → Bool
  | [] => true
  | x :: xs => x.hot && hotL xs
end
mutual
def D.frz : D → D
  | .non => .non | .bl b => .bl b | .int i => .int i | .str s => .str s
  | .tup xs => .tup (frzL xs)
  | .lst z xs => .lst z.frost (frzL xs)
def frzL : List D → List D
  | [] => []
  | x :: xs => x.frz :: frzL xs
end

inductive Id where
  | slot (i : Nat) | tmp (n : Nat) | out
  deriving DecidableEq
structure Loc where
  id : Id
  path : List Nat
def Loc.sub (l : Loc) (k : Nat) : Loc := ⟨l.id, k :: l.path⟩
abbrev Own := Addr → Option Loc

/-- what never changes -/
def stiff : HO → Bool
  | .lst _ => false | .dK _ => false | .dT _ => false | .set _ _ => false | .ins _ _ _ => false | .ext _ => false | _ => true
/-- a tuple; a list of the law's caller or of the text; a frozen list; an owned list -/
def TupR (K : PySem.W.Frag) (H : Hp) (a : Addr) (vs : List V) : Prop := SqT K H a vs
def LstX (K : PySem.W.Frag) (H : Hp) (a : Addr) (vs : List V) : Prop :=
  (∃ o, H a = some (.frz o (.lst vs))) ∨
    ∃ (o : Obj) (its : Array Value) (n : Nat), K.lookup a = some o ∧ o.cls = .type "list" ∧ o.dict = none ∧ o.data = .seq its n ∧ its.size ≤ sizeLine ∧ Vals vs its.toList
def LstR (ω : Own) (H : Hp) (a : Addr) (vs : List V) : Prop := H a = some (.lst vs) ∧ ω a = none
def LstW (ω : Own) (H : Hp) (a : Addr) (vs : List V) (l : Loc) : Prop := H a = some (.lst vs) ∧ ω a = some l
def LstZ (K : PySem.W.Frag) (ω : Own) (H : Hp) (a : Addr) (vs : List V) (l : Loc) : Z → Prop
  | .own => LstW ω H a vs l
  | .frz => LstR ω H a vs
  | .fix => LstX K H a vs

section
variable {K : PySem.W.Frag} {ω ω' : Own} {H H' : Hp} {a : Addr} {vs : List V}
theorem TupR.sq (h : TupR K H a vs) : SqT K H a vs := h
theorem LstX.sq (h : LstX K H a vs) : SqL K H a vs := by
  rcases h with h | h
  · exact .inl (.inr h)
  · exact .inr h
theorem LstZ.sq {l : Loc} {z : Z} (h : LstZ K ω H a vs l z) : SqL K H a vs := by
  cases z with
  | own => exact SqL.of h.1
  | frz => exact SqL.of h.1
  | fix => exact LstX.sq h
theorem LstZ.at {l : Loc} {z : Z} (h : LstZ K ω H a vs l z) (hz : z ≠ .fix) : H a = some (.lst vs) := by
  cases z with
  | own => exact h.1
  | frz => exact h.1
  | fix => exact absurd rfl hz
/-- stiff and unlabelled things stay -/
structure Calm (ω : Own) (H : Hp) (ω' : Own) (H' : Hp) : Prop where
  st : ∀ a o, H a = some o → stiff o = true → H' a = some o
  no : ∀ a o, H a = some o → ω a = none → H' a = some o ∧ ω' a = none
theorem TupR.calm (c : Calm ω H ω' H') (h : TupR K H a vs) : TupR K H' a vs := by
  rcases h with (h | ⟨o, h⟩) | h
  · exact .inl (.inl (c.st a _ h rfl))
  · exact .inl (.inr ⟨o, c.st a _ h rfl⟩)
  · exact .inr h
theorem LstR.calm (c : Calm ω H ω' H') (h : LstR ω H a vs) : LstR ω' H' a vs := c.no a _ h.1 h.2
theorem LstX.calm (c : Calm ω H ω' H') (h : LstX K H a vs) : LstX K H' a vs := by
  rcases h with ⟨o, h⟩ | h
  · exact .inl ⟨o, c.st a _ h rfl⟩
  · exact .inr h
end

mutual
def Rep (K : PySem.W.Frag) (ω : Own) (H : Hp) : D → V → Loc → Prop
  | .non, v, _ => v = .non
  | .bl b, v, _ => v = .bl b
  | .int i, v, _ => v = .int i
  | .str s, v, _ => v = .str s
  | .tup xs, v, l => ∃ a vs, v = .ref a ∧ TupR K H a vs ∧ Reps K ω H xs vs l 0
  | .lst z xs, v, l => ∃ a vs, v = .ref a ∧ LstZ K ω H a vs l z ∧ Reps K ω H xs vs l 0
def Reps (K : PySem.W.Frag) (ω : Own) (H : Hp) : List D → List V → Loc → Nat → Prop
  | [], vs, _, _ => vs = []
  | x :: xs, vs, l, k => ∃ v vs', vs = v :: vs' ∧ Rep K ω H x v (l.sub k) ∧ Reps K ω H xs vs' l (k + 1)
end

section
variable {K : PySem.W.Frag} {ω ω' : Own} {H H' : Hp}
/-- from l to l2 -/
def Goes (ω : Own) (H : Hp) (ω' : Own) (H' : Hp) (l l2 : Loc) : Prop :=
  ∀ a o s, H a = some o → ω a = some ⟨l.id, s ++ l.path⟩ → H' a = some o ∧ ω' a = some ⟨l2.id, s ++ l2.path⟩
theorem Goes.sub {l l2 : Loc} (g : Goes ω H ω' H' l l2) (k : Nat) : Goes ω H ω' H' (l.sub k) (l2.sub k) := fun a o s h w => by
  have := g a o (s ++ [k]) h (by simpa [Loc.sub] using w)
  simpa [Loc.sub] using this
mutual
theorem Rep.tr (c : Calm ω H ω' H') : ∀ {d : D} {v : V} {l l2 : Loc}, Goes ω H ω' H' l l2 → Rep K ω H d v l → Rep K ω' H' d v l2
  | .non, _, _, _, _, h => h
  | .bl _, _, _, _, _, h => h
  | .int _, _, _, _, _, h => h
  | .str _, _, _, _, _, h => h
  | .tup xs, v, l, l2, g, h => by
    simp only [Rep] at h ⊢
    obtain ⟨a, vs, e, t, r⟩ := h
    exact ⟨a, vs, e, t.calm c, Reps.tr c g r⟩
  | .lst z xs, v, l, l2, g, h => by
    simp only [Rep] at h ⊢
    obtain ⟨a, vs, e, t, r⟩ := h
    refine ⟨a, vs, e, ?_, Reps.tr c g r⟩
    cases z with
    | frz => exact LstR.calm c t
    | fix => exact LstX.calm c t
    | own =>
      have t' : LstW ω H a vs l := t
      have := g a _ [] t'.1 (by rw [t'.2]; rfl)
      exact ⟨this.1, by simpa using this.2⟩
theorem Reps.tr (c : Calm ω H ω' H') : ∀ {xs : List D} {vs : List V} {l l2 : Loc} {k : Nat}, Goes ω H ω' H' l l2 → Reps K ω H xs vs l k → Reps K ω' H' xs vs l2 k
  | [], _, _, _, _, _, h => h
  | x :: xs, vs, l, l2, k, g, h => by
    simp only [Reps] at h ⊢
    obtain ⟨v, vs', e, r, rs⟩ := h
    exact ⟨v, vs', e, Rep.tr c (g.sub k) r, Reps.tr c g rs⟩
end
/-- frozen -/
def Cools (ω : Own) (H : Hp) (ω' : Own) (H' : Hp) (l : Loc) : Prop :=
  ∀ a o s, H a = some o → ω a = some ⟨l.id, s ++ l.path⟩ → H' a = some o ∧ ω' a = none
theorem Cools.sub {l : Loc} (g : Cools ω H ω' H' l) (k : Nat) : Cools ω H ω' H' (l.sub k) := fun a o s h w =>
  g a o (s ++ [k]) h (by simpa [Loc.sub] using w)
mutual
theorem Rep.cool (c : Calm ω H ω' H') : ∀ {d : D} {v : V} {l l2 : Loc}, Cools ω H ω' H' l → Rep K ω H d v l → Rep K ω' H' d.frz v l2
  | .non, _, _, _, _, h => h
  | .bl _, _, _, _, _, h => h
  | .int _, _, _, _, _, h => h
  | .str _, _, _, _, _, h => h
  | .tup xs, v, l, l2, g, h => by
    simp only [Rep, D.frz] at h ⊢
    obtain ⟨a, vs, e, t, r⟩ := h
    exact ⟨a, vs, e, t.calm c, Reps.cool c g r⟩
  | .lst z xs, v, l, l2, g, h => by
    simp only [Rep, D.frz] at h ⊢
    obtain ⟨a, vs, e, t, r⟩ := h
    refine ⟨a, vs, e, ?_, Reps.cool c g r⟩
    cases z with
    | frz => exact LstR.calm c t
    | fix => exact LstX.calm c t
    | own =>
      have t' : LstW ω H a vs l := t
      exact g a _ [] t'.1 (by rw [t'.2]; rfl)
theorem Reps.cool (c : Calm ω H ω' H') : ∀ {xs : List D} {vs : List V} {l l2 : Loc} {k : Nat}, Cools ω H ω' H' l → Reps K ω H xs vs l k → Reps K ω' H' (frzL xs) vs l2 k
  | [], _, _, _, _, _, h => h
  | x :: xs, vs, l, l2, k, g, h => by
    simp only [Reps, frzL] at h ⊢
    obtain ⟨v, vs', e, r, rs⟩ := h
    exact ⟨v, vs', e, Rep.cool c (g.sub k) r, Reps.cool c g rs⟩
end
mutual
/-- what owns nothing stands anywhere -/
theorem Rep.any (c : Calm ω H ω' H') : ∀ {d : D} {v : V} {l : Loc} (l2 : Loc), d.cold = true → Rep K ω H d v l → Rep K ω' H' d v l2
  | .non, _, _, _, _, h => h
  | .bl _, _, _, _, _, h => h
  | .int _, _, _, _, _, h => h
  | .str _, _, _, _, _, h => h
  | .tup xs, v, l, l2, g, h => by
    simp only [Rep] at h ⊢
    obtain ⟨a, vs, e, t, r⟩ := h
    exact ⟨a, vs, e, t.calm c, Reps.any c l2 0 (by simpa [D.cold] using g) r⟩
  | .lst z xs, v, l, l2, g, h => by
    simp only [Rep] at h ⊢
    simp only [D.cold, Bool.and_eq_true] at g
    obtain ⟨gz, g⟩ := g
    obtain ⟨a, vs, e, t, r⟩ := h
    refine ⟨a, vs, e, ?_, Reps.any c l2 0 g r⟩
    cases z with
    | frz => exact LstR.calm c t
    | fix => exact LstX.calm c t
    | own => cases gz
theorem Reps.any (c : Calm ω H ω' H') : ∀ {xs : List D} {vs : List V} {l : Loc} {k : Nat} (l2 : Loc) (k2 : Nat), coldL xs = true → Reps K ω H xs vs l k → Reps K ω' H' xs vs l2 k2
  | [], _, _, _, _, _, _, h => h
  | x :: xs, vs, l, k, l2, k2, g, h => by
    simp only [Reps] at h ⊢
    simp only [coldL, Bool.and_eq_true] at g
    obtain ⟨v, vs', e, r, rs⟩ := h
    exact ⟨v, vs', e, Rep.any c _ g.1 r, Reps.any c l2 (k2 + 1) g.2 rs⟩
end
mutual
theorem D.imm_cold : ∀ {d : D}, d.imm = true → d.cold = true
  | .non, _ => rfl
  | .bl _, _ => rfl
  | .int _, _ => rfl
  | .str _, _ => rfl
  | .tup xs, h => by simp only [D.cold]; exact immL_cold (by simpa [D.imm] using h)
  | .lst _ _, h => by simp [D.imm] at h
theorem immL_cold : ∀ {xs : List D}, immL xs = true → coldL xs = true
  | [], _ => rfl
  | x :: xs, h => by
    simp only [immL, Bool.and_eq_true] at h
    simp only [coldL, Bool.and_eq_true]
    exact ⟨D.imm_cold h.1, immL_cold h.2⟩
end
theorem Calm.refl (ω : Own) (H : Hp) : Calm ω H ω H := ⟨fun _ _ h _ => h, fun _ _ h w => ⟨h, w⟩⟩
theorem Goes.refl (ω : Own) (H : Hp) (l : Loc) : Goes ω H ω H l l := fun _ _ _ h w => ⟨h, w⟩
theorem Reps.length : ∀ {xs : List D} {vs : List V} {l : Loc} {k : Nat}, Reps K ω H xs vs l k → xs.length = vs.length
  | [], _, _, _, h => by cases (show _ = [] from h); rfl
  | x :: xs, vs, l, k, h => by
    simp only [Reps] at h
    obtain ⟨v, vs', rfl, _, rs⟩ := h
    simp [Reps.length rs]
theorem Reps.get : ∀ {xs : List D} {vs : List V} {l : Loc} {k i : Nat} {d : D}, Reps K ω H xs vs l k → xs[i]? = some d → ∃ v, vs[i]? = some v ∧ Rep K ω H d v (l.sub (k + i))
  | [], _, _, _, _, _, _, h => by simp at h
  | x :: xs, vs, l, k, 0, d, r, h => by
    simp only [Reps] at r
    obtain ⟨v, vs', rfl, r1, _⟩ := r
    simp at h
    subst h
    exact ⟨v, rfl, r1⟩
  | x :: xs, vs, l, k, i + 1, d, r, h => by
    simp only [Reps] at r
    obtain ⟨v, vs', rfl, _, rs⟩ := r
    obtain ⟨w, e, q⟩ := Reps.get (i := i) rs (by simpa using h)
    exact ⟨w, by simpa using e, by rw [show k + (i + 1) = k + 1 + i by omega]; exact q⟩
theorem Reps.append : ∀ {xs ys : List D} {vs ws : List V} {l : Loc} {k : Nat}, Reps K ω H xs vs l k → Reps K ω H ys ws l (k + xs.length) → Reps K ω H (xs ++ ys) (vs ++ ws) l k
  | [], _, _, _, _, _, h, h2 => by
    cases (show _ = [] from h)
    simpa using h2
  | x :: xs, ys, vs, ws, l, k, h, h2 => by
    simp only [Reps] at h
    obtain ⟨v, vs', rfl, r, rs⟩ := h
    show Reps K ω H (x :: (xs ++ ys)) (v :: (vs' ++ ws)) l k
    simp only [Reps]
    exact ⟨v, _, rfl, r, Reps.append rs (by rw [show k + 1 + xs.length = k + (x :: xs).length by simp; omega]; exact h2)⟩
theorem coldL_append {xs ys : List D} : coldL (xs ++ ys) = (coldL xs && coldL ys) := by
  induction xs with
  | nil => simp [coldL]
  | cons x xs ih => simp [coldL, ih, Bool.and_assoc]
theorem coldL_mem {xs : List D} (h : coldL xs = true) : ∀ d ∈ xs, d.cold = true := by
  induction xs with
  | nil => intro d hd; cases hd
  | cons x xs ih =>
    simp only [coldL, Bool.and_eq_true] at h
    intro d hd
    cases hd with
    | head => exact h.1
    | tail _ hd => exact ih h.2 d hd
theorem coldL_of {xs : List D} (h : ∀ d ∈ xs, d.cold = true) : coldL xs = true := by
  induction xs with
  | nil => rfl
  | cons x xs ih =>
    simp only [coldL, Bool.and_eq_true]
    exact ⟨h x (by simp), ih fun d hd => h d (by simp [hd])⟩
theorem immL_of {xs : List D} (h : ∀ d ∈ xs, d.imm = true) : immL xs = true := by
  induction xs with
  | nil => rfl
  | cons x xs ih =>
    simp only [immL, Bool.and_eq_true]
    exact ⟨h x (by simp), ih fun d hd => h d (by simp [hd])⟩
mutual
theorem D.cold_frz : ∀ (d : D), d.frz.cold = true
  | .non => rfl
  | .bl _ => rfl
  | .int _ => rfl
  | .str _ => rfl
  | .tup xs => by simp only [D.frz, D.cold]; exact coldL_frz xs
  | .lst z xs => by
    simp only [D.frz, D.cold, Bool.and_eq_true]
    exact ⟨by cases z <;> rfl, coldL_frz xs⟩
theorem coldL_frz : ∀ (xs : List D), coldL (frzL xs) = true
  | [] => rfl
  | x :: xs => by simp only [frzL, coldL, Bool.and_eq_true]; exact ⟨D.cold_frz x, coldL_frz xs⟩
end
mutual
theorem D.frz_cold : ∀ {d : D}, d.cold = true → d.frz = d
  | .non, _ => rfl
  | .bl _, _ => rfl
  | .int _, _ => rfl
  | .str _, _ => rfl
  | .tup xs, h => by simp only [D.frz]; rw [frzL_cold (by simpa [D.cold] using h)]
  | .lst z xs, h => by
    simp only [D.cold, Bool.and_eq_true] at h
    simp only [D.frz]
    rw [frzL_cold h.2, show z.frost = z by cases z <;> first | rfl | cases h.1]
theorem frzL_cold : ∀ {xs : List D}, coldL xs = true → frzL xs = xs
  | [], _ => rfl
  | x :: xs, h => by
    simp only [coldL, Bool.and_eq_true] at h
    simp only [frzL]
    rw [D.frz_cold h.1, frzL_cold h.2]
end
end

/-! ### what is protected -/
def Prot (M : List Nat) (n : Nat) : Option Loc → Prop
  | none => True
  | some l => match l.id with
    | .slot i => i ∉ M
    | .tmp m => m < n
    | .out => True
structure Post (M : List Nat) (n : Nat) (ω : Own) (H : Hp) (ω' : Own) (H' : Hp) : Prop where
  st : ∀ a o, H a = some o → stiff o = true → H' a = some o
  pr : ∀ a o, H a = some o → Prot M n (ω a) → H' a = some o ∧ ω' a = ω a
theorem Prot.mono {M M' : List Nat} {n n' : Nat} (hM : ∀ i ∈ M, i ∈ M') (hn : n' ≤ n) {o : Option Loc} (h : Prot M' n' o) : Prot M n o := by
  cases o with
  | none => trivial
  | some l =>
    obtain ⟨id, p⟩ := l
    cases id with
    | slot i => exact fun q => h (hM i q)
    | tmp m => exact Nat.lt_of_lt_of_le h hn
    | out => trivial
theorem Post.mono {M M' : List Nat} {n n' : Nat} {ω ω' : Own} {H H' : Hp} (hM : ∀ i ∈ M, i ∈ M') (hn : n' ≤ n) (h : Post M n ω H ω' H') : Post M' n' ω H ω' H' :=
  ⟨h.st, fun a o e p => h.pr a o e (p.mono hM hn)⟩
theorem Post.refl (M : List Nat) (n : Nat) (ω : Own) (H : Hp) : Post M n ω H ω H := ⟨fun _ _ h _ => h, fun _ _ e _ => ⟨e, rfl⟩⟩
theorem Post.trans {M : List Nat} {n : Nat} {ω ω1 ω2 : Own} {H H1 H2 : Hp} (a : Post M n ω H ω1 H1) (b : Post M n ω1 H1 ω2 H2) : Post M n ω H ω2 H2 := ⟨fun x o e s => b.st x o (a.st x o e s) s, fun x o e p => by
  obtain ⟨e1, w1⟩ := a.pr x o e p
  obtain ⟨e2, w2⟩ := b.pr x o e1 (by rw [w1]; exact p)
  exact ⟨e2, w2.trans w1⟩⟩
theorem Post.calm {M : List Nat} {n : Nat} {ω ω' : Own} {H H' : Hp} (h : Post M n ω H ω' H') : Calm ω H ω' H' := ⟨h.st, fun a o e w => by
  obtain ⟨h1, h2⟩ := h.pr a o e (by rw [w]; trivial)
  exact ⟨h1, h2.trans w⟩⟩
/-- a place that is protected -/
def Loc.ok (M : List Nat) (n : Nat) (l : Loc) : Prop := match l.id with
  | .slot i => i ∉ M
  | .tmp m => m < n
  | .out => True
theorem Post.goes {M : List Nat} {n : Nat} {ω ω' : Own} {H H' : Hp} {l : Loc} (h : Post M n ω H ω' H') (ok : l.ok M n) : Goes ω H ω' H' l l := fun a o s e w => by
  have p : Prot M n (ω a) := by rw [w]; exact ok
  obtain ⟨h1, h2⟩ := h.pr a o e p
  exact ⟨h1, h2.trans w⟩
theorem Rep.post {K : PySem.W.Frag} {M : List Nat} {n : Nat} {ω ω' : Own} {H H' : Hp} {d : D} {v : V} {l : Loc} (r : Rep K ω H d v l) (h : Post M n ω H ω' H') (ok : l.ok M n) : Rep K ω' H' d v l :=
  r.tr h.calm (h.goes ok)

/-! ### where a value came from -/
inductive Src where
  | tmp
  | at (i : Nat) (p : List Nat)
def Src.loc (n : Nat) : Src → Loc
  | .tmp => ⟨.tmp n, []⟩
  | .at i p => ⟨.slot i, p⟩
/-- it isn't stale behind what may change the slots M -/
def Src.fresh (M : List Nat) : Src → Bool
  | .tmp => true
  | .at i _ => decide (i ∉ M)
theorem Src.fresh_ok {M : List Nat} {n m : Nat} {s : Src} (h : s.fresh M = true) (hn : n < m) : (s.loc n).ok M m := by
  cases s with
  | tmp => exact hn
  | «at» i p =>
    show i ∉ M
    exact of_decide_eq_true h

/-- the value at a path of owned lists of a slot -/
def VP (ω : Own) (H : Hp) (σ : L2.St) (i : Nat) : List Nat → V → Prop
  | [], v => σ[i]? = some (some v)
  | k :: p, v => ∃ a vs, VP ω H σ i p (.ref a) ∧ LstW ω H a vs ⟨.slot i, p⟩ ∧ vs[k]? = some v
def Src.good (ω : Own) (H : Hp) (σ : L2.St) : Src → V → Prop
  | .tmp, _ => True
  | .at i p, v => VP ω H σ i p v
theorem VP.post {M : List Nat} {n : Nat} {ω ω' : Own} {H H' : Hp} {σ : L2.St} {i : Nat} (h : Post M n ω H ω' H') (hi : i ∉ M) : ∀ {p : List Nat} {v : V}, VP ω H σ i p v → VP ω' H' σ i p v
  | [], _, q => q
  | k :: p, v, q => by
    obtain ⟨a, vs, q1, w, e⟩ := q
    obtain ⟨h1, h2⟩ := h.pr a _ w.1 (by rw [w.2]; exact hi)
    exact ⟨a, vs, VP.post h hi q1, ⟨h1, h2.trans w.2⟩, e⟩
theorem Src.good_post {M : List Nat} {n : Nat} {ω ω' : Own} {H H' : Hp} {σ : L2.St} {s : Src} {v : V} (h : Post M n ω H ω' H') (hf : s.fresh M = true) (q : s.good ω H σ v) : s.good ω' H' σ v := by
  cases s with
  | tmp => trivial
  | «at» i p => exact VP.post h (of_decide_eq_true hf) q

abbrev Env := List (Option D)
structure Rel (K : PySem.W.Frag) (fx : List (Nat × V)) (env : Env) (ω : Own) (σ : L2.St) (H : Hp) : Prop where
  len : env.length = σ.length
  rep : ∀ i d, env[i]? = some (some d) → ∃ v, σ[i]? = some (some v) ∧ Rep K ω H d v ⟨.slot i, []⟩
  fix : ∀ p ∈ fx, σ[p.1]? = some (some p.2)
theorem Rel.post {K : PySem.W.Frag} {fx : List (Nat × V)} {env : Env} {ω ω' : Own} {σ : L2.St} {H H' : Hp} {n : Nat} (R : Rel K fx env ω σ H) (h : Post [] n ω H ω' H') : Rel K fx env ω' σ H' :=
  ⟨R.len, fun i d e => by
    obtain ⟨v, e1, r⟩ := R.rep i d e
    exact ⟨v, e1, r.post h (by simp [Loc.ok])⟩, R.fix⟩
end VC

set_option Elab.async false
set_option linter.all false
set_option maxRecDepth 100000
/-! VC2: expressions, tests, arguments. -/
namespace VC
open PySem PySem.Spec PyProof.Rows L2

/-! ### relabelling -/
def relab (ω : Own) (m : Nat) (l2 : Loc) : Own := fun a => match ω a with
  | some ⟨.tmp m', s⟩ => if m' = m then some ⟨l2.id, s ++ l2.path⟩ else some ⟨.tmp m', s⟩
  | o => o
def dropSlots (ω : Own) (S : List Nat) : Own := fun a => match ω a with
  | some ⟨.slot j, s⟩ => if j ∈ S then none else some ⟨.slot j, s⟩
  | o => o
def dropTmp (ω : Own) (n : Nat) : Own := fun a => match ω a with
  | some ⟨.tmp m, s⟩ => if n ≤ m then none else some ⟨.tmp m, s⟩
  | o => o
def own1 (ω : Own) (p : Addr) (o : Option Loc) : Own := fun a => if a = p then o else ω a
section
variable {K : PySem.W.Frag} {ω ω' : Own} {H H' : Hp} {m n : Nat} {l l2 : Loc} {M : List Nat}
theorem relab_none {a : Addr} (h : ω a = none) : relab ω m l2 a = none := by unfold relab; rw [h]
theorem relab_tmp {a : Addr} {s : List Nat} (h : ω a = some ⟨.tmp m, s⟩) : relab ω m l2 a = some ⟨l2.id, s ++ l2.path⟩ := by unfold relab; rw [h]; simp
theorem relab_ne {a : Addr} {l : Loc} (h : ω a = some l) (hl : l.id ≠ .tmp m) : relab ω m l2 a = some l := by
  unfold relab
  rw [h]
  obtain ⟨id, p⟩ := l
  cases id with
  | slot i => rfl
  | out => rfl
  | tmp k =>
    have : k ≠ m := fun e => hl (by rw [e])
    simp [this]
theorem relab_post (hm : n ≤ m) : Post M n ω H (relab ω m l2) H := ⟨fun _ _ h _ => h, fun a o e p => ⟨e, by
  cases h : ω a with
  | none => exact relab_none h
  | some l =>
    refine relab_ne h fun q => ?_
    rw [h] at p
    obtain ⟨id, s⟩ := l
    cases (show id = .tmp m from q)
    exact absurd (show m < n from p) (Nat.not_lt.mpr hm)⟩⟩
theorem relab_goes : Goes ω H (relab ω m l2) H ⟨.tmp m, []⟩ l2 := fun a o s e w => ⟨e, by
  rw [relab_tmp (s := s) (by simpa using w)]⟩
theorem relab_calm : Calm ω H (relab ω m l2) H := ⟨fun _ _ h _ => h, fun a o e w => ⟨e, relab_none w⟩⟩
theorem relab_other (hl : l.id ≠ .tmp m) : Goes ω H (relab ω m l2) H l l := fun a o s e w => ⟨e, relab_ne w hl⟩
theorem Rep.relab {d : D} {v : V} (r : Rep K ω H d v ⟨.tmp m, []⟩) : Rep K (relab ω m l2) H d v l2 := r.tr relab_calm relab_goes
theorem Rep.relab_other {d : D} {v : V} (r : Rep K ω H d v l) (hl : l.id ≠ .tmp m) : Rep K (VC.relab ω m l2) H d v l := r.tr relab_calm (VC.relab_other hl)

theorem drop_none {a : Addr} {S : List Nat} (h : ω a = none) : dropSlots ω S a = none := by unfold dropSlots; rw [h]
theorem drop_ne {a : Addr} {S : List Nat} {l : Loc} (h : ω a = some l) (hl : ∀ i ∈ S, l.id ≠ .slot i) : dropSlots ω S a = some l := by
  unfold dropSlots
  rw [h]
  obtain ⟨id, p⟩ := l
  cases id with
  | tmp i => rfl
  | out => rfl
  | slot k =>
    have : k ∉ S := fun e => hl k e rfl
    simp [this]
theorem drop_at {a : Addr} {S : List Nat} {i : Nat} {s : List Nat} (hi : i ∈ S) (h : ω a = some ⟨.slot i, s⟩) : dropSlots ω S a = none := by unfold dropSlots; rw [h]; simp [hi]
theorem drop_post {S : List Nat} (hi : ∀ i ∈ S, i ∈ M) : Post M n ω H (dropSlots ω S) H := ⟨fun _ _ h _ => h, fun a o e p => ⟨e, by
  cases h : ω a with
  | none => exact drop_none h
  | some l =>
    refine drop_ne h fun i hS q => ?_
    rw [h] at p
    obtain ⟨id, s⟩ := l
    cases (show id = .slot i from q)
    exact absurd (hi i hS) (show i ∉ M from p)⟩⟩
theorem drop_calm {S : List Nat} : Calm ω H (dropSlots ω S) H := ⟨fun _ _ h _ => h, fun a o e w => ⟨e, drop_none w⟩⟩
theorem drop_cools {S : List Nat} {i : Nat} {p : List Nat} (hi : i ∈ S) : Cools ω H (dropSlots ω S) H ⟨.slot i, p⟩ := fun a o s e w => ⟨e, drop_at hi w⟩
theorem drop_other {S : List Nat} (hl : ∀ i ∈ S, l.id ≠ .slot i) : Goes ω H (dropSlots ω S) H l l := fun a o s e w => ⟨e, drop_ne w hl⟩

theorem own1_same {p : Addr} {o : Option Loc} : own1 ω p o p = o := by unfold own1; rw [if_pos rfl]
theorem own1_ne {p a : Addr} {o : Option Loc} (h : a ≠ p) : own1 ω p o a = ω a := by unfold own1; rw [if_neg h]
theorem new_post {p : Addr} {o : Option Loc} {u : HO} (hp : H p = none) : Post M n ω H (own1 ω p o) (upd H p u) := ⟨fun a x e _ => by
  rw [upd_ne (ne_of_none e hp)]; exact e, fun a x e _ => by
  have : a ≠ p := ne_of_none e hp
  exact ⟨by rw [upd_ne this]; exact e, own1_ne this⟩⟩
/-- a new list -/
theorem Rep.newL {xs : List D} {vs : List V} {p : Addr} {l3 : Loc} (hp : H p = none) (h : Reps K ω H xs vs l 0) (hl : coldL xs = true) :
    Rep K (own1 ω p (some l2)) (upd H p (.lst vs)) (.lst .own xs) (.ref p) l2 := by
  simp only [Rep]
  exact ⟨p, vs, rfl, ⟨upd_same, own1_same⟩, Reps.any (new_post (M := []) (n := 0) hp).calm _ _ hl h⟩
end

/-! ### a slot's data -/
def Env.get (env : Env) (i : Nat) : Option D := (env[i]?).join
theorem Env.get_some {env : Env} {i : Nat} {d : D} (h : env.get i = some d) : env[i]? = some (some d) := by
  unfold Env.get at h
  cases e : env[i]? with
  | none => rw [e] at h; cases h
  | some o =>
    rw [e] at h
    simp at h
    rw [h]
def Env.cools (env : Env) (S : List Nat) : Env := if S = [] then env else env.mapIdx fun j o => if j ∈ S then o.map D.frz else o
theorem Env.cools_nil (env : Env) : env.cools [] = env := rfl
theorem Env.cools_get (env : Env) (S : List Nat) (j : Nat) : (env.cools S)[j]? = if j ∈ S then (env[j]?).map (Option.map D.frz) else env[j]? := by
  unfold Env.cools
  by_cases h : S = []
  · subst h; simp
  · rw [if_neg h, List.getElem?_mapIdx]
    by_cases hj : j ∈ S
    · simp [hj]
    · simp [hj]
theorem Env.cools_length (env : Env) (S : List Nat) : (env.cools S).length = env.length := by
  unfold Env.cools
  split
  · rfl
  · simp

/-! ### expressions -/
abbrev EF := Env → Option (D × Src × Env)
abbrev TF := Env → Option (Bool × Env)
abbrev AF := Env → Option (List (D × Src) × Env)
def tE (K : PySem.W.Frag) (M : List Nat) (n : Nat) (f : EF) : TE := fun σ H Q => ∃ fx env ω d s env', Rel K fx env ω σ H ∧ f env = some (d, s, env') ∧
  ∀ v H' ω', Rel K fx env' ω' σ H' → Rep K ω' H' d v (s.loc n) ∧ s.good ω' H' σ v → Post M n ω H ω' H' → Q v H'
def tT (K : PySem.W.Frag) (M : List Nat) (n : Nat) (f : TF) : TT := fun σ H Q => ∃ fx env ω b env', Rel K fx env ω σ H ∧ f env = some (b, env') ∧
  ∀ H' ω', Rel K fx env' ω' σ H' → Post M n ω H ω' H' → Q b H'
inductive ARep (K : PySem.W.Frag) (ω : Own) (H : Hp) (σ : L2.St) : List (D × Src) → List V → Nat → Prop
  | nil {n} : ARep K ω H σ [] [] n
  | cons {d s as v vs n} : Rep K ω H d v (s.loc n) ∧ s.good ω H σ v → ARep K ω H σ as vs (n + 1) → ARep K ω H σ ((d, s) :: as) (v :: vs) n
def tA (K : PySem.W.Frag) (M : List Nat) (n : Nat) (f : AF) : TA := fun σ H Q => ∃ fx env ω as env', Rel K fx env ω σ H ∧ f env = some (as, env') ∧
  ∀ vs H' ω', Rel K fx env' ω' σ H' → ARep K ω' H' σ as vs n → Post M n ω H ω' H' → Q vs H'
def CE (X : Cx) (e : Expr) (M : List Nat) (f : EF) : Prop := ∀ n, PE X e (tE X.K M n f)
def CT (X : Cx) (e : Expr) (M : List Nat) (f : TF) : Prop := ∀ n, PT X e (tT X.K M n f)
def CW (X : Cx) (e : Expr) (M : List Nat) (f : TF) : Prop := ∀ n, PW X e (tT X.K M n f)
def CA (X : Cx) (es : List Expr) (M : List Nat) (f : AF) : Prop := ∀ n, PA X es (tA X.K M n f)

theorem pe_of {X : Cx} {e : Expr} {t t' : TE} (h : PE X e t) (i : ∀ σ H Q, t' σ H Q → t σ H Q) : PE X e t' := ⟨fun pins s σ H Q I hw => h.run pins s σ H Q I (i σ H Q hw)⟩
theorem pt_of {X : Cx} {e : Expr} {t t' : TT} (h : PT X e t) (i : ∀ σ H Q, t' σ H Q → t σ H Q) : PT X e t' := ⟨fun pins s σ H Q I hw => h.run pins s σ H Q I (i σ H Q hw)⟩
theorem pw_of {X : Cx} {e : Expr} {t t' : TT} (h : PW X e t) (i : ∀ σ H Q, t' σ H Q → t σ H Q) : PW X e t' := ⟨fun wh pins s σ H Q I hw => h.run wh pins s σ H Q I (i σ H Q hw)⟩
theorem pa_of {X : Cx} {es : List Expr} {t t' : TA} (h : PA X es t) (i : ∀ σ H Q, t' σ H Q → t σ H Q) : PA X es t' := ⟨fun pos pins s σ H Q I hw => h.run pos pins s σ H Q I (i σ H Q hw)⟩
theorem ps_of {X : Cx} {st : Stmt} {t t' : TS} (h : PS X st t) (i : ∀ D σ H, t' D σ H → t D σ H) : PS X st t' := ⟨fun pins s σ H D I hw => h.run pins s σ H D I (i D σ H hw)⟩
theorem pss_of {X : Cx} {st : List Stmt} {t t' : TS} (h : PSs X st t) (i : ∀ D σ H, t' D σ H → t D σ H) : PSs X st t' := ⟨fun pins s σ H D I hw => h.run pins s σ H D I (i D σ H hw)⟩

section
variable {X : Cx} {a b c : Expr} {es : List Expr} {Ma Mb Mc : List Nat} {fa fb fc : EF} {ta tb tc : TF} {fr : AF} {pos : Pos}
theorem memL {Ma Mb : List Nat} : ∀ i ∈ Ma, i ∈ Ma ++ Mb := fun _ h => List.mem_append_left _ h
theorem memR {Ma Mb : List Nat} : ∀ i ∈ Mb, i ∈ Ma ++ Mb := fun _ h => List.mem_append_right _ h
theorem mem0 {Ma : List Nat} : ∀ i ∈ ([] : List Nat), i ∈ Ma := fun _ h => nomatch h

def varE (i : Nat) : EF := fun env => (env.get i).map fun d => (d, if d.imm then .tmp else .at i [], env)
theorem ce_var (i : Nat) {x : Str} (hN : X.N[i]? = some x := by rfl) (hv : Vis X.env.scope x := by first | exact Or.inl rfl | exact Or.inr (Or.inl rfl) | exact Or.inr (Or.inr rfl)) (hd : (x == ("__debug__" : Str)) = false := by decide)
    (hcd : (x == ("__classdict__" : Str)) = false := by decide) : CE X (.Name x pos) [] (varE i) := fun n => pe_of (pe_var hN hv hd hcd) fun σ H Q h => by
  obtain ⟨fx, env, ω, d, s, env', R, e, k⟩ := h
  unfold varE at e
  cases eg : env.get i with
  | none => rw [eg] at e; cases e
  | some d' =>
    rw [eg] at e
    simp only [Option.map_some, Option.some.injEq, Prod.mk.injEq] at e
    obtain ⟨rfl, rfl, rfl⟩ := e
    obtain ⟨v, e1, r⟩ := R.rep i _ (Env.get_some eg)
    refine ⟨v, e1, k v H ω R ?_ (Post.refl _ _ _ _)⟩
    cases hi : d'.imm with
    | false => exact ⟨r, e1⟩
    | true => exact ⟨r.any (Calm.refl _ _) _ (D.imm_cold hi), trivial⟩

def constE (d : D) : EF := fun env => some (d, .tmp, env)
theorem ce_const {e : Expr} {v : V} {d : D} (h : PE X e (tC v)) (r : ∀ K ω H l, Rep K ω H d v l) : CE X e [] (constE d) := fun n => pe_of h fun σ H Q h => by
  obtain ⟨fx, env, ω, d, s, env', R, e, k⟩ := h
  cases e
  exact k v H ω R ⟨r _ _ _ _, trivial⟩ (Post.refl _ _ _ _)
theorem ce_int {i : Int} {j} : CE X (.Constant (.int i) j pos) [] (constE (.int i)) := ce_const pe_int fun _ _ _ _ => rfl
theorem ce_bl {i : Bool} {j} : CE X (.Constant (.bool i) j pos) [] (constE (.bl i)) := ce_const pe_bl fun _ _ _ _ => rfl
theorem ce_non {j} : CE X (.Constant .none j pos) [] (constE .non) := ce_const pe_non fun _ _ _ _ => rfl
theorem ce_str {i : Str} {j} : CE X (.Constant (.str i) j pos) [] (constE (.str i)) := ce_const pe_str fun _ _ _ _ => rfl
/-- a module's constant: an int, a text -/
theorem ce_glob {x : Str} {v : V} {u : Value} {d : D} (hg : Gl X x) (hm : X.mg x = some u) (r : RelV v u) (q : ∀ K ω H l, Rep K ω H d v l) (hd : (x == ("__debug__" : Str)) = false := by decide) : CE X (.Name x pos) [] (constE d) :=
  ce_const (pe_glob hg hm r hd) q

/-! ### two values, one value -/
def Op2 (K : PySem.W.Frag) (r : R2) (g : D → D → Option D) : Prop := ∀ {ω : Own} {H : Hp} {x y : V} {d1 d2 : D} {l1 l2 : Loc} {d : D} (n : Nat) {Q : VK},
  Rep K ω H d1 x l1 → Rep K ω H d2 y l2 → g d1 d2 = some d → (∀ v H' ω', Rep K ω' H' d v ⟨.tmp n, []⟩ → Post [] n ω H ω' H' → Q v H') → r x y H Q
def Op1 (K : PySem.W.Frag) (r : V → Hp → VK → Prop) (g : D → Option D) : Prop := ∀ {ω : Own} {H : Hp} {x : V} {d1 : D} {l1 : Loc} {d : D} (n : Nat) {Q : VK},
  Rep K ω H d1 x l1 → g d1 = some d → (∀ v H' ω', Rep K ω' H' d v ⟨.tmp n, []⟩ → Post [] n ω H ω' H' → Q v H') → r x H Q
def op2E (g : D → D → Option D) (Mb : List Nat) (fa fb : EF) : EF := fun env =>
  (fa env).bind fun p => (fb p.2.2).bind fun q => if p.2.1.fresh Mb = true then (g p.1 q.1).map fun d => (d, .tmp, q.2.2) else none
def op1E (g : D → Option D) (fa : EF) : EF := fun env => (fa env).bind fun p => (g p.1).map fun d => (d, .tmp, p.2.2)
theorem op2E_some {g : D → D → Option D} {env : Env} {z : D × Src × Env} (h : op2E g Mb fa fb env = some z) :
    ∃ d1 s1 env1 d2 s2 env2 d, fa env = some (d1, s1, env1) ∧ fb env1 = some (d2, s2, env2) ∧ s1.fresh Mb = true ∧ g d1 d2 = some d ∧ z = (d, .tmp, env2) := by
  unfold op2E at h
  obtain ⟨⟨d1, s1, env1⟩, e1, h⟩ := Option.bind_eq_some_iff.mp h
  obtain ⟨⟨d2, s2, env2⟩, e2, h⟩ := Option.bind_eq_some_iff.mp h
  split at h
  · rename_i hf
    obtain ⟨d, e3, h⟩ := Option.map_eq_some_iff.mp h
    exact ⟨d1, s1, env1, d2, s2, env2, d, e1, e2, hf, e3, h.symm⟩
  · cases h
theorem op1E_some {g : D → Option D} {env : Env} {z : D × Src × Env} (h : op1E g fa env = some z) : ∃ d1 s1 env1 d, fa env = some (d1, s1, env1) ∧ g d1 = some d ∧ z = (d, .tmp, env1) := by
  unfold op1E at h
  obtain ⟨⟨d1, s1, env1⟩, e1, h⟩ := Option.bind_eq_some_iff.mp h
  obtain ⟨d, e3, h⟩ := Option.map_eq_some_iff.mp h
  exact ⟨d1, s1, env1, d, e1, e3, h.symm⟩
theorem tOp2 {r : R2} {g : D → D → Option D} (hg : Op2 X.K r g) (n : Nat) {σ : L2.St} {H : Hp} {Q : VK} (h : tE X.K (Ma ++ Mb) n (op2E g Mb fa fb) σ H Q) : tOp r (tE X.K Ma n fa) (tE X.K Mb (n + 1) fb) σ H Q := by
  obtain ⟨fx, env, ω, d, s, env', R, e, k⟩ := h
  obtain ⟨d1, s1, env1, d2, s2, env2, d', e1, e2, hf, e3, ez⟩ := op2E_some e
  simp only [Prod.mk.injEq] at ez
  obtain ⟨rfl, rfl, rfl⟩ := ez
  refine ⟨fx, env, ω, d1, s1, env1, R, e1, fun v H1 ω1 R1 r1 p1 => ⟨fx, env1, ω1, d2, s2, _, R1, e2, fun w H2 ω2 R2 r2 p2 => ?_⟩⟩
  refine hg n (r1.1.post p2 (Src.fresh_ok hf (Nat.lt_succ_self n))) r2.1 e3 fun v' H' ω' r' p3 => ?_
  exact k v' H' ω' (R2.post p3) ⟨r', trivial⟩ (((p1.mono memL (Nat.le_refl _)).trans (p2.mono memR (Nat.le_succ n))).trans (p3.mono mem0 (Nat.le_refl _)))
theorem ce_op {op : Operator} {r : R2} {g : D → D → Option D} (ho : OpR X (binaryOp op) r) (hg : Op2 X.K r g) (ha : CE X a Ma fa) (hb : CE X b Mb fb) : CE X (.BinOp a op b pos) (Ma ++ Mb) (op2E g Mb fa fb) :=
  fun n => pe_of (pe_op ho (ha n) (hb (n + 1))) fun σ H Q h => tOp2 hg n h
theorem ce_cmp {op : CmpOp} {r : R2} {g : D → D → Option D} (ho : OpR X (compareOp op) r) (hg : Op2 X.K r g) (ha : CE X a Ma fa) (hb : CE X b Mb fb) (hm : behindInMarks op b = false := by first | exact nomark _ | rfl) : CE X (.Compare a [op] [b] pos) (Ma ++ Mb) (op2E g Mb fa fb) :=
  fun n => pe_of (pe_cmpR ho (ha n) (hb (n + 1)) hm) fun σ H Q h => tOp2 hg n h
theorem ce_ix {r : R2} {g : D → D → Option D} (hr : IxR X r) (hg : Op2 X.K r g) (ha : CE X a Ma fa) (hb : CE X b Mb fb) (hs : PlainIx b := by exact fun _ _ => rfl) : CE X (.Subscript a b pos) (Ma ++ Mb) (op2E g Mb fa fb) :=
  fun n => pe_of (pe_ix hr (ha n) (hb (n + 1)) hs) fun σ H Q h => tOp2 hg n h
theorem ce_un {op : UnaryOp} {r : V → Hp → VK → Prop} {g : D → Option D} (ho : UnR X (unaryOp op) r) (hg : Op1 X.K r g) (ha : CE X a Ma fa) : CE X (.UnaryOp op a pos) Ma (op1E g fa) :=
  fun n => pe_of (pe_un ho (ha n)) fun σ H Q h => by
    obtain ⟨fx, env, ω, d, s, env', R, e, k⟩ := h
    obtain ⟨d1, s1, env1, d', e1, e3, ez⟩ := op1E_some e
    simp only [Prod.mk.injEq] at ez
    obtain ⟨rfl, rfl, rfl⟩ := ez
    refine ⟨fx, env, ω, d1, s1, _, R, e1, fun v H1 ω1 R1 r1 p1 => hg n r1.1 e3 fun v' H' ω' r' p3 => ?_⟩
    exact k v' H' ω' (R1.post p3) ⟨r', trivial⟩ (p1.trans (p3.mono mem0 (Nat.le_refl _)))

/-! ### tests -/
def gTru : D → Option Bool
  | .non => some false
  | .bl b => some b
  | .int i => some (i != 0)
  | .str s => if s.length ≤ sizeLine then some ((s.length : Int) != 0) else none
  | .tup xs => some (!xs.isEmpty)
  | .lst _ xs => some (!xs.isEmpty)
def testT (fa : EF) : TF := fun env => (fa env).bind fun p => (gTru p.1).map fun b => (b, p.2.2)
def boolT (fa : EF) : TF := fun env => (fa env).bind fun p => match p.1 with
  | .bl b => some (b, p.2.2)
  | _ => none
def notT (t : TF) : TF := fun env => (t env).map fun p => (!p.1, p.2)
def andT (t u : TF) : TF := fun env => (t env).bind fun p => if p.1 = true then u p.2 else some (false, p.2)
def orT (t u : TF) : TF := fun env => (t env).bind fun p => if p.1 = true then some (true, p.2) else u p.2
theorem tru_rep {K : PySem.W.Frag} {ω : Own} {H : Hp} {d : D} {v : V} {l : Loc} {b : Bool} (r : Rep K ω H d v l) (h : gTru d = some b) : TruV K v H b := by
  cases d with
  | non => cases (show v = _ from r); cases h; rfl
  | bl _ => cases (show v = _ from r); cases h; rfl
  | int _ => cases (show v = _ from r); cases h; rfl
  | str s =>
    cases (show v = _ from r)
    simp only [gTru] at h
    split at h
    · rename_i hl
      cases h; exact ⟨hl, rfl⟩
    · cases h
  | tup xs =>
    simp only [Rep] at r
    obtain ⟨a, vs, rfl, t, rs⟩ := r
    cases h
    refine .inr (.inl ⟨vs, t.sq, ?_⟩)
    have := rs.length
    cases xs <;> cases vs <;> simp_all
  | lst z xs =>
    simp only [Rep] at r
    obtain ⟨a, vs, rfl, t, rs⟩ := r
    cases h
    refine .inl ⟨vs, t.sq, ?_⟩
    have := rs.length
    cases xs <;> cases vs <;> simp_all
theorem ct_truth (ha : CE X a Ma fa) (he : ∀ whole, isTrue a X.env whole = (do let v ← whole; standAt a.pos; holding [v] (truthy v)) := by intro _; rfl) : CT X a Ma (testT fa) :=
  fun n => pt_of (pt_truth (ha n) he) fun σ H Q h => by
    obtain ⟨fx, env, ω, b, env', R, e, k⟩ := h
    unfold testT at e
    obtain ⟨⟨d1, s1, env1⟩, e1, h⟩ := Option.bind_eq_some_iff.mp e
    obtain ⟨b', e3, h⟩ := Option.map_eq_some_iff.mp h
    cases h
    exact ⟨fx, env, ω, d1, s1, env1, R, e1, fun v H1 ω1 R1 r1 p1 => ⟨_, tru_rep r1.1 e3, k H1 ω1 R1 p1⟩⟩
theorem boolT_some {env : Env} {z : Bool × Env} (h : boolT fa env = some z) : ∃ s, fa env = some (.bl z.1, s, z.2) := by
  unfold boolT at h
  obtain ⟨⟨d1, s1, env1⟩, e1, h⟩ := Option.bind_eq_some_iff.mp h
  cases d1 with
  | bl b => cases h; exact ⟨s1, e1⟩
  | _ => cases h
theorem tB_of {n : Nat} {σ : L2.St} {H : Hp} {Q : Bool → Hp → Prop} (h : tT X.K Ma n (boolT fa) σ H Q) : tTest (tE X.K Ma n fa) σ H Q := by
  obtain ⟨fx, env, ω, b, env', R, e, k⟩ := h
  obtain ⟨s, e1⟩ := boolT_some e
  exact ⟨fx, env, ω, _, s, _, R, e1, fun v H1 ω1 R1 r1 p1 => ⟨b, r1.1, k H1 ω1 R1 p1⟩⟩
theorem ct_cmp {op : CmpOp} {r : R2} {g : D → D → Option D} (ho : OpR X (compareOp op) r) (hg : Op2 X.K r g) (ha : CE X a Ma fa) (hb : CE X b Mb fb) (hm : behindInMarks op b = false := by first | exact nomark _ | rfl) : CT X (.Compare a [op] [b] pos) (Ma ++ Mb) (boolT (op2E g Mb fa fb)) :=
  fun n => pt_of (pt_cmpR ho (ha n) (hb (n + 1)) hm) fun σ H Q h => by
    obtain ⟨fx, env, ω, b, env', R, e, k⟩ := h
    obtain ⟨s, e1⟩ := boolT_some e
    exact tOp2 hg n ⟨fx, env, ω, _, s, _, R, e1, fun v H1 ω1 R1 r1 p1 => ⟨b, r1.1, k H1 ω1 R1 p1⟩⟩
theorem ct_not (ha : CT X a Ma ta) : CT X (.UnaryOp .Not a pos) Ma (notT ta) := fun n => pt_of (pt_not (ha n)) fun σ H Q h => by
  obtain ⟨fx, env, ω, b, env', R, e, k⟩ := h
  unfold notT at e
  obtain ⟨⟨b', env1⟩, e1, h⟩ := Option.map_eq_some_iff.mp e
  cases h
  exact ⟨fx, env, ω, b', env1, R, e1, fun H1 ω1 R1 p1 => k H1 ω1 R1 p1⟩
theorem tAnd_of {n : Nat} {σ : L2.St} {H : Hp} {Q : Bool → Hp → Prop} (h : tT X.K (Ma ++ Mb) n (andT ta tb) σ H Q) : tAnd (tT X.K Ma n ta) (tT X.K Mb n tb) σ H Q := by
  obtain ⟨fx, env, ω, b, env', R, e, k⟩ := h
  unfold andT at e
  obtain ⟨⟨b', env1⟩, e1, h⟩ := Option.bind_eq_some_iff.mp e
  refine ⟨fx, env, ω, b', env1, R, e1, fun H1 ω1 R1 p1 => ?_⟩
  cases b' with
  | false => cases h; exact k H1 ω1 R1 (p1.mono memL (Nat.le_refl _))
  | true => exact ⟨fx, env1, ω1, b, env', R1, h, fun H2 ω2 R2 p2 => k H2 ω2 R2 ((p1.mono memL (Nat.le_refl _)).trans (p2.mono memR (Nat.le_refl _)))⟩
theorem tOr_of {n : Nat} {σ : L2.St} {H : Hp} {Q : Bool → Hp → Prop} (h : tT X.K (Ma ++ Mb) n (orT ta tb) σ H Q) : tOr (tT X.K Ma n ta) (tT X.K Mb n tb) σ H Q := by
  obtain ⟨fx, env, ω, b, env', R, e, k⟩ := h
  unfold orT at e
  obtain ⟨⟨b', env1⟩, e1, h⟩ := Option.bind_eq_some_iff.mp e
  refine ⟨fx, env, ω, b', env1, R, e1, fun H1 ω1 R1 p1 => ?_⟩
  cases b' with
  | true => cases h; exact k H1 ω1 R1 (p1.mono memL (Nat.le_refl _))
  | false => exact ⟨fx, env1, ω1, b, env', R1, h, fun H2 ω2 R2 p2 => k H2 ω2 R2 ((p1.mono memL (Nat.le_refl _)).trans (p2.mono memR (Nat.le_refl _)))⟩
theorem ct_w (h : CW X a Ma ta) : CT X a Ma ta := fun n => (h n).pt
theorem cw_and1 (ha : CT X a Ma ta) : CW X (.BoolOp .And [a] pos) Ma ta := fun n => pw_and1 (ha n)
theorem cw_or1 (ha : CT X a Ma ta) : CW X (.BoolOp .Or [a] pos) Ma ta := fun n => pw_or1 (ha n)
theorem cw_and (ha : CT X a Ma ta) (hb : CW X (.BoolOp .And (b :: es) pos) Mb tb) : CW X (.BoolOp .And (a :: b :: es) pos) (Ma ++ Mb) (andT ta tb) := fun n => pw_of (pw_and (ha n) (hb n)) fun _ _ _ h => tAnd_of h
theorem cw_or (ha : CT X a Ma ta) (hb : CW X (.BoolOp .Or (b :: es) pos) Mb tb) : CW X (.BoolOp .Or (a :: b :: es) pos) (Ma ++ Mb) (orT ta tb) := fun n => pw_of (pw_or (ha n) (hb n)) fun _ _ _ h => tOr_of h
/-- and, or, not as values: bools -/
def ofT (t : TF) : EF := fun env => (t env).map fun p => (.bl p.1, .tmp, p.2)
def andE (fa fb : EF) : EF := fun env => (fa env).bind fun p => match p.1 with
  | .bl true => fb p.2.2
  | .bl false => some (.bl false, .tmp, p.2.2)
  | _ => none
def orE (fa fb : EF) : EF := fun env => (fa env).bind fun p => match p.1 with
  | .bl true => some (.bl true, .tmp, p.2.2)
  | .bl false => fb p.2.2
  | _ => none
def notE (fa : EF) : EF := fun env => (fa env).bind fun p => match p.1 with
  | .bl b => some (.bl (!b), .tmp, p.2.2)
  | _ => none
theorem ce_one {op} (h : CE X a Ma fa) : CE X (.BoolOp op [a] pos) Ma fa := fun n => pe_one (h n)
theorem ce_and (ha : CE X a Ma fa) (hb : CE X (.BoolOp .And (b :: es) pos) Mb fb) : CE X (.BoolOp .And (a :: b :: es) pos) (Ma ++ Mb) (andE fa fb) := fun n => pe_of (pe_and (ha n) (hb n)) fun σ H Q h => by
  obtain ⟨fx, env, ω, d, s, env', R, e, k⟩ := h
  unfold andE at e
  obtain ⟨⟨d1, s1, env1⟩, e1, h⟩ := Option.bind_eq_some_iff.mp e
  refine ⟨fx, env, ω, d1, s1, env1, R, e1, fun v H1 ω1 R1 r1 p1 => ?_⟩
  cases d1 with
  | bl b' =>
    refine ⟨b', r1.1, ?_⟩
    cases b' with
    | false => cases h; exact k _ H1 ω1 R1 ⟨rfl, trivial⟩ (p1.mono memL (Nat.le_refl _))
    | true => exact ⟨fx, env1, ω1, d, s, env', R1, h, fun v' H2 ω2 R2 r2 p2 => k v' H2 ω2 R2 r2 ((p1.mono memL (Nat.le_refl _)).trans (p2.mono memR (Nat.le_refl _)))⟩
  | _ => cases h
theorem ce_or (ha : CE X a Ma fa) (hb : CE X (.BoolOp .Or (b :: es) pos) Mb fb) : CE X (.BoolOp .Or (a :: b :: es) pos) (Ma ++ Mb) (orE fa fb) := fun n => pe_of (pe_or (ha n) (hb n)) fun σ H Q h => by
  obtain ⟨fx, env, ω, d, s, env', R, e, k⟩ := h
  unfold orE at e
  obtain ⟨⟨d1, s1, env1⟩, e1, h⟩ := Option.bind_eq_some_iff.mp e
  refine ⟨fx, env, ω, d1, s1, env1, R, e1, fun v H1 ω1 R1 r1 p1 => ?_⟩
  cases d1 with
  | bl b' =>
    refine ⟨b', r1.1, ?_⟩
    cases b' with
    | true => cases h; exact k _ H1 ω1 R1 ⟨rfl, trivial⟩ (p1.mono memL (Nat.le_refl _))
    | false => exact ⟨fx, env1, ω1, d, s, env', R1, h, fun v' H2 ω2 R2 r2 p2 => k v' H2 ω2 R2 r2 ((p1.mono memL (Nat.le_refl _)).trans (p2.mono memR (Nat.le_refl _)))⟩
  | _ => cases h
theorem ce_not (ha : CE X a Ma fa) : CE X (.UnaryOp .Not a pos) Ma (notE fa) := fun n => pe_of (pe_not (ha n)) fun σ H Q h => by
  obtain ⟨fx, env, ω, d, s, env', R, e, k⟩ := h
  unfold notE at e
  obtain ⟨⟨d1, s1, env1⟩, e1, h⟩ := Option.bind_eq_some_iff.mp e
  refine ⟨fx, env, ω, d1, s1, env1, R, e1, fun v H1 ω1 R1 r1 p1 => ?_⟩
  cases d1 with
  | bl b' => cases h; exact ⟨b', r1.1, k _ H1 ω1 R1 ⟨rfl, trivial⟩ p1⟩
  | _ => cases h
/-- a if t else b -/
def ifE (t : TF) (fa fb : EF) : EF := fun env => (t env).bind fun p => if p.1 = true then fa p.2 else fb p.2
theorem ce_if (hc : CT X c Mc tc) (ha : CE X a Ma fa) (hb : CE X b Mb fb) : CE X (.IfExp c a b pos) (Mc ++ (Ma ++ Mb)) (ifE tc fa fb) := fun n => pe_of (pe_ifExp (hc n) (ha n) (hb n)) fun σ H Q h => by
  obtain ⟨fx, env, ω, d, s, env', R, e, k⟩ := h
  unfold ifE at e
  obtain ⟨⟨b', env1⟩, e1, h⟩ := Option.bind_eq_some_iff.mp e
  refine ⟨fx, env, ω, b', env1, R, e1, fun H1 ω1 R1 p1 => ?_⟩
  cases b' with
  | true => exact ⟨fx, env1, ω1, d, s, env', R1, h, fun v' H2 ω2 R2 r2 p2 => k v' H2 ω2 R2 r2 ((p1.mono memL (Nat.le_refl _)).trans (p2.mono (fun i hi => memR i (memL i hi)) (Nat.le_refl _)))⟩
  | false => exact ⟨fx, env1, ω1, d, s, env', R1, h, fun v' H2 ω2 R2 r2 p2 => k v' H2 ω2 R2 r2 ((p1.mono memL (Nat.le_refl _)).trans (p2.mono (fun i hi => memR i (memR i hi)) (Nat.le_refl _)))⟩

/-! ### a < b < c -/
def chainE (g g' : D → D → Option D) (Mb Mc : List Nat) (fa fb fc : EF) : EF := fun env =>
  (fa env).bind fun p => (fb p.2.2).bind fun q => if p.2.1.fresh Mb = true then (g p.1 q.1).bind fun z => match z with
    | .bl true => (fc q.2.2).bind fun r => if q.2.1.fresh Mc = true then (g' q.1 r.1).map fun d => (d, .tmp, r.2.2) else none
    | .bl false => some (.bl false, .tmp, q.2.2)
    | _ => none
  else none
theorem tChain_of {r r' : R2} {g g' : D → D → Option D} (hg : Op2 X.K r g) (hg' : Op2 X.K r' g') (n : Nat) {σ : L2.St} {H : Hp} {Q : VK} (h : tE X.K (Ma ++ (Mb ++ Mc)) n (chainE g g' Mb Mc fa fb fc) σ H Q) :
    tChain r r' (tE X.K Ma n fa) (tE X.K Mb (n + 1) fb) (tE X.K Mc (n + 2) fc) σ H Q := by
  obtain ⟨fx, env, ω, d, s, env', R, e, k⟩ := h
  unfold chainE at e
  obtain ⟨⟨d1, s1, env1⟩, e1, h⟩ := Option.bind_eq_some_iff.mp e
  obtain ⟨⟨d2, s2, env2⟩, e2, h⟩ := Option.bind_eq_some_iff.mp h
  split at h
  case isFalse => cases h
  case isTrue hf =>
  obtain ⟨z, e3, h⟩ := Option.bind_eq_some_iff.mp h
  refine ⟨fx, env, ω, d1, s1, env1, R, e1, fun v H1 ω1 R1 r1 p1 => ⟨fx, env1, ω1, d2, s2, env2, R1, e2, fun w H2 ω2 R2 r2 p2 => ?_⟩⟩
  refine hg (n + 2) (r1.1.post p2 (Src.fresh_ok hf (Nat.lt_succ_self n))) r2.1 e3 fun v3 H3 ω3 r3 p3 => ?_
  have q3 : Post (Ma ++ (Mb ++ Mc)) n ω H ω3 H3 := (((p1.mono memL (Nat.le_refl _)).trans (p2.mono (fun i hi => memR i (memL i hi)) (Nat.le_succ n))).trans (p3.mono mem0 (by omega)))
  cases z with
  | bl b' =>
    refine ⟨b', r3, ?_⟩
    cases b' with
    | false => cases h; exact k _ H3 ω3 (R2.post p3) ⟨rfl, trivial⟩ q3
    | true =>
      obtain ⟨⟨d4, s4, env4⟩, e4, h⟩ := Option.bind_eq_some_iff.mp h
      split at h
      case isFalse => cases h
      case isTrue hf2 =>
      obtain ⟨d5, e5, h⟩ := Option.map_eq_some_iff.mp h
      cases h
      refine ⟨fx, env2, ω3, d4, s4, env4, R2.post p3, e4, fun v4 H4 ω4 R4 r4 p4 => ?_⟩
      have r2' := (r2.1.post p3 (by cases s2 with | tmp => exact Nat.lt_succ_self _ | «at» i p => show i ∉ []; simp)).post p4 (Src.fresh_ok hf2 (Nat.lt_succ_self _))
      exact hg' n r2' r4.1 e5 fun v' H' ω' r' p5 => k v' H' ω' (R4.post p5) ⟨r', trivial⟩ ((q3.trans (p4.mono (fun i hi => memR i (memR i hi)) (by omega))).trans (p5.mono mem0 (Nat.le_refl _)))
  | _ => cases h
theorem ce_chain {op op' : CmpOp} {r r' : R2} {g g' : D → D → Option D} (ho : OpR X (compareOp op) r) (hg : Op2 X.K r g) (ho' : OpR X (compareOp op') r') (hg' : Op2 X.K r' g') (ha : CE X a Ma fa) (hb : CE X b Mb fb) (hc : CE X c Mc fc)
    (hm : lastMarks [op, op'] [b, c] = false := by with_unfolding_all rfl) : CE X (.Compare a [op, op'] [b, c] pos) (Ma ++ (Mb ++ Mc)) (chainE g g' Mb Mc fa fb fc) := fun n => pe_of (pe_chain ho ho' (ha n) (hb (n + 1)) (hc (n + 2)) hm) fun σ H Q h => tChain_of hg hg' n h
theorem ct_chain {op op' : CmpOp} {r r' : R2} {g g' : D → D → Option D} (ho : OpR X (compareOp op) r) (hg : Op2 X.K r g) (ho' : OpR X (compareOp op') r') (hg' : Op2 X.K r' g') (ha : CE X a Ma fa) (hb : CE X b Mb fb) (hc : CE X c Mc fc)
    (hm : lastMarks [op, op'] [b, c] = false := by with_unfolding_all rfl) : CT X (.Compare a [op, op'] [b, c] pos) (Ma ++ (Mb ++ Mc)) (boolT (chainE g g' Mb Mc fa fb fc)) := fun n => pt_of (pt_chain ho ho' (ha n) (hb (n + 1)) (hc (n + 2)) hm) fun σ H Q h => by
    obtain ⟨fx, env, ω, b, env', R, e, k⟩ := h
    obtain ⟨s, e1⟩ := boolT_some e
    exact tChain_of hg hg' n ⟨fx, env, ω, _, s, _, R, e1, fun v H1 ω1 R1 r1 p1 => ⟨b, r1.1, k H1 ω1 R1 p1⟩⟩

/-! ### argument lists -/
def nilA : AF := fun env => some ([], env)
def consA (Mr : List Nat) (fa : EF) (fr : AF) : AF := fun env => (fa env).bind fun p => (fr p.2.2).bind fun q => if p.2.1.fresh Mr = true then some ((p.1, p.2.1) :: q.1, q.2) else none
theorem ca_nil : CA X [] [] nilA := fun n => pa_of pa_nil fun σ H Q h => by
  obtain ⟨fx, env, ω, as, env', R, e, k⟩ := h
  cases e
  exact k [] H ω R .nil (Post.refl _ _ _ _)
theorem ca_cons (ha : CE X a Ma fa) (hr : CA X es Mb fr) (hs : starEach (a :: es) X.env = (false, eval a X.env) :: starEach es X.env := by rfl) : CA X (a :: es) (Ma ++ Mb) (consA Mb fa fr) := fun n => pa_of (pa_cons (ha n) (hr (n + 1)) hs) fun σ H Q h => by
  obtain ⟨fx, env, ω, as, env', R, e, k⟩ := h
  unfold consA at e
  obtain ⟨⟨d1, s1, env1⟩, e1, h⟩ := Option.bind_eq_some_iff.mp e
  obtain ⟨⟨as', env2⟩, e2, h⟩ := Option.bind_eq_some_iff.mp h
  split at h
  case isFalse => cases h
  case isTrue hf =>
  cases h
  refine ⟨fx, env, ω, d1, s1, env1, R, e1, fun v H1 ω1 R1 r1 p1 => ⟨fx, env1, ω1, as', env2, R1, e2, fun vs H2 ω2 R2 r2 p2 => ?_⟩⟩
  exact k _ H2 ω2 R2 (.cons ⟨r1.1.post p2 (Src.fresh_ok hf (Nat.lt_succ_self n)), Src.good_post p2 hf r1.2⟩ r2) ((p1.mono memL (Nat.le_refl _)).trans (p2.mono memR (Nat.le_succ n)))

/-! ### a built-in's call -/
inductive AnyR (K : PySem.W.Frag) (ω : Own) (H : Hp) : List D → List V → Prop
  | nil : AnyR K ω H [] []
  | cons {d v l ds vs} : Rep K ω H d v l → AnyR K ω H ds vs → AnyR K ω H (d :: ds) (v :: vs)
theorem ARep.any {K : PySem.W.Frag} {ω : Own} {H : Hp} {σ : L2.St} : ∀ {as : List (D × Src)} {vs : List V} {n : Nat}, ARep K ω H σ as vs n → AnyR K ω H (as.map (·.1)) vs
  | _, _, _, .nil => .nil
  | _, _, _, .cons r t => .cons r.1 t.any
def Call (K : PySem.W.Frag) (r : List V → Hp → VK → Prop) (g : List D → Option D) : Prop := ∀ {ω : Own} {H : Hp} {ds : List D} {vs : List V} {d : D} (n : Nat) {Q : VK},
  AnyR K ω H ds vs → g ds = some d → (∀ v H' ω', Rep K ω' H' d v ⟨.tmp n, []⟩ → Post [] n ω H ω' H' → Q v H') → r vs H Q
def Meth (K : PySem.W.Frag) (T : String) (r : V → List V → Hp → VK → Prop) (g : D → List D → Option D) : Prop := ∀ {ω : Own} {H : Hp} {d1 : D} {v1 : V} {l1 : Loc} {ds : List D} {vs : List V} {d : D} (n : Nat) {Q : VK},
  Rep K ω H d1 v1 l1 → AnyR K ω H ds vs → g d1 ds = some d → (∀ v H' ω', Rep K ω' H' d v ⟨.tmp n, []⟩ → Post [] n ω H ω' H' → Q v H') → r v1 vs H Q
def callE (g : List D → Option D) (fr : AF) : EF := fun env => (fr env).bind fun p => (g (p.1.map (·.1))).map fun d => (d, .tmp, p.2)
theorem tCB_of {r : List V → Hp → VK → Prop} {g : List D → Option D} (hg : Call X.K r g) (n : Nat) {σ : L2.St} {H : Hp} {Q : VK} (h : tE X.K Ma n (callE g fr) σ H Q) : tCB r (tA X.K Ma n fr) σ H Q := by
  obtain ⟨fx, env, ω, d, s, env', R, e, k⟩ := h
  unfold callE at e
  obtain ⟨⟨as, env1⟩, e1, h⟩ := Option.bind_eq_some_iff.mp e
  obtain ⟨d', e2, h⟩ := Option.map_eq_some_iff.mp h
  cases h
  refine ⟨fx, env, ω, as, env1, R, e1, fun vs H1 ω1 R1 r1 p1 => hg n r1.any e2 fun v H' ω' r' p' => ?_⟩
  exact k v H' ω' (R1.post p') ⟨r', trivial⟩ (p1.trans (p'.mono mem0 (Nat.le_refl _)))
theorem ce_callB {x : Str} {p pos : Pos} {id : String} {r : List V → Hp → VK → Prop} {g : List D → Option D} (hc : CallR X (.builtin id) r) (hG : Call X.K r g) (hg : Gl X x) (hm : X.mg x = none) (hv : bootBuiltins x = some (.builtin id)) (ha : CA X (a :: es) Ma fr) (hn : x ≠ "__name__" := by decide) (hdb : (x == ("__debug__" : Str)) = false := by decide)
    (he : starEach (a :: es) X.env = (false, eval a X.env) :: starEach es X.env := by rfl) (hpl : (backTo pos (starEach es X.env)).any (·.1) = false := by rfl) : CE X (.Call (.Name x p) (a :: es) [] pos) Ma (callE g fr) :=
  fun n => pe_of (pe_callB hc hg hm hv (ha n) hn hdb he hpl) fun σ H Q h => tCB_of hG n h
theorem ce_callTy {x : Str} {p pos : Pos} {T : String} {r : List V → Hp → VK → Prop} {g : List D → Option D} (hc : CallR X (.type T) r) (hG : Call X.K r g) (hg : Gl X x) (hm : X.mg x = none) (hv : bootBuiltins x = some (.type T)) (ha : CA X (a :: es) Ma fr) (hn : x ≠ "__name__" := by decide) (hdb : (x == ("__debug__" : Str)) = false := by decide)
    (he : starEach (a :: es) X.env = (false, eval a X.env) :: starEach es X.env := by rfl) (hpl : (backTo pos (starEach es X.env)).any (·.1) = false := by rfl) : CE X (.Call (.Name x p) (a :: es) [] pos) Ma (callE g fr) :=
  fun n => pe_of (pe_callTy hc hg hm hv (ha n) hn hdb he hpl) fun σ H Q h => tCB_of hG n h
end
end VC

set_option Elab.async false
set_option linter.all false
set_option maxRecDepth 100000
/-! VC3: methods, slices, displays, calls of defs. -/
namespace VC
open PySem PySem.Spec PyProof.Rows L2

section
variable {X : Cx} {a b c o : Expr} {es : List Expr} {Ma Mb Mc : List Nat} {fa fb fc fo : EF} {ta tb tc : TF} {fr : AF} {pos : Pos}

/-! ### methods that only read -/
def tyD : D → String
  | .str _ => "str"
  | .int _ => "int"
  | .lst _ _ => "list"
  | _ => ""
theorem tyV_of {K : PySem.W.Frag} {ω : Own} {H : Hp} {d : D} {v : V} {l : Loc} {T : String} (r : Rep K ω H d v l) (h : tyD d = T) (hT : T ≠ "") : tyV K T v H := by
  cases d with
  | str s => cases (show v = _ from r); exact h.symm
  | int s => cases (show v = _ from r); exact h.symm
  | lst z xs =>
    simp only [Rep] at r
    obtain ⟨a, vs, rfl, t, rs⟩ := r
    exact .inl ⟨h.symm, vs, t.sq⟩
  | _ => exact absurd h.symm hT
def methE (T : String) (g : D → List D → Option D) (Ma : List Nat) (fo : EF) (fr : AF) : EF := fun env =>
  (fo env).bind fun p => if tyD p.1 = T then (fr p.2.2).bind fun q => if p.2.1.fresh Ma = true then (g p.1 (q.1.map (·.1))).map fun d => (d, .tmp, q.2) else none else none
def meth0E (T : String) (g : D → List D → Option D) (fo : EF) : EF := fun env =>
  (fo env).bind fun p => if tyD p.1 = T then (g p.1 []).map fun d => (d, .tmp, p.2.2) else none
theorem ce_meth {T id : String} {name : Str} {apos cpos : Pos} {r : V → List V → Hp → VK → Prop} {g : D → List D → Option D} (hT : T ≠ "") (pa : PlainAttrs T) (slot : Slot T name id) (hty : typeOf (.builtin id) = pure (.type "method_descriptor")) (hm : MtR X id r) (hg : Meth X.K T r g)
    (ho : CE X o Mb fo) (ha : CA X (a :: es) Ma fr)
    (hbase : attributeBase o name X.env (eval o X.env) = eval o X.env := by rfl)
    (hfew : ((backTo cpos (starEach (a :: es) X.env)).all (fun x => !x.1) && (backToKw cpos (keywordEach [] X.env)).all (fun x => x.1.isSome)
      && decide ((a :: es).length + ([] : List Keyword).length + (if ([] : List Keyword).isEmpty then 0 else 1) < 30)) = true := by rfl)
    (hline : (apos.endLine == cpos.line) = true := by rfl) (hs : starEach (a :: es) X.env = (false, eval a X.env) :: starEach es X.env := by rfl) (hplain : (backTo cpos (starEach es X.env)).any (·.1) = false := by rfl) :
    CE X (.Call (.Attribute o name apos) (a :: es) [] cpos) (Mb ++ Ma) (methE T g Ma fo fr) := fun n => pe_of (pe_bm pa slot hty hm (ho n) (ha (n + 1)) hbase hfew hline hs hplain) fun σ H Q h => by
  obtain ⟨fx, env, ω, d, s, env', R, e, k⟩ := h
  unfold methE at e
  obtain ⟨⟨d1, s1, env1⟩, e1, h⟩ := Option.bind_eq_some_iff.mp e
  split at h
  case isFalse => cases h
  case isTrue ht =>
  obtain ⟨⟨as, env2⟩, e2, h⟩ := Option.bind_eq_some_iff.mp h
  split at h
  case isFalse => cases h
  case isTrue hf =>
  obtain ⟨d', e3, h⟩ := Option.map_eq_some_iff.mp h
  simp only [Prod.mk.injEq] at h
  obtain ⟨rfl, rfl, rfl⟩ := h
  refine ⟨fx, env, ω, d1, s1, env1, R, e1, fun v H1 ω1 R1 r1 p1 => ⟨tyV_of r1.1 ht hT, fx, env1, ω1, as, _, R1, e2, fun vs H2 ω2 R2 r2 p2 => ?_⟩⟩
  refine hg n (r1.1.post p2 (Src.fresh_ok hf (Nat.lt_succ_self n))) r2.any e3 fun v' H' ω' r' p3 => ?_
  exact k v' H' ω' (R2.post p3) ⟨r', trivial⟩ (((p1.mono memL (Nat.le_refl _)).trans (p2.mono memR (Nat.le_succ n))).trans (p3.mono mem0 (Nat.le_refl _)))
theorem ce_meth0 {T id : String} {name : Str} {apos cpos : Pos} {r : V → List V → Hp → VK → Prop} {g : D → List D → Option D} (hT : T ≠ "") (pa : PlainAttrs T) (slot : Slot T name id) (hty : typeOf (.builtin id) = pure (.type "method_descriptor")) (hm : MtR X id r) (hg : Meth X.K T r g)
    (ho : CE X o Mb fo) (hbase : attributeBase o name X.env (eval o X.env) = eval o X.env := by rfl) (hline : (apos.endLine == cpos.line) = true := by rfl) :
    CE X (.Call (.Attribute o name apos) [] [] cpos) Mb (meth0E T g fo) := fun n => pe_of (pe_bm0 pa slot hty hm (ho n) hbase hline) fun σ H Q h => by
  obtain ⟨fx, env, ω, d, s, env', R, e, k⟩ := h
  unfold meth0E at e
  obtain ⟨⟨d1, s1, env1⟩, e1, h⟩ := Option.bind_eq_some_iff.mp e
  split at h
  case isFalse => cases h
  case isTrue ht =>
  obtain ⟨d', e3, h⟩ := Option.map_eq_some_iff.mp h
  simp only [Prod.mk.injEq] at h
  obtain ⟨rfl, rfl, rfl⟩ := h
  refine ⟨fx, env, ω, d1, s1, _, R, e1, fun v H1 ω1 R1 r1 p1 => ⟨tyV_of r1.1 ht hT, ?_⟩⟩
  refine hg n r1.1 .nil e3 fun v' H' ω' r' p3 => ?_
  exact k v' H' ω' (R1.post p3) ⟨r', trivial⟩ (p1.trans (p3.mono mem0 (Nat.le_refl _)))

/-! ### slices -/
abbrev OF := Env → Option (Option Int × Env)
def tO (K : PySem.W.Frag) (M : List Nat) (n : Nat) (f : OF) : TO := fun σ H Q => ∃ fx env ω b env', Rel K fx env ω σ H ∧ f env = some (b, env') ∧
  ∀ H' ω', Rel K fx env' ω' σ H' → Post M n ω H ω' H' → Q b H'
def CO (X : Cx) (e : Option Expr) (M : List Nat) (f : OF) : Prop := ∀ n, PO X e (tO X.K M n f)
theorem po_of {X : Cx} {e : Option Expr} {t t' : TO} (h : PO X e t) (i : ∀ σ H Q, t' σ H Q → t σ H Q) : PO X e t' := ⟨fun pins s σ H Q I hw => h.run pins s σ H Q I (i σ H Q hw)⟩
def noO : OF := fun env => some (none, env)
def partO (fa : EF) : OF := fun env => (fa env).bind fun p => match p.1 with
  | .int i => some (some i, p.2.2)
  | _ => none
theorem co_none : CO X none [] noO := fun n => po_of po_none fun σ H Q h => by
  obtain ⟨fx, env, ω, b, env', R, e, k⟩ := h
  cases e
  exact k H ω R (Post.refl _ _ _ _)
theorem co_some (ha : CE X a Ma fa) : CO X (some a) Ma (partO fa) := fun n => po_of (po_some (ha n)) fun σ H Q h => by
  obtain ⟨fx, env, ω, b, env', R, e, k⟩ := h
  unfold partO at e
  obtain ⟨⟨d1, s1, env1⟩, e1, h⟩ := Option.bind_eq_some_iff.mp e
  refine ⟨fx, env, ω, d1, s1, env1, R, e1, fun v H1 ω1 R1 r1 p1 => ?_⟩
  cases d1 with
  | int i => cases h; exact ⟨i, r1.1, k H1 ω1 R1 p1⟩
  | _ => cases h
def Slc (K : PySem.W.Frag) (r : V → Option Int → Option Int → Hp → VK → Prop) (g : D → Option Int → Option Int → Option D) : Prop := ∀ {ω : Own} {H : Hp} {x : V} {d1 : D} {l1 : Loc} {lo hi : Option Int} {d : D} (n : Nat) {Q : VK},
  Rep K ω H d1 x l1 → g d1 lo hi = some d → (∀ v H' ω', Rep K ω' H' d v ⟨.tmp n, []⟩ → Post [] n ω H ω' H' → Q v H') → r x lo hi H Q
def sliceE (g : D → Option Int → Option Int → Option D) (Mb : List Nat) (fa : EF) (fl fh : OF) : EF := fun env =>
  (fa env).bind fun p => (fl p.2.2).bind fun l => (fh l.2).bind fun h => if p.2.1.fresh Mb = true then (g p.1 l.1 h.1).map fun d => (d, .tmp, h.2) else none
theorem ce_slice {r : V → Option Int → Option Int → Hp → VK → Prop} {g : D → Option Int → Option Int → Option D} {lo hi : Option Expr} {p2 : Pos} {fl fh : OF} (hr : SlR X r) (hg : Slc X.K r g) (he : CE X a Ma fa) (hl : CO X lo Mb fl) (hu : CO X hi Mc fh) :
    CE X (.Subscript a (.Slice lo hi none p2) pos) (Ma ++ (Mb ++ Mc)) (sliceE g (Mb ++ Mc) fa fl fh) := fun n => pe_of (pe_slice hr (he n) (hl (n + 1)) (hu (n + 1))) fun σ H Q h => by
  obtain ⟨fx, env, ω, d, s, env', R, e, k⟩ := h
  unfold sliceE at e
  obtain ⟨⟨d1, s1, env1⟩, e1, h⟩ := Option.bind_eq_some_iff.mp e
  obtain ⟨⟨l, env2⟩, e2, h⟩ := Option.bind_eq_some_iff.mp h
  obtain ⟨⟨u, env3⟩, e3, h⟩ := Option.bind_eq_some_iff.mp h
  split at h
  case isFalse => cases h
  case isTrue hf =>
  obtain ⟨d', e4, h⟩ := Option.map_eq_some_iff.mp h
  simp only [Prod.mk.injEq] at h
  obtain ⟨rfl, rfl, rfl⟩ := h
  refine ⟨fx, env, ω, d1, s1, env1, R, e1, fun v H1 ω1 R1 r1 p1 => ⟨fx, env1, ω1, l, env2, R1, e2, fun H2 ω2 R2 p2 => ⟨fx, env2, ω2, u, _, R2, e3, fun H3 ω3 R3 p3 => ?_⟩⟩⟩
  have p23 : Post (Mb ++ Mc) (n + 1) ω1 H1 ω3 H3 := (p2.mono memL (Nat.le_refl _)).trans (p3.mono memR (Nat.le_refl _))
  refine hg n (r1.1.post p23 (Src.fresh_ok hf (Nat.lt_succ_self n))) e4 fun v' H' ω' r' p4 => ?_
  exact k v' H' ω' (R3.post p4) ⟨r', trivial⟩ (((p1.mono memL (Nat.le_refl _)).trans (p23.mono memR (Nat.le_succ n))).trans (p4.mono mem0 (Nat.le_refl _)))

/-! ### taking values into a new thing -/
def srcSlots : List (D × Src) → List Nat
  | [] => []
  | (_, .tmp) :: as => srcSlots as
  | (_, .at i _) :: as => i :: srcSlots as
def taken : List (D × Src) → List D
  | [] => []
  | (d, .tmp) :: as => d :: taken as
  | (d, .at _ _) :: as => d.frz :: taken as
/-- values are taken: temporaries move, what stands in slots (of Mc) is frozen with its slot -/
def takeL (Mc : List Nat) (as : List (D × Src)) (env : Env) : Option (List D × Env) :=
  if (srcSlots as).all (fun i => decide (i ∈ Mc)) = true then some (taken as, env.cools (srcSlots as)) else none
theorem Rel.cools {K : PySem.W.Frag} {fx : List (Nat × V)} {env : Env} {ω : Own} {σ : L2.St} {H : Hp} (R : Rel K fx env ω σ H) (S : List Nat) : Rel K fx (env.cools S) (dropSlots ω S) σ H := by
  refine ⟨by rw [Env.cools_length]; exact R.len, fun j d e => ?_, R.fix⟩
  rw [Env.cools_get] at e
  by_cases hj : j ∈ S
  · rw [if_pos hj] at e
    cases e0 : env[j]? with
    | none => rw [e0] at e; cases e
    | some o =>
      rw [e0] at e
      cases o with
      | none => simp at e
      | some d0 =>
        simp at e
        subst e
        obtain ⟨v, e1, r⟩ := R.rep j d0 e0
        exact ⟨v, e1, r.cool drop_calm (drop_cools hj)⟩
  · rw [if_neg hj] at e
    obtain ⟨v, e1, r⟩ := R.rep j d e
    refine ⟨v, e1, r.tr drop_calm (drop_other fun i hi => ?_)⟩
    simp
    exact fun h => hj (h ▸ hi)
theorem Rel.relab {K : PySem.W.Frag} {fx : List (Nat × V)} {env : Env} {ω : Own} {σ : L2.St} {H : Hp} {m : Nat} {l2 : Loc} (R : Rel K fx env ω σ H) : Rel K fx env (relab ω m l2) σ H :=
  ⟨R.len, fun j d e => by
    obtain ⟨v, e1, r⟩ := R.rep j d e
    exact ⟨v, e1, r.relab_other (by simp)⟩, R.fix⟩
/-- temporaries one behind the other -/
inductive TRep (K : PySem.W.Frag) (ω : Own) (H : Hp) : List D → List V → Nat → Prop
  | nil {n} : TRep K ω H [] [] n
  | cons {d v ds vs n} : Rep K ω H d v ⟨.tmp n, []⟩ → TRep K ω H ds vs (n + 1) → TRep K ω H (d :: ds) (v :: vs) n
theorem TRep.of {K : PySem.W.Frag} {ω : Own} {H : Hp} {σ : L2.St} {S : List Nat} : ∀ {as : List (D × Src)} {vs : List V} {n : Nat}, (∀ i ∈ srcSlots as, i ∈ S) → ARep K ω H σ as vs n → TRep K (dropSlots ω S) H (taken as) vs n
  | [], _, n, _, .nil => .nil
  | (d, .tmp) :: as, _, n, hS, .cons (v := v) (vs := vs) r t => .cons (r.1.tr drop_calm (drop_other fun i _ => by simp [Src.loc])) (TRep.of (by simpa [srcSlots] using hS) t)
  | (d, .at i p) :: as, _, n, hS, .cons (v := v) (vs := vs) r t => by
    simp only [srcSlots, List.mem_cons, forall_eq_or_imp] at hS
    exact .cons (r.1.cool drop_calm (drop_cools hS.1)) (TRep.of hS.2 t)
theorem TRep.tr {K : PySem.W.Frag} {ω : Own} {H : Hp} {m : Nat} {l2 : Loc} : ∀ {ds : List D} {vs : List V} {n : Nat}, m < n → TRep K ω H ds vs n → TRep K (relab ω m l2) H ds vs n
  | [], _, n, _, .nil => .nil
  | d :: ds, _, n, h, .cons r t => .cons (r.relab_other (by simp; omega)) (TRep.tr (by omega) t)
theorem TRep.move {K : PySem.W.Frag} {fx : List (Nat × V)} {env : Env} {σ : L2.St} {H : Hp} {M : List Nat} : ∀ {ds : List D} {vs : List V} {ω : Own} {m k : Nat} (l : Loc), l.ok M (m + 1) → Rel K fx env ω σ H → TRep K ω H ds vs m →
    ∃ ω', Rel K fx env ω' σ H ∧ Reps K ω' H ds vs l k ∧ Post M m ω H ω' H
  | [], _, ω, m, k, l, hl, R, .nil => ⟨ω, R, rfl, Post.refl _ _ _ _⟩
  | d :: ds, _, ω, m, k, l, hl, R, .cons (v := v) (vs := vs) r t => by
    have hl2 : l.ok M (m + 1 + 1) := by
      obtain ⟨id, p⟩ := l
      cases id with
      | slot i => exact hl
      | tmp j => exact Nat.lt_succ_of_lt hl
      | out => trivial
    obtain ⟨ω2, R2, r2, p2⟩ := TRep.move (k := k + 1) (M := M) l hl2 (R.relab (m := m) (l2 := l.sub k)) (t.tr (Nat.lt_succ_self m))
    refine ⟨ω2, R2, ?_, (relab_post (Nat.le_refl m)).trans (p2.mono (fun _ h => h) (Nat.le_succ m))⟩
    simp only [Reps]
    exact ⟨v, vs, rfl, (Rep.relab r).post p2 (show (l.sub k).ok M (m + 1) from hl), r2⟩
theorem takeL_rep {K : PySem.W.Frag} {fx : List (Nat × V)} {σ : L2.St} {H : Hp} {as : List (D × Src)} {vs : List V} {env env' : Env} {ω : Own} {ds : List D} {m k : Nat} (l : Loc) (hl : l.ok Mc (m + 1)) (R : Rel K fx env ω σ H) (t : ARep K ω H σ as vs m) (h : takeL Mc as env = some (ds, env')) :
    ∃ ω', Rel K fx env' ω' σ H ∧ Reps K ω' H ds vs l k ∧ Post Mc m ω H ω' H := by
  unfold takeL at h
  split at h
  case isFalse => cases h
  case isTrue hS =>
  cases h
  have hS' : ∀ i ∈ srcSlots as, i ∈ Mc := fun i hi => of_decide_eq_true (List.all_eq_true.mp hS i hi)
  obtain ⟨ω', R', r', p'⟩ := TRep.move (k := k) l hl (R.cools (srcSlots as)) (TRep.of (fun _ h => h) t)
  exact ⟨ω', R', r', (drop_post hS').trans p'⟩

/-! ### displays -/
def tupE (Mc : List Nat) (fr : AF) : EF := fun env => (fr env).bind fun p => (takeL Mc p.1 p.2).bind fun q => if q.1.length ≤ sizeLine then some (.tup q.1, .tmp, q.2) else none
def lstE (Mc : List Nat) (fr : AF) : EF := fun env => (fr env).bind fun p => (takeL Mc p.1 p.2).bind fun q => if q.1.length ≤ sizeLine then some (.lst .own q.1, .tmp, q.2) else none
theorem Rel.new {K : PySem.W.Frag} {fx : List (Nat × V)} {env : Env} {ω : Own} {σ : L2.St} {H : Hp} {p : Addr} {o : Option Loc} {u : HO} (R : Rel K fx env ω σ H) (hp : H p = none) : Rel K fx env (own1 ω p o) σ (upd H p u) := R.post (new_post (M := []) (n := 0) hp)
theorem Reps.new {K : PySem.W.Frag} {ω : Own} {H : Hp} {xs : List D} {vs : List V} {l : Loc} {k : Nat} {p : Addr} {o : Option Loc} {u : HO} (r : Reps K ω H xs vs l k) (hp : H p = none) : Reps K (own1 ω p o) (upd H p u) xs vs l k := by
  refine Reps.tr (new_post (M := []) (n := 0) hp).calm (fun a x s e w => ?_) r
  have : a ≠ p := ne_of_none e hp
  exact ⟨by rw [upd_ne this]; exact e, by rw [own1_ne this]; exact w⟩
theorem ce_tup {x1} (Mc : List Nat) (h : CA X es Ma fr) : CE X (.Tuple es x1 pos) (Ma ++ Mc) (tupE Mc fr) := fun n => pe_of (pe_tup (h n)) fun σ H Q h => by
  obtain ⟨fx, env, ω, d, s, env', R, e, k⟩ := h
  unfold tupE at e
  obtain ⟨⟨as, env1⟩, e1, h⟩ := Option.bind_eq_some_iff.mp e
  obtain ⟨⟨ds, env2⟩, e2, h⟩ := Option.bind_eq_some_iff.mp h
  split at h
  case isFalse => cases h
  case isTrue hz =>
  cases h
  refine ⟨fx, env, ω, as, env1, R, e1, fun vs H1 ω1 R1 r1 p1 => ?_⟩
  obtain ⟨ω2, R2, r2, p2⟩ := takeL_rep (k := 0) (Mc := Mc) ⟨.tmp n, []⟩ (Nat.lt_succ_self n) R1 r1 e2
  refine ⟨by rw [← r2.length]; exact hz, fun p hp => k _ _ (own1 ω2 p none) (R2.new hp) ⟨?_, trivial⟩ (((p1.mono memL (Nat.le_refl _)).trans (p2.mono memR (Nat.le_refl _))).trans (new_post hp))⟩
  simp only [Rep, Src.loc]
  exact ⟨p, vs, rfl, .inl (.inl upd_same), r2.new hp⟩
theorem ce_lst (Mc : List Nat) (h : CA X es Ma fr) : CE X (.List es pos) (Ma ++ Mc) (lstE Mc fr) := fun n => pe_of (pe_lst (h n)) fun σ H Q h => by
  obtain ⟨fx, env, ω, d, s, env', R, e, k⟩ := h
  unfold lstE at e
  obtain ⟨⟨as, env1⟩, e1, h⟩ := Option.bind_eq_some_iff.mp e
  obtain ⟨⟨ds, env2⟩, e2, h⟩ := Option.bind_eq_some_iff.mp h
  split at h
  case isFalse => cases h
  case isTrue hz =>
  cases h
  refine ⟨fx, env, ω, as, env1, R, e1, fun vs H1 ω1 R1 r1 p1 => ?_⟩
  obtain ⟨ω2, R2, r2, p2⟩ := takeL_rep (k := 0) (Mc := Mc) ⟨.tmp n, []⟩ (Nat.lt_succ_self n) R1 r1 e2
  refine ⟨by rw [← r2.length]; exact hz, fun p hp => k _ _ (own1 ω2 p (some ⟨.tmp n, []⟩)) (R2.new hp) ⟨?_, trivial⟩ (((p1.mono memL (Nat.le_refl _)).trans (p2.mono memR (Nat.le_refl _))).trans (new_post hp))⟩
  simp only [Rep, Src.loc]
  exact ⟨p, vs, rfl, ⟨upd_same, own1_same⟩, r2.new hp⟩
end
end VC

set_option Elab.async false
set_option linter.all false
set_option maxRecDepth 100000
/-! VC4: what a def promises; calls of defs. -/
namespace VC
open PySem PySem.Spec PyProof.Rows L2

section
variable {K : PySem.W.Frag} {ω ω' : Own} {H H' : Hp}
mutual
/-- data without frozen lists -/
theorem Rep.trH (st : ∀ a o, H a = some o → stiff o = true → H' a = some o) : ∀ {d : D} {v : V} {l l2 : Loc}, Goes ω H ω' H' l l2 → d.hot = true → Rep K ω H d v l → Rep K ω' H' d v l2
  | .non, _, _, _, _, _, h => h
  | .bl _, _, _, _, _, _, h => h
  | .int _, _, _, _, _, _, h => h
  | .str _, _, _, _, _, _, h => h
  | .tup xs, v, l, l2, g, z, h => by
    simp only [Rep] at h ⊢
    simp only [D.hot] at z
    obtain ⟨a, vs, e, t, r⟩ := h
    refine ⟨a, vs, e, ?_, Reps.trH st g z r⟩
    rcases t with (t | ⟨o, t⟩) | t
    · exact .inl (.inl (st a _ t rfl))
    · exact .inl (.inr ⟨o, st a _ t rfl⟩)
    · exact .inr t
  | .lst zz xs, v, l, l2, g, z, h => by
    simp only [Rep] at h ⊢
    simp only [D.hot, Bool.and_eq_true] at z
    obtain ⟨a, vs, e, t, r⟩ := h
    refine ⟨a, vs, e, ?_, Reps.trH st g z.2 r⟩
    cases zz with
    | frz => exact absurd z.1 (by decide)
    | fix =>
      rcases t with ⟨o, t⟩ | t
      · exact .inl ⟨o, st a _ t rfl⟩
      · exact .inr t
    | own =>
      have t' : LstW ω H a vs l := t
      have := g a _ [] t'.1 (by rw [t'.2]; rfl)
      exact ⟨this.1, by simpa using this.2⟩
theorem Reps.trH (st : ∀ a o, H a = some o → stiff o = true → H' a = some o) : ∀ {xs : List D} {vs : List V} {l l2 : Loc} {k : Nat}, Goes ω H ω' H' l l2 → hotL xs = true → Reps K ω H xs vs l k → Reps K ω' H' xs vs l2 k
  | [], _, _, _, _, _, _, h => h
  | x :: xs, vs, l, l2, k, g, z, h => by
    simp only [Reps] at h ⊢
    simp only [hotL, Bool.and_eq_true] at z
    obtain ⟨v, vs', e, r, rs⟩ := h
    exact ⟨v, vs', e, Rep.trH st (g.sub k) z.1 r, Reps.trH st g z.2 rs⟩
end
end

/-! ### promises -/
def outer : Option Loc → Bool
  | none => true
  | some l => match l.id with
    | .out => true
    | _ => false
structure Keep0 (ω : Own) (H : Hp) (ω' : Own) (H' : Hp) : Prop where
  st : ∀ a o, H a = some o → stiff o = true → H' a = some o
  no : ∀ a o, H a = some o → outer (ω a) = true → H' a = some o ∧ ω' a = ω a
abbrev FF := List D → Option (D × List D)
/-- a def's promise: F of the arguments' data gives the answer and what the parameters io hold behind it -/
def spOf (K : PySem.W.Frag) (io : List Nat) (F : FF) : Sp := fun vs H Q _ => ∃ (ω : Own) (ds : List D) (d : D) (outs : List D), vs.length = ds.length ∧ F ds = some (d, outs) ∧
  (∀ (k : Nat) (d : D) (v : V), ds[k]? = some d → vs[k]? = some v → Rep K ω H d v ⟨.slot k, []⟩) ∧
  ∀ v H' ω', Rep K ω' H' d v ⟨.tmp 0, []⟩ → (∀ (j k : Nat) (d : D) (v : V), io[j]? = some k → outs[j]? = some d → vs[k]? = some v → Rep K ω' H' d v ⟨.slot k, []⟩) → Keep0 ω H ω' H' → Q v H'

/-! ### a call -/
def argsD (io : List Nat) : Nat → List (D × Src) → List D
  | _, [] => []
  | k, (d, _) :: as => (if k ∈ io then d else d.frz) :: argsD io (k + 1) as
def lentOf (io : List Nat) : Nat → List (D × Src) → List Nat
  | _, [] => []
  | k, (_, s) :: as => match s with
    | .tmp => lentOf io (k + 1) as
    | .at i _ => if k ∈ io then lentOf io (k + 1) as else i :: lentOf io (k + 1) as
def iosOk : List (Nat × Nat) → List (D × Src) → Bool
  | [], _ => true
  | (k, i) :: ios, as => (match as[k]? with
    | some (_, .at j []) => decide (j = i)
    | _ => false) && iosOk ios as
def putOuts : List (Nat × Nat) → List D → Env → Env
  | (_, i) :: ios, d :: ds, env => putOuts ios ds (env.set i (some d))
  | _, _, env => env
def allHot : List D → Bool
  | [] => true
  | d :: ds => d.hot && allHot ds
def fnE (ios : List (Nat × Nat)) (Ml : List Nat) (F : FF) (fr : AF) : EF := fun env => (fr env).bind fun p =>
  if iosOk ios p.1 = true ∧ (lentOf (ios.map (·.1)) 0 p.1).all (fun i => decide (i ∉ ios.map (·.2))) = true then
    (F (argsD (ios.map (·.1)) 0 p.1)).bind fun q => if q.2.length = ios.length then
      if lentOf (ios.map (·.1)) 0 p.1 = [] ∨ (q.1.hot = true ∧ allHot q.2 = true) then some (q.1, .tmp, putOuts ios q.2 p.2)
      else if (lentOf (ios.map (·.1)) 0 p.1).all (fun i => decide (i ∈ Ml)) = true then some (q.1, .tmp, putOuts ios q.2 (p.2.cools (lentOf (ios.map (·.1)) 0 p.1))) else none
    else none
  else none

def slotKey (ios : List (Nat × Nat)) (i : Nat) : Option Nat := (ios.find? fun q => q.2 == i).map (·.1)
def keySlot (ios : List (Nat × Nat)) (k : Nat) : Option Nat := (ios.find? fun q => q.1 == k).map (·.2)
theorem slotKey_none {ios : List (Nat × Nat)} {i : Nat} (h : i ∉ ios.map (·.2)) : slotKey ios i = none := by
  unfold slotKey
  rw [Option.map_eq_none_iff, List.find?_eq_none]
  intro q hq e
  exact h (List.mem_map.mpr ⟨q, hq, by simpa using e⟩)
theorem slotKey_mem : ∀ {ios : List (Nat × Nat)} {k i : Nat}, (ios.map (·.2)).Nodup → (k, i) ∈ ios → slotKey ios i = some k
  | (k', i') :: ios, k, i, nd, h => by
    simp only [List.map_cons, List.nodup_cons] at nd
    unfold slotKey
    rw [List.find?_cons]
    by_cases e : i' = i
    · subst e
      simp only [beq_self_eq_true, Option.map_some, Option.some.injEq]
      rcases List.mem_cons.mp h with h | h
      · cases h; rfl
      · exact absurd (List.mem_map.mpr ⟨_, h, rfl⟩) nd.1
    · simp only [beq_eq_false_iff_ne.mpr e]
      rcases List.mem_cons.mp h with h | h
      · cases h; exact absurd rfl e
      · exact slotKey_mem nd.2 h
theorem keySlot_mem : ∀ {ios : List (Nat × Nat)} {k i : Nat}, (ios.map (·.1)).Nodup → (k, i) ∈ ios → keySlot ios k = some i
  | (k', i') :: ios, k, i, nd, h => by
    simp only [List.map_cons, List.nodup_cons] at nd
    unfold keySlot
    rw [List.find?_cons]
    by_cases e : k' = k
    · subst e
      simp only [beq_self_eq_true, Option.map_some, Option.some.injEq]
      rcases List.mem_cons.mp h with h | h
      · cases h; rfl
      · exact absurd (List.mem_map.mpr ⟨_, h, rfl⟩) nd.1
    · simp only [beq_eq_false_iff_ne.mpr e]
      rcases List.mem_cons.mp h with h | h
      · cases h; exact absurd rfl e
      · exact keySlot_mem nd.2 h

/-- the labels as the callee sees them -/
def calleeO (ios : List (Nat × Nat)) (lent : List Nat) (n : Nat) (ω : Own) : Own := fun a => match ω a with
  | none => none
  | some ⟨.slot i, p⟩ => match slotKey ios i with
    | some k => some ⟨.slot k, p⟩
    | none => if i ∈ lent then none else some ⟨.out, []⟩
  | some ⟨.tmp m, _⟩ => if n ≤ m then none else some ⟨.out, []⟩
  | some ⟨.out, _⟩ => some ⟨.out, []⟩
def backO (ios : List (Nat × Nat)) (n : Nat) : Option Loc → Option Loc
  | some ⟨.tmp 0, p⟩ => some ⟨.tmp n, p⟩
  | some ⟨.slot k, p⟩ => (keySlot ios k).map fun i => ⟨.slot i, p⟩
  | _ => none
/-- the labels behind the call -/
noncomputable def afterO (ios : List (Nat × Nat)) (lent S : List Nat) (n : Nat) (ω : Own) (H : Hp) (ω' : Own) : Own := fun a =>
  if (H a).isSome = true ∧ outer (calleeO ios lent n ω a) = true then dropTmp (dropSlots ω S) n a else backO ios n (ω' a)

section
variable {ios : List (Nat × Nat)} {lent S : List Nat} {n : Nat} {ω ω' : Own} {H H' : Hp}
theorem callee_none {a : Addr} (h : ω a = none) : calleeO ios lent n ω a = none := by unfold calleeO; rw [h]
theorem callee_calm : Calm ω H (calleeO ios lent n ω) H := ⟨fun _ _ h _ => h, fun a o e w => ⟨e, callee_none w⟩⟩
theorem callee_tmp {m : Nat} (hm : n ≤ m) {p : List Nat} : Cools ω H (calleeO ios lent n ω) H ⟨.tmp m, p⟩ := fun a o s e w => ⟨e, by
  unfold calleeO
  rw [w]
  simp [hm]⟩
theorem callee_lent {i : Nat} (hi : i ∈ lent) (h : i ∉ ios.map (·.2)) {p : List Nat} : Cools ω H (calleeO ios lent n ω) H ⟨.slot i, p⟩ := fun a o s e w => ⟨e, by
  unfold calleeO
  rw [w]
  simp [slotKey_none h, hi]⟩
theorem callee_io {k i : Nat} (nd : (ios.map (·.2)).Nodup) (h : (k, i) ∈ ios) : Goes ω H (calleeO ios lent n ω) H ⟨.slot i, []⟩ ⟨.slot k, []⟩ := fun a o s e w => ⟨e, by
  unfold calleeO
  rw [w]
  simp [slotKey_mem nd h]⟩
theorem after_old {a : Addr} {o : HO} (e : H a = some o) (h : outer (calleeO ios lent n ω a) = true) : afterO ios lent S n ω H ω' a = dropTmp (dropSlots ω S) n a := by
  unfold afterO
  rw [if_pos ⟨by rw [e]; rfl, h⟩]
/-- protected things behind the call -/
theorem after_post (hS : ∀ i ∈ S, i ∈ lent ∧ i ∉ ios.map (·.2)) (K0 : Keep0 (calleeO ios lent n ω) H ω' H') : Post (ios.map (·.2)) n (dropSlots ω S) H (afterO ios lent S n ω H ω') H' := by
  refine ⟨K0.st, fun a o e p => ?_⟩
  have hout : outer (calleeO ios lent n ω a) = true := by
    cases hw : ω a with
    | none => rw [callee_none hw]; rfl
    | some l =>
      obtain ⟨id, q⟩ := l
      cases id with
      | out => unfold calleeO; rw [hw]; rfl
      | tmp m =>
        unfold calleeO
        rw [hw]
        simp only
        split <;> rfl
      | slot i =>
        have hi : i ∉ ios.map (·.2) := by
          by_cases hS' : i ∈ S
          · exact (hS i hS').2
          · have hd : dropSlots ω S a = some ⟨.slot i, q⟩ := drop_ne hw (fun j hj e => by cases e; exact hS' hj)
            rw [hd] at p
            exact p
        unfold calleeO
        rw [hw]
        simp only [slotKey_none hi]
        split <;> rfl
  obtain ⟨h1, h2⟩ := K0.no a o e hout
  refine ⟨h1, ?_⟩
  rw [after_old e hout]
  cases hw : dropSlots ω S a with
  | none => unfold dropTmp; rw [hw]
  | some l =>
    rw [hw] at p
    obtain ⟨id, q⟩ := l
    cases id with
    | slot i => unfold dropTmp; rw [hw]
    | out => unfold dropTmp; rw [hw]
    | tmp m =>
      have hm : ¬ n ≤ m := Nat.not_le.mpr (show m < n from p)
      unfold dropTmp
      rw [hw]
      simp [hm]
/-- what the callee labels is labelled so behind the call -/
theorem after_new {a : Addr} {o : HO} {l : Loc} (K0 : Keep0 (calleeO ios lent n ω) H ω' H') (hw : ω' a = some l) (hl : l.id ≠ .out) : afterO ios lent S n ω H ω' a = backO ios n (some l) := by
  unfold afterO
  rw [if_neg, hw]
  rintro ⟨h1, h2⟩
  obtain ⟨o', e⟩ := Option.isSome_iff_exists.mp h1
  have := (K0.no a o' e h2).2
  rw [hw] at this
  rw [← this] at h2
  obtain ⟨id, q⟩ := l
  cases id with
  | out => exact hl rfl
  | slot i => cases h2
  | tmp m => cases h2
theorem after_res (K0 : Keep0 (calleeO ios lent n ω) H ω' H') : Goes ω' H' (afterO ios lent S n ω H ω') H' ⟨.tmp 0, []⟩ ⟨.tmp n, []⟩ := fun a o s e w => ⟨e, by
  rw [after_new (o := o) K0 w (by simp)]
  simp [backO]⟩
theorem after_out {k i : Nat} (nd : (ios.map (·.1)).Nodup) (h : (k, i) ∈ ios) (K0 : Keep0 (calleeO ios lent n ω) H ω' H') : Goes ω' H' (afterO ios lent S n ω H ω') H' ⟨.slot k, []⟩ ⟨.slot i, []⟩ := fun a o s e w => ⟨e, by
  rw [after_new (o := o) K0 w (by simp)]
  simp [backO, keySlot_mem nd h]⟩
theorem after_calm (hS : ∀ i ∈ lent, i ∈ S) (K0 : Keep0 (calleeO ios lent n ω) H ω' H') : Calm ω' H' (afterO ios lent S n ω H ω') H' := ⟨fun _ _ h _ => h, fun a o e w => ⟨e, by
  unfold afterO
  split
  · rename_i h
    obtain ⟨h1, h2⟩ := h
    obtain ⟨o', e'⟩ := Option.isSome_iff_exists.mp h1
    have hc := (K0.no a o' e' h2).2
    rw [w] at hc
    cases hw : ω a with
    | none => unfold dropTmp; rw [drop_none hw]
    | some l =>
      obtain ⟨id, q⟩ := l
      cases id with
      | out =>
        unfold calleeO at hc
        rw [hw] at hc
        cases hc
      | tmp m =>
        unfold calleeO at hc
        rw [hw] at hc
        simp only at hc
        split at hc
        · rename_i hm
          unfold dropTmp
          rw [drop_ne hw (by simp)]
          simp [hm]
        · cases hc
      | slot i =>
        unfold calleeO at hc
        rw [hw] at hc
        simp only at hc
        split at hc
        · cases hc
        · split at hc
          · rename_i hi
            unfold dropTmp
            rw [drop_at (hS i hi) hw]
          · cases hc
  · rw [w]; rfl⟩⟩
end
theorem putOuts_length : ∀ (ios : List (Nat × Nat)) (ds : List D) (env : Env), (putOuts ios ds env).length = env.length
  | [], _, _ => by unfold putOuts; rfl
  | _ :: _, [], _ => by unfold putOuts; rfl
  | (k, i) :: ios, d :: ds, env => by unfold putOuts; rw [putOuts_length ios ds]; simp
theorem putOuts_get : ∀ {ios : List (Nat × Nat)} {ds : List D} {env : Env} {i : Nat} {d : D}, ds.length = ios.length → (putOuts ios ds env)[i]? = some (some d) → (∃ j k : Nat, ios[j]? = some (k, i) ∧ ds[j]? = some d) ∨ (i ∉ ios.map (·.2) ∧ env[i]? = some (some d))
  | [], _, env, i, d, _, h => by
    unfold putOuts at h
    exact .inr ⟨by simp, h⟩
  | _ :: _, [], _, _, _, hl, _ => by simp at hl
  | (k, i') :: ios, d' :: ds, env, i, d, hl, h => by
    unfold putOuts at h
    rcases putOuts_get (by simpa using hl) h with ⟨j, k', h1, h2⟩ | ⟨h1, h2⟩
    · exact .inl ⟨j + 1, k', by simpa using h1, by simpa using h2⟩
    · by_cases e : i' = i
      · subst e
        rw [List.getElem?_set] at h2
        simp only [if_true] at h2
        split at h2
        · simp at h2
          exact .inl ⟨0, k, by simp, by simpa using h2⟩
        · cases h2
      · rw [List.getElem?_set_ne e] at h2
        exact .inr ⟨by simp only [List.map_cons, List.mem_cons, not_or]; exact ⟨fun h => e h.symm, h1⟩, h2⟩
theorem iosOk_mem : ∀ {ios : List (Nat × Nat)} {as : List (D × Src)}, iosOk ios as = true → ∀ k i, (k, i) ∈ ios → ∃ d, as[k]? = some (d, .at i [])
  | (k', i') :: ios, as, h, k, i, hm => by
    unfold iosOk at h
    simp only [Bool.and_eq_true] at h
    rcases List.mem_cons.mp hm with e | hm
    · cases e
      obtain ⟨h, _⟩ := h
      split at h
      · rename_i d j e
        cases of_decide_eq_true h
        exact ⟨d, e⟩
      · cases h
    · exact iosOk_mem h.2 k i hm
theorem ARep.get {K : PySem.W.Frag} {ω : Own} {H : Hp} {σ : L2.St} : ∀ {as : List (D × Src)} {vs : List V} {n k : Nat} {d : D} {s : Src}, ARep K ω H σ as vs n → as[k]? = some (d, s) → ∃ v, vs[k]? = some v ∧ Rep K ω H d v (s.loc (n + k)) ∧ s.good ω H σ v
  | _, _, n, 0, d, s, .cons r _, h => by
    simp at h
    obtain ⟨rfl, rfl⟩ := h
    exact ⟨_, rfl, r⟩
  | _, _, n, k + 1, d, s, .cons _ t, h => by
    obtain ⟨v, h1, h2⟩ := ARep.get (k := k) t (by simpa using h)
    exact ⟨v, by simpa using h1, by rw [show n + (k + 1) = n + 1 + k by omega]; exact h2⟩
theorem ARep.length {K : PySem.W.Frag} {ω : Own} {H : Hp} {σ : L2.St} : ∀ {as : List (D × Src)} {vs : List V} {n : Nat}, ARep K ω H σ as vs n → vs.length = as.length
  | _, _, _, .nil => rfl
  | _, _, _, .cons _ t => by simp [t.length]
theorem argsD_length (io : List Nat) : ∀ (k : Nat) (as : List (D × Src)), (argsD io k as).length = as.length
  | _, [] => rfl
  | k, (d, s) :: as => by unfold argsD; simp [argsD_length io (k + 1) as]
theorem argsD_get (io : List Nat) : ∀ {k j : Nat} {as : List (D × Src)} {d : D}, (argsD io k as)[j]? = some d → ∃ d0 s, as[j]? = some (d0, s) ∧ d = if k + j ∈ io then d0 else d0.frz
  | k, 0, (d0, s) :: as, d, h => by
    unfold argsD at h
    simp at h
    exact ⟨d0, s, rfl, h.symm⟩
  | k, j + 1, (d0, s) :: as, d, h => by
    unfold argsD at h
    obtain ⟨d1, s1, h1, h2⟩ := argsD_get io (k := k + 1) (j := j) (by simpa using h)
    exact ⟨d1, s1, by simpa using h1, by rw [h2, show k + 1 + j = k + (j + 1) by omega]⟩
  | _, _, [], _, h => by unfold argsD at h; simp at h
theorem lentOf_mem (io : List Nat) : ∀ {k j : Nat} {as : List (D × Src)} {d : D} {i : Nat} {p : List Nat}, as[j]? = some (d, .at i p) → k + j ∉ io → i ∈ lentOf io k as
  | k, 0, (d0, s) :: as, d, i, p, h, hn => by
    simp at h
    obtain ⟨rfl, rfl⟩ := h
    unfold lentOf
    simp only
    rw [if_neg (by simpa using hn)]
    exact List.mem_cons_self
  | k, j + 1, (d0, s) :: as, d, i, p, h, hn => by
    have := lentOf_mem io (k := k + 1) (j := j) (by simpa using h) (by rw [show k + 1 + j = k + (j + 1) by omega]; exact hn)
    unfold lentOf
    cases s with
    | tmp => exact this
    | «at» i' p' =>
      simp only
      split
      · exact this
      · exact List.mem_cons_of_mem _ this
theorem allHot_get : ∀ {ds : List D} {j : Nat} {d : D}, allHot ds = true → ds[j]? = some d → d.hot = true
  | d0 :: ds, 0, d, h, e => by
    simp at e; subst e
    simp only [allHot, Bool.and_eq_true] at h
    exact h.1
  | d0 :: ds, j + 1, d, h, e => by
    simp only [allHot, Bool.and_eq_true] at h
    exact allHot_get h.2 (by simpa using e)
  | [], _, _, _, e => by simp at e

section
variable {X : Cx} {a : Expr} {es : List Expr} {Ma Mb Mc Ml : List Nat} {fr : AF} {pos : Pos}
theorem tCall_of {ios : List (Nat × Nat)} {F : FF} (nk : (ios.map (·.1)).Nodup) (ns : (ios.map (·.2)).Nodup) (n : Nat) {σ : L2.St} {H : Hp} {Q : VK} {E : XK} (h : tE X.K (Ma ++ (ios.map (·.2) ++ Ml)) n (fnE ios Ml F fr) σ H Q) :
    tCall (spOf X.K (ios.map (·.1)) F) [] E (tA X.K Ma n fr) σ H Q := by
  obtain ⟨fx, env, ω, d, s, env', R, e, k⟩ := h
  unfold fnE at e
  obtain ⟨⟨as, env1⟩, e1, h⟩ := Option.bind_eq_some_iff.mp e
  split at h
  case isFalse => cases h
  case isTrue hio =>
  obtain ⟨hio, hlent⟩ := hio
  obtain ⟨⟨res, outs⟩, e2, h⟩ := Option.bind_eq_some_iff.mp h
  split at h
  case isFalse => cases h
  case isTrue hlen =>
  simp only at hio hlent e2 hlen h
  generalize hL : lentOf (ios.map (·.1)) 0 as = lent at *
  have hlent' : ∀ i ∈ lent, i ∉ ios.map (·.2) := fun i hi => of_decide_eq_true (List.all_eq_true.mp hlent i hi)
  refine ⟨fx, env, ω, as, env1, R, e1, fun vs H1 ω1 R1 r1 p1 => ?_⟩
  refine ⟨calleeO ios lent n ω1, argsD (ios.map (·.1)) 0 as, res, outs, by rw [List.append_nil, argsD_length]; exact r1.length, e2, fun j dj vj hd hv => ?_, fun v H2 ω' rr ro K0 => ?_⟩
  · -- the arguments
    rw [List.append_nil] at hv
    obtain ⟨d0, s0, ha, hd0⟩ := argsD_get _ hd
    obtain ⟨v0, hv0, rep, good⟩ := r1.get ha
    rw [hv] at hv0
    cases hv0
    rw [hd0]
    by_cases hj : 0 + j ∈ ios.map (·.1)
    · rw [if_pos hj]
      obtain ⟨⟨k', i⟩, hm, hk⟩ := List.mem_map.mp hj
      simp only [Nat.zero_add] at hk
      subst hk
      obtain ⟨d1, h1⟩ := iosOk_mem hio _ _ hm
      rw [ha] at h1
      cases h1
      exact rep.tr callee_calm (callee_io ns hm)
    · rw [if_neg hj]
      cases s0 with
      | tmp => exact rep.cool callee_calm (callee_tmp (Nat.le_add_right n j))
      | «at» i p =>
        have hi : i ∈ lent := by rw [← hL]; exact lentOf_mem _ ha hj
        exact rep.cool callee_calm (callee_lent hi (hlent' i hi))
  · -- behind the call
    have fin : ∀ (S : List Nat), (∀ i ∈ S, i ∈ lent ∧ i ∉ ios.map (·.2)) → (∀ i ∈ S, i ∈ Ml) → ((∀ i ∈ lent, i ∈ S) ∨ (res.hot = true ∧ allHot outs = true)) → env' = putOuts ios outs (env1.cools S) → d = res → s = .tmp → Q v H2 := by
      intro S hS hSl hor he hd hs
      subst he hd hs
      have P := after_post (ios := ios) (lent := lent) (n := n) hS K0
      have T : ∀ {dd : D} {vv : V} {l l2 : Loc}, (dd.hot = true ∨ ∀ i ∈ lent, i ∈ S) → Goes ω' H2 (afterO ios lent S n ω1 H1 ω') H2 l l2 → Rep X.K ω' H2 dd vv l → Rep X.K (afterO ios lent S n ω1 H1 ω') H2 dd vv l2 := by
        intro dd vv l l2 hh g r
        rcases hh with hh | hh
        · exact Rep.trH (fun _ _ h _ => h) g hh r
        · exact r.tr (after_calm hh K0) g
      refine k v H2 (afterO ios lent S n ω1 H1 ω') ⟨by rw [putOuts_length, Env.cools_length]; exact R1.len, fun i di hi => ?_, R1.fix⟩ ⟨T (hor.elim (fun h => .inr h) fun h => .inl h.1) (after_res K0) rr, trivial⟩ ((p1.mono memL (Nat.le_refl _)).trans ((drop_post fun i hi => memR i (memR i (hSl i hi))).trans (P.mono (fun i hi => memR i (memL i hi)) (Nat.le_refl _))))
      rcases putOuts_get hlen hi with ⟨j, k', h1, h2⟩ | ⟨h1, h2⟩
      · have hm : (k', i) ∈ ios := List.mem_of_getElem? h1
        obtain ⟨d1, h3⟩ := iosOk_mem hio _ _ hm
        obtain ⟨v1, h4, _, good⟩ := r1.get h3
        have hk : (ios.map (·.1))[j]? = some k' := by rw [List.getElem?_map, h1]; rfl
        have rep := ro j k' di v1 hk h2 (by rw [List.append_nil]; exact h4)
        exact ⟨v1, good, T (hor.elim (fun h => .inr h) fun h => .inl (allHot_get h.2 h2)) (after_out nk hm K0) rep⟩
      · obtain ⟨v1, h3, rep⟩ := (R1.cools S).rep i di h2
        exact ⟨v1, h3, rep.post P (show i ∉ _ from h1)⟩
    split at h
    case isTrue hc =>
      cases h
      refine fin [] (fun _ h => nomatch h) (fun _ h => nomatch h) (hc.elim (fun h => .inl fun i hi => ?_) .inr) rfl rfl rfl
      rw [h] at hi
      exact hi
    case isFalse =>
      split at h
      case isFalse => cases h
      case isTrue hm =>
        cases h
        exact fin lent (fun i hi => ⟨hi, hlent' i hi⟩) (fun i hi => of_decide_eq_true (List.all_eq_true.mp hm i hi)) (.inl fun _ h => h) rfl rfl rfl
theorem ce_call {ios : List (Nat × Nat)} {F : FF} {CX : CXT} {k : Nat} {f : Addr} {fd : FuncData} {ps : List Str} {E : XK} {x : Str} {p : Pos} (nk : (ios.map (·.1)).Nodup) (ns : (ios.map (·.2)).Nodup)
    (G : FnOk X.prog X.w X.K X.mg X.base CX k f fd ps (spOf X.K (ios.map (·.1)) F)) (hr : Room k X.A) (hg : Gl X x) (hm : X.mg x = some (.ref f)) (hk : PySem.W.keepIn X.K (.ref f) = true) (hb : Binds X.K fd ps []) (hx : Passes CX X E)
    (ha : CA X (a :: es) Ma fr) (hdb : (x == ("__debug__" : Str)) = false := by decide) (he : starEach (a :: es) X.env = (false, eval a X.env) :: starEach es X.env := by rfl) (hpl : (backTo pos (starEach es X.env)).any (·.1) = false := by rfl) :
    CE X (.Call (.Name x p) (a :: es) [] pos) (Ma ++ (ios.map (·.2) ++ Ml)) (fnE ios Ml F fr) := fun n =>
  pe_of (pe_call G hr hg hm hk hb .nil hx (ha n) hdb he hpl) fun σ H Q h => tCall_of nk ns n h
theorem ce_call0 {F : FF} {CX : CXT} {k : Nat} {f : Addr} {fd : FuncData} {E : XK} {x : Str} {p : Pos}
    (G : FnOk X.prog X.w X.K X.mg X.base CX k f fd [] (spOf X.K [] F)) (hr : Room k X.A) (hg : Gl X x) (hm : X.mg x = some (.ref f)) (hk : PySem.W.keepIn X.K (.ref f) = true) (hb : Binds X.K fd [] []) (hx : Passes CX X E) (hdb : (x == ("__debug__" : Str)) = false := by decide) :
    CE X (.Call (.Name x p) [] [] pos) [] (fnE [] [] F nilA) := fun n =>
  pe_of (pe_call0 G hr hg hm hk hb .nil hx hdb) fun σ H Q h => by
    have := tCall_of (X := X) (Ma := []) (Ml := []) (ios := []) (E := E) (by simp) (by simp) n h
    obtain ⟨fx, env, ω, as, env', R, e, k⟩ := this
    cases e
    exact k [] H ω R .nil (Post.refl _ _ _ _)
end
end VC

set_option Elab.async false
set_option linter.all false
set_option maxRecDepth 100000
/-! VC5: a node of a slot's tree is changed. -/
namespace VC
open PySem PySem.Spec PyProof.Rows L2

/-- the tree with the owned list at a path (from the root) put anew -/
def D.put : D → List Nat → D → Option D
  | .lst .own _, [], new => some new
  | .lst .own xs, k :: q, new => (xs[k]?).bind fun c => (D.put c q new).map fun c' => .lst .own (xs.set k c')
  | _, _, _ => none
def Loc.subs (l : Loc) : List Nat → Loc
  | [] => l
  | k :: q => (l.sub k).subs q
theorem Loc.subs_id (l : Loc) : ∀ q, (l.subs q).id = l.id
  | [] => rfl
  | k :: q => by unfold Loc.subs; rw [Loc.subs_id (l.sub k) q]; rfl
theorem Loc.subs_path : ∀ (q : List Nat) (l : Loc), (l.subs q).path = q.reverse ++ l.path
  | [], _ => rfl
  | k :: q, l => by unfold Loc.subs; rw [Loc.subs_path q]; simp [Loc.sub]
/-- by values: the node at a path below v is the one at a -/
def Dn (ω : Own) (H : Hp) : V → Loc → List Nat → Addr → Prop
  | v, _, [], a => v = .ref a
  | v, l, k :: q, a => ∃ b vs w, v = .ref b ∧ LstW ω H b vs l ∧ vs[k]? = some w ∧ Dn ω H w (l.sub k) q a
theorem Dn.snoc {ω : Own} {H : Hp} {k : Nat} {b a : Addr} {vs : List V} : ∀ {q : List Nat} {v : V} {l : Loc}, Dn ω H v l q b → LstW ω H b vs (l.subs q) → vs[k]? = some (.ref a) → Dn ω H v l (q ++ [k]) a
  | [], v, l, h, w, e => ⟨b, vs, .ref a, h, w, e, rfl⟩
  | j :: q, v, l, h, w, e => by
    obtain ⟨b', vs', w', e1, e2, e3, e4⟩ := h
    exact ⟨b', vs', w', e1, e2, e3, Dn.snoc e4 w e⟩
theorem VP.down {ω : Own} {H : Hp} {σ : L2.St} {i : Nat} : ∀ {p : List Nat} {a : Addr}, VP ω H σ i p (.ref a) → ∃ v0, σ[i]? = some (some v0) ∧ Dn ω H v0 ⟨.slot i, []⟩ p.reverse a
  | [], a, h => ⟨_, h, rfl⟩
  | k :: p, a, h => by
    obtain ⟨b, vs, h1, h2, h3⟩ := h
    obtain ⟨v0, e, d⟩ := VP.down h1
    refine ⟨v0, e, ?_⟩
    rw [List.reverse_cons]
    refine d.snoc ?_ h3
    have : (Loc.subs ⟨.slot i, []⟩ p.reverse) = ⟨.slot i, p⟩ := by
      have h1 := Loc.subs_id ⟨.slot i, []⟩ p.reverse
      have h2 := Loc.subs_path p.reverse ⟨.slot i, []⟩
      generalize Loc.subs ⟨.slot i, []⟩ p.reverse = l at *
      obtain ⟨id, pp⟩ := l
      simp at h1 h2
      rw [h1, h2]
    rw [this]
    exact h2
/-- only the list at a is anew, only temporaries are labelled anew -/
structure Chg (n : Nat) (a : Addr) (ω : Own) (H : Hp) (ω' : Own) (H' : Hp) : Prop where
  ne : ∀ b, b ≠ a → H' b = H b
  lb : ∀ b, (∀ m s, n ≤ m → ω b ≠ some ⟨.tmp m, s⟩) → ω' b = ω b
section
variable {K : PySem.W.Frag} {ω ω' : Own} {H H' : Hp} {n : Nat} {a : Addr} {xs0 : List V}
theorem Chg.calm (c : Chg n a ω H ω' H') (hw : LstW ω H a xs0 l) : Calm ω H ω' H' := ⟨fun b o e s => by
  have : b ≠ a := fun q => by subst q; rw [hw.1] at e; cases e; cases s
  rw [c.ne b this]; exact e, fun b o e w => by
  have : b ≠ a := fun q => by subst q; rw [hw.2] at w; cases w
  exact ⟨by rw [c.ne b this]; exact e, by rw [c.lb b (by rw [w]; intro _ _ _ h; cases h)]; exact w⟩⟩
theorem Chg.goes (c : Chg n a ω H ω' H') {l l' : Loc} (hw : LstW ω H a xs0 l) (hl : l'.ok [] n) (hne : ∀ s, (⟨l'.id, s ++ l'.path⟩ : Loc) ≠ l) : Goes ω H ω' H' l' l' := fun b o s e w => by
  have : b ≠ a := fun q => by subst q; rw [hw.2] at w; exact hne s (Option.some.inj w).symm
  refine ⟨by rw [c.ne b this]; exact e, ?_⟩
  rw [c.lb b ?_]; exact w
  intro m s' hm h
  rw [w] at h
  injection h with h
  injection h with h1 _
  rw [Loc.ok, h1] at hl
  exact absurd hl (Nat.not_lt.mpr hm)
theorem Chg.post (c : Chg n a ω H ω' H') {M : List Nat} {l : Loc} (hw : LstW ω H a xs0 l) (hl : ∃ i, l.id = .slot i ∧ i ∈ M) : Post M n ω H ω' H' := by
  refine ⟨(c.calm hw).st, fun b o e p => ?_⟩
  have : b ≠ a := fun q => by
    subst q
    rw [hw.2] at p
    obtain ⟨i, h1, h2⟩ := hl
    obtain ⟨id, pp⟩ := l
    cases (show id = _ from h1)
    exact absurd h2 (show i ∉ M from p)
  refine ⟨by rw [c.ne b this]; exact e, c.lb b fun m s hm h => ?_⟩
  rw [h] at p
  exact absurd (show m < n from p) (Nat.not_lt.mpr hm)
theorem Reps.set_back : ∀ {xs : List D} {vs : List V} {l : Loc} {k j : Nat} {c' : D} {w : V}, (∀ i d v, i ≠ j → xs[i]? = some d → vs[i]? = some v → Rep K ω H d v (l.sub (k + i)) → Rep K ω' H' d v (l.sub (k + i))) →
    Reps K ω H xs vs l k → vs[j]? = some w → Rep K ω' H' c' w (l.sub (k + j)) → Reps K ω' H' (xs.set j c') vs l k
  | [], vs, l, k, j, c', w, _, h, e, _ => by
    cases (show vs = [] from h)
    simp at e
  | x :: xs, vs, l, k, 0, c', w, g, h, e, r => by
    simp only [Reps] at h
    obtain ⟨v, vs', rfl, r1, rs⟩ := h
    simp at e
    subst e
    show Reps K ω' H' (c' :: xs) (v :: vs') l k
    simp only [Reps]
    refine ⟨v, vs', rfl, r, ?_⟩
    clear r r1
    -- the rest
    have : ∀ {ys : List D} {ws : List V} {k2 : Nat}, (∀ i d v, ys[i]? = some d → ws[i]? = some v → Rep K ω H d v (l.sub (k2 + i)) → Rep K ω' H' d v (l.sub (k2 + i))) → Reps K ω H ys ws l k2 → Reps K ω' H' ys ws l k2 := by
      intro ys
      induction ys with
      | nil => intro ws k2 _ h; exact h
      | cons y ys ih =>
        intro ws k2 g h
        simp only [Reps] at h ⊢
        obtain ⟨v, ws', rfl, r1, rs⟩ := h
        refine ⟨v, ws', rfl, g 0 y v rfl rfl r1, ih (fun i d u h1 h2 h3 => ?_) rs⟩
        have := g (i + 1) d u (by simpa using h1) (by simpa using h2) (by rw [show k2 + (i + 1) = k2 + 1 + i by omega]; exact h3)
        rw [show k2 + 1 + i = k2 + (i + 1) by omega]; exact this
    refine this (fun i d u h1 h2 h3 => ?_) rs
    have := g (i + 1) d u (by omega) (by simpa using h1) (by simpa using h2) (by rw [show k + (i + 1) = k + 1 + i by omega]; exact h3)
    rw [show k + 1 + i = k + (i + 1) by omega]; exact this
  | x :: xs, vs, l, k, j + 1, c', w, g, h, e, r => by
    simp only [Reps] at h
    obtain ⟨v, vs', rfl, r1, rs⟩ := h
    show Reps K ω' H' (x :: xs.set j c') (v :: vs') l k
    simp only [Reps]
    refine ⟨v, vs', rfl, g 0 x v (by omega) rfl rfl r1, ?_⟩
    refine Reps.set_back (j := j) (fun i d u hi h1 h2 h3 => ?_) rs (by simpa using e) (by rw [show k + 1 + j = k + (j + 1) by omega]; exact r)
    have := g (i + 1) d u (by omega) (by simpa using h1) (by simpa using h2) (by rw [show k + (i + 1) = k + 1 + i by omega]; exact h3)
    rw [show k + 1 + i = k + (i + 1) by omega]; exact this
/-- the whole tree behind the change of one node -/
theorem put_rep (c : Chg n a ω H ω' H') {lt : Loc} (hw : LstW ω H a xs0 lt) (hid : ∃ i, lt.id = .slot i) {new : D} (hnew : Rep K ω' H' new (.ref a) lt) : ∀ {q : List Nat} {d d' : D} {v : V} {l : Loc}, l.subs q = lt → Dn ω H v l q a → Rep K ω H d v l → D.put d q new = some d' → Rep K ω' H' d' v l
  | [], d, d', v, l, hl, dn, r, h => by
    cases (show v = .ref a from dn)
    unfold D.put at h
    split at h
    · cases h
      cases (show l = lt from hl)
      exact hnew
    · rename_i e; cases e
    · cases h
  | k :: q, d, d', v, l, hl, dn, r, h => by
    obtain ⟨b, vs, w, rfl, hb, e, dn'⟩ := dn
    unfold D.put at h
    split at h
    · rename_i e; cases e
    · rename_i xs k' q' new' e
      cases e
      obtain ⟨ck, e1, h⟩ := Option.bind_eq_some_iff.mp h
      obtain ⟨c', e2, h⟩ := Option.map_eq_some_iff.mp h
      subst h
      simp only [Rep] at r ⊢
      obtain ⟨b', vs', eb, hb', rs⟩ := r
      cases eb
      have hb'' : LstW ω H b vs' l := hb'
      have ev : vs' = vs := by
        have := hb.1.symm.trans hb''.1
        injection this with this
        injection this with this
        exact this.symm
      subst ev
      obtain ⟨w', hw', rk⟩ := rs.get e1
      rw [e] at hw'
      cases hw'
      have hpath : lt.path = q.reverse ++ (k :: l.path) := by
        rw [← hl]
        show ((l.sub k).subs q).path = _
        rw [Loc.subs_path]; rfl
      have hidl : lt.id = l.id := by rw [← hl]; exact Loc.subs_id _ _
      have nb : b ≠ a := fun q => by
        subst q
        have := hb''.2.symm.trans hw.2
        injection this with this
        have h1 := congrArg (fun x => x.path.length) this
        simp only [hpath, List.length_append, List.length_cons, List.length_reverse] at h1
        omega
      have okl : ∀ j, (l.sub j).ok [] n := fun j => by
        obtain ⟨i, hi⟩ := hid
        rw [hidl] at hi
        show (Loc.mk l.id (j :: l.path)).ok [] n
        unfold Loc.ok
        rw [hi]
        simp
      refine ⟨b, vs', rfl, ⟨by rw [c.ne b nb]; exact hb''.1, ?_⟩, ?_⟩
      · rw [c.lb b ?_]; exact hb''.2
        intro m s hm h
        rw [hb''.2] at h
        injection h with h
        obtain ⟨i, hi⟩ := hid
        rw [hidl, h] at hi
        cases hi
      · refine Reps.set_back (j := k) (fun i di vi hi h1 h2 h3 => h3.tr (c.calm hw) (c.goes hw (okl _) fun s hs => ?_)) rs e ?_
        · rw [← hs] at hpath
          simp only [Loc.sub, Nat.zero_add] at hpath
          have h1 : (s ++ i :: l.path).reverse = (q.reverse ++ k :: l.path).reverse := by rw [hpath]
          simp only [List.reverse_append, List.reverse_cons, List.append_assoc, List.reverse_reverse] at h1
          have h2 := List.append_cancel_left h1
          simp at h2
          exact hi h2.1
        · rw [Nat.zero_add]
          exact put_rep c hw hid hnew (l := l.sub k) hl dn' (by simpa using rk) e2
    · cases h
end
end VC

set_option Elab.async false
set_option linter.all false
set_option maxRecDepth 100000
/-! VC6: statements. -/
namespace VC
open PySem PySem.Spec PyProof.Rows L2

inductive Res where
  | nx (e : Env) | rt (d : D) (e : Env) | bk (e : Env) | ct (e : Env)
abbrev SF := Env → Option Res
theorem Keep0.trans {ω ω1 ω2 : Own} {H H1 H2 : Hp} (a : Keep0 ω H ω1 H1) (b : Keep0 ω1 H1 ω2 H2) : Keep0 ω H ω2 H2 := ⟨fun x o e s => b.st x o (a.st x o e s) s, fun x o e p => by
  obtain ⟨e1, w1⟩ := a.no x o e p
  obtain ⟨e2, w2⟩ := b.no x o e1 (by rw [w1]; exact p)
  exact ⟨e2, w2.trans w1⟩⟩
theorem Post.keep0 {M : List Nat} {n : Nat} {ω ω' : Own} {H H' : Hp} (h : Post M n ω H ω' H') : Keep0 ω H ω' H' := ⟨h.st, fun a o e p => h.pr a o e (by
  cases hw : ω a with
  | none => trivial
  | some l =>
    rw [hw] at p
    obtain ⟨id, q⟩ := l
    cases id with
    | out => trivial
    | slot i => cases p
    | tmp m => cases p)⟩
def REnd (K : PySem.W.Frag) (fx : List (Nat × V)) (M : List Nat) (n : Nat) (ω : Own) (H : Hp) (Dn : Ends) : Res → Prop
  | .nx e' => ∀ σ' H' ω', Rel K fx e' ω' σ' H' → Post M n ω H ω' H' → Dn.nx σ' H'
  | .bk e' => ∀ σ' H' ω', Rel K fx e' ω' σ' H' → Post M n ω H ω' H' → Dn.bk σ' H'
  | .ct e' => ∀ σ' H' ω', Rel K fx e' ω' σ' H' → Post M n ω H ω' H' → Dn.ct σ' H'
  | .rt d e' => ∀ v H' ω', Rep K ω' H' d v ⟨.tmp 0, []⟩ → (∀ p ∈ fx, ∀ d, e'[p.1]? = some (some d) → Rep K ω' H' d p.2 ⟨.slot p.1, []⟩) → Keep0 ω H ω' H' → Dn.rt v H'
def tS (K : PySem.W.Frag) (P M : List Nat) (n : Nat) (f : SF) : TS := fun Dn σ H => ∃ fx env ω r, fx.map (·.1) = P ∧ Rel K fx env ω σ H ∧ f env = some r ∧ REnd K fx M n ω H Dn r
def CS (X : Cx) (st : Stmt) (P M : List Nat) (f : SF) : Prop := ∀ n, PS X st (tS X.K P M n f)
def CB (X : Cx) (st : List Stmt) (P M : List Nat) (f : SF) : Prop := ∀ n, PSs X st (tS X.K P M n f)

theorem REnd.mono {K : PySem.W.Frag} {fx : List (Nat × V)} {M M' : List Nat} {n n' : Nat} {ω ω1 : Own} {H H1 : Hp} {Dn : Ends} {r : Res} (p : Post M' n' ω H ω1 H1) (hM : ∀ i ∈ M, i ∈ M') (hn : n' ≤ n) (h : REnd K fx M' n' ω H Dn r) : REnd K fx M n ω1 H1 Dn r := by
  cases r with
  | nx e => exact fun σ' H' ω' R q => h σ' H' ω' R (p.trans (q.mono hM hn))
  | bk e => exact fun σ' H' ω' R q => h σ' H' ω' R (p.trans (q.mono hM hn))
  | ct e => exact fun σ' H' ω' R q => h σ' H' ω' R (p.trans (q.mono hM hn))
  | rt d e => exact fun v H' ω' r o q => h v H' ω' r o (p.keep0.trans q)

section
variable {X : Cx} {a b c o e : Expr} {es : List Expr} {st : Stmt} {rest body b1 b2 : List Stmt} {P M M1 M2 Ma Mb Mc Mt : List Nat} {fa fb fc fo : EF} {ta tb tc : TF} {fr : AF} {f g f1 f2 : SF} {pos : Pos}

/-! ### blocks -/
def skipS : SF := fun env => some (.nx env)
def seqS (f g : SF) : SF := fun env => match f env with
  | some (.nx e) => g e
  | r => r
theorem cb_nil : CB X [] P [] skipS := fun n => pss_of pss_nil fun Dn σ H h => by
  obtain ⟨fx, env, ω, r, hP, R, e, k⟩ := h
  cases e
  exact k σ H ω R (Post.refl _ _ _ _)
theorem cb_cons (h1 : CS X st P M1 f) (h2 : CB X rest P M2 g) : CB X (st :: rest) P (M1 ++ M2) (seqS f g) := fun n => pss_of (pss_cons (h1 n) (h2 n)) fun Dn σ H h => by
  obtain ⟨fx, env, ω, r, hP, R, e, k⟩ := h
  unfold seqS at e
  split at e
  · rename_i e1 he
    refine ⟨fx, env, ω, .nx e1, hP, R, he, fun σ' H' ω' R' p => ?_⟩
    exact ⟨fx, e1, ω', r, hP, R', e, k.mono (p.mono memL (Nat.le_refl _)) memR (Nat.le_refl _)⟩
  · rename_i hne
    refine ⟨fx, env, ω, r, hP, R, e, ?_⟩
    cases r with
    | nx e1 => exact absurd e (hne e1)
    | bk e1 => exact fun σ' H' ω' R' p => k σ' H' ω' R' (p.mono memL (Nat.le_refl _))
    | ct e1 => exact fun σ' H' ω' R' p => k σ' H' ω' R' (p.mono memL (Nat.le_refl _))
    | rt d e1 => exact k
theorem cb_one (h : CS X st P M1 f) : CB X [st] P (M1 ++ []) (seqS f skipS) := cb_cons h cb_nil
theorem cs_pass : CS X (.Pass pos) P [] skipS := fun n => ps_of ps_pass fun Dn σ H h => by
  obtain ⟨fx, env, ω, r, hP, R, e, k⟩ := h
  cases e
  exact k σ H ω R (Post.refl _ _ _ _)
def brkS : SF := fun env => some (.bk env)
def cntS : SF := fun env => some (.ct env)
theorem cs_break : CS X (.Break pos) P [] brkS := fun n => ps_of ps_break fun Dn σ H h => by
  obtain ⟨fx, env, ω, r, hP, R, e, k⟩ := h
  cases e
  exact k σ H ω R (Post.refl _ _ _ _)
theorem cs_continue : CS X (.Continue pos) P [] cntS := fun n => ps_of ps_continue fun Dn σ H h => by
  obtain ⟨fx, env, ω, r, hP, R, e, k⟩ := h
  cases e
  exact k σ H ω R (Post.refl _ _ _ _)
def ifS (t : TF) (f g : SF) : SF := fun env => match t env with
  | some (true, e) => f e
  | some (false, e) => g e
  | none => none
theorem cs_if (hc : CT X c Mc tc) (h1 : CB X b1 P M1 f1) (h2 : CB X b2 P M2 f2) : CS X (.If c b1 b2 pos) P (Mc ++ (M1 ++ M2)) (ifS tc f1 f2) := fun n => ps_of (ps_if (hc n) (h1 n) (h2 n)) fun Dn σ H h => by
  obtain ⟨fx, env, ω, r, hP, R, e, k⟩ := h
  unfold ifS at e
  split at e
  · rename_i e1 he
    refine ⟨fx, env, ω, true, e1, R, he, fun H' ω' R' p => ?_⟩
    show tS X.K P M1 n f1 Dn σ H'
    exact ⟨fx, e1, ω', r, hP, R', e, k.mono (p.mono memL (Nat.le_refl _)) (fun i hi => memR i (memL i hi)) (Nat.le_refl _)⟩
  · rename_i e1 he
    refine ⟨fx, env, ω, false, e1, R, he, fun H' ω' R' p => ?_⟩
    show tS X.K P M2 n f2 Dn σ H'
    exact ⟨fx, e1, ω', r, hP, R', e, k.mono (p.mono memL (Nat.le_refl _)) (fun i hi => memR i (memR i hi)) (Nat.le_refl _)⟩
  · cases e

/-! ### a name is set -/
def take1 (Mc : List Nat) (d : D) (s : Src) (env : Env) : Option (D × Env) := match s with
  | .tmp => some (d, env)
  | .at i _ => if i ∈ Mc then some (d.frz, env.cools [i]) else none
theorem take1_rep {K : PySem.W.Frag} {fx : List (Nat × V)} {env env' : Env} {ω : Own} {σ : L2.St} {H : Hp} {d d' : D} {s : Src} {v : V} {m : Nat} (l2 : Loc) (R : Rel K fx env ω σ H) (r : Rep K ω H d v (s.loc m)) (h : take1 Mc d s env = some (d', env')) :
    ∃ ω', Rel K fx env' ω' σ H ∧ Rep K ω' H d' v l2 ∧ Post Mc m ω H ω' H := by
  cases s with
  | tmp =>
    cases h
    exact ⟨VC.relab ω m l2, R.relab, Rep.relab r, relab_post (Nat.le_refl _)⟩
  | «at» i p =>
    unfold take1 at h
    simp only at h
    split at h
    case isFalse => cases h
    case isTrue hi =>
    cases h
    exact ⟨dropSlots ω [i], R.cools [i], r.cool drop_calm (drop_cools (by simp)), drop_post (by simpa using hi)⟩
theorem Rel.set {K : PySem.W.Frag} {fx : List (Nat × V)} {env : Env} {ω : Own} {σ : L2.St} {H : Hp} (R : Rel K fx env ω σ H) {i : Nat} {d : D} {v : V} (hfx : i ∉ fx.map (·.1)) (hi : i < σ.length) (r : Rep K ω H d v ⟨.slot i, []⟩) : Rel K fx (env.set i (some d)) ω (σ.set i (some v)) H := by
  refine ⟨by simp [R.len], fun j dj e => ?_, fun p hp => ?_⟩
  · by_cases hj : i = j
    · subst hj
      rw [List.getElem?_set_self (by rw [R.len]; exact hi)] at e
      cases e
      exact ⟨v, List.getElem?_set_self hi, r⟩
    · rw [List.getElem?_set_ne hj] at e
      obtain ⟨u, e1, r1⟩ := R.rep j dj e
      exact ⟨u, by rw [List.getElem?_set_ne hj]; exact e1, r1⟩
  · have : i ≠ p.1 := fun q => hfx (by rw [q]; exact List.mem_map.mpr ⟨p, hp, rfl⟩)
    rw [List.getElem?_set_ne this]
    exact R.fix p hp
def asgS (i : Nat) (P Mc : List Nat) (fa : EF) : SF := fun env => (fa env).bind fun p => (take1 Mc p.1 p.2.1 p.2.2).bind fun q => if i < q.2.length ∧ i ∉ P then some (.nx (q.2.set i (some q.1))) else none
theorem cs_set {i : Nat} {x : Str} {pos' : Pos} (Mc : List Nat) (hN : X.N.Nodup) (hi : X.N[i]? = some x) (hx : L2.Loc X.env.scope x) (he : CE X e Ma fa) (hs : swapsWith e (some (.Name x pos')) pos.line X.env = pure false := by rfl)
    (hf : X.fn x = true ∨ X.env.scope.names.lookup x = some .local := by first | exact .inl rfl | exact .inr rfl | assumption) : CS X (.Assign [.Name x pos'] e pos) P (Ma ++ Mc) (asgS i P Mc fa) := fun n => ps_of (ps_set hN hi hx (he n) hs hf) fun Dn σ H h => by
  obtain ⟨fx, env, ω, r, hP, R, e, k⟩ := h
  unfold asgS at e
  obtain ⟨⟨d, s, env1⟩, e1, h⟩ := Option.bind_eq_some_iff.mp e
  obtain ⟨⟨d', env2⟩, e2, h⟩ := Option.bind_eq_some_iff.mp h
  split at h
  case isFalse => cases h
  case isTrue hc =>
  cases h
  refine ⟨fx, env, ω, d, s, env1, R, e1, fun v H1 ω1 R1 r1 p1 => ?_⟩
  obtain ⟨ω2, R2, r2, p2⟩ := take1_rep (m := n) ⟨.slot i, []⟩ R1 r1.1 e2
  exact k _ H1 ω2 (R2.set (by rw [hP]; exact hc.2) (by rw [← R2.len]; exact hc.1) r2) ((p1.mono memL (Nat.le_refl _)).trans (p2.mono memR (Nat.le_refl _)))

/-! ### targets: names and tuples of them, for data that owns nothing; S: the slots that are set -/
def Only (S : List Nat) (σ σ' : L2.St) : Prop := σ'.length = σ.length ∧ ∀ i, i ∉ S → σ'[i]? = σ[i]?
theorem Only.refl (S : List Nat) (σ : L2.St) : Only S σ σ := ⟨rfl, fun _ _ => rfl⟩
theorem Only.trans {S T : List Nat} {σ σ1 σ2 : L2.St} (a : Only S σ σ1) (b : Only T σ1 σ2) : Only (S ++ T) σ σ2 := ⟨b.1.trans a.1, fun i hi => by
  rw [List.mem_append, not_or] at hi
  exact (b.2 i hi.2).trans (a.2 i hi.1)⟩
def Tgt (K : PySem.W.Frag) (P S : List Nat) (g : TG) (bd : D → Env → Option Env) : Prop := ∀ {fx : List (Nat × V)} {env env' : Env} {ω : Own} {σ : L2.St} {H : Hp} {d : D} {v : V} {l : VC.Loc} {Q : L2.St → Hp → Prop}, (∀ i ∈ fx.map (·.1), i ∈ P) → Rel K fx env ω σ H → Rep K ω H d v l → bd d env = some env' →
  (∀ σ', Rel K fx env' ω σ' H → Only S σ σ' → Q σ' H) → g v σ H Q
def Tgts (K : PySem.W.Frag) (P S : List Nat) (g : TGs) (bd : List D → Env → Option Env) : Prop := ∀ {fx : List (Nat × V)} {env env' : Env} {ω : Own} {σ : L2.St} {H : Hp} {ds : List D} {vs : List V} {l : VC.Loc} {k : Nat} {Q : L2.St → Hp → Prop}, (∀ i ∈ fx.map (·.1), i ∈ P) → Rel K fx env ω σ H → Reps K ω H ds vs l k → bd ds env = some env' →
  (∀ σ', Rel K fx env' ω σ' H → Only S σ σ' → Q σ' H) → g vs σ H Q
structure CG (X : Cx) (tg : Expr) (g : TG) (P S : List Nat) (bd : D → Env → Option Env) : Prop where
  pg : PG X tg g
  ok : Tgt X.K P S g bd
structure CGs (X : Cx) (ts : List Expr) (g : TGs) (P S : List Nat) (bd : List D → Env → Option Env) : Prop where
  pg : PGs X ts g
  ok : Tgts X.K P S g bd
def nameG (i : Nat) (P : List Nat) : D → Env → Option Env := fun d env => if d.cold = true ∧ i < env.length ∧ i ∉ P then some (env.set i (some d)) else none
theorem cg_name {i : Nat} {x : Str} (hN : X.N.Nodup) (hi : X.N[i]? = some x) (hx : L2.Loc X.env.scope x) (hf : X.fn x = true ∨ X.env.scope.names.lookup x = some .local := by first | exact .inl rfl | exact .inr rfl | assumption) : CG X (.Name x pos) (gName i) P [i] (nameG i P) := ⟨pg_name hN hi hx hf, by
  intro fx env env' ω σ H d v l Q hP R r h k
  unfold nameG at h
  split at h
  case isFalse => cases h
  case isTrue hc =>
  cases h
  exact k _ (R.set (fun h => hc.2.2 (hP _ h)) (by rw [← R.len]; exact hc.2.1) (r.any (Calm.refl _ _) _ hc.1)) ⟨by simp, fun j hj => List.getElem?_set_ne (by simpa using fun h => hj (by simp [h]))⟩⟩
def nilG : List D → Env → Option Env := fun ds env => match ds with
  | [] => some env
  | _ => none
def consG (b : D → Env → Option Env) (bs : List D → Env → Option Env) : List D → Env → Option Env := fun ds env => match ds with
  | d :: ds => (b d env).bind (bs ds)
  | [] => none
theorem cgs_nil : CGs X [] gNil P [] nilG := ⟨pgs_nil, by
  intro fx env env' ω σ H ds vs l k Q hP R r h q
  cases ds with
  | nil =>
    cases h
    cases (show vs = [] from r)
    exact ⟨rfl, q σ R (Only.refl _ _)⟩
  | cons d ds => cases h⟩
theorem cgs_cons {g1 : TG} {g2 : TGs} {S1 S2 : List Nat} {b : D → Env → Option Env} {bs : List D → Env → Option Env} (h1 : CG X a g1 P S1 b) (h2 : CGs X es g2 P S2 bs) (hs : List.map (fun x => x.snd) (assignEach (a :: es) X.env) = assign a X.env :: List.map (fun x => x.snd) (assignEach es X.env) := by rfl) :
    CGs X (a :: es) (gCons g1 g2) P (S1 ++ S2) (consG b bs) := by
  refine ⟨pgs_cons h1.pg h2.pg hs, ?_⟩
  intro fx env env' ω σ H ds vs l k Q hP R r h q
  cases ds with
  | nil => cases h
  | cons d ds =>
    simp only [Reps] at r
    obtain ⟨v, vs', rfl, r1, rs⟩ := r
    unfold consG at h
    obtain ⟨env1, e1, h⟩ := Option.bind_eq_some_iff.mp h
    exact ⟨v, vs', rfl, h1.ok hP R r1 e1 fun σ1 R1 o1 => h2.ok hP R1 rs h fun σ2 R2 o2 => q σ2 R2 (o1.trans o2)⟩
def tupG (n : Nat) (bs : List D → Env → Option Env) : D → Env → Option Env := fun d env => match d with
  | .tup ds => if ds.length = n then bs ds env else none
  | _ => none
def unlG (n : Nat) (bs : List D → Env → Option Env) : D → Env → Option Env := fun d env => match d with
  | .lst _ ds => if ds.length = n then bs ds env else none
  | _ => none
theorem cg_tup {k : Nat} {n : Nat} {g : TGs} {S : List Nat} {bs : List D → Env → Option Env} (hc : X.calm = true) (h : CGs X es g P S bs) (hn : (assignEach es X.env).length = n := by rfl) (hst : (assignEach es X.env).findIdx? (·.1) = none := by rfl) : CG X (.Tuple es k pos) (gTup X.K n g) P S (tupG n bs) := by
  refine ⟨pg_tup hc h.pg hn hst, ?_⟩
  intro fx env env' ω σ H d v l Q hP R r e q
  cases d with
  | tup ds =>
    simp only [tupG] at e
    split at e
    case isFalse => cases e
    case isTrue hl =>
    simp only [Rep] at r
    obtain ⟨a, vs, rfl, ht, rs⟩ := r
    exact ⟨a, vs, rfl, ht.sq, by rw [← rs.length]; exact hl, h.ok hP R rs e q⟩
  | _ => cases e
theorem cg_unl {k : Nat} {n : Nat} {g : TGs} {S : List Nat} {bs : List D → Env → Option Env} (hc : X.calm = true) (h : CGs X es g P S bs) (hn : (assignEach es X.env).length = n := by rfl) (hst : (assignEach es X.env).findIdx? (·.1) = none := by rfl) : CG X (.Tuple es k pos) (gUnl X.K n g) P S (unlG n bs) := by
  refine ⟨pg_unl hc h.pg hn hst, ?_⟩
  intro fx env env' ω σ H d v l Q hP R r e q
  cases d with
  | lst z ds =>
    simp only [unlG] at e
    split at e
    case isFalse => cases e
    case isTrue hl =>
    simp only [Rep] at r
    obtain ⟨a, vs, rfl, ht, rs⟩ := r
    exact ⟨a, vs, rfl, ht.sq, by rw [← rs.length]; exact hl, h.ok hP R rs e q⟩
  | _ => cases e
/-- a, b, .. = e -/
def unpS (bd : D → Env → Option Env) (fa : EF) : SF := fun env => (fa env).bind fun p => (bd p.1 p.2.2).map .nx
theorem cs_unp {tg : Expr} {g : TG} {S : List Nat} {bd : D → Env → Option Env} (he : CE X e Ma fa) (hg : CG X tg g P S bd) (hs : swapsWithSole [tg] e pos.line X.env = pure false := by rfl) (hw : swappedStores [tg] e X.env = pure none := by rfl) (h1 : List.map (fun x => x.snd) (assignEach [tg] X.env) = [assign tg X.env] := by rfl) : CS X (.Assign [tg] e pos) P Ma (unpS bd fa) :=
  fun n => ps_of (ps_asg (he n) hg.pg hs hw h1) fun Dn σ H h => by
    obtain ⟨fx, env, ω, r, hP, R, e, k⟩ := h
    unfold unpS at e
    obtain ⟨⟨d, s, env1⟩, e1, h⟩ := Option.bind_eq_some_iff.mp e
    obtain ⟨env2, e2, h⟩ := Option.map_eq_some_iff.mp h
    cases h
    exact ⟨fx, env, ω, d, s, env1, R, e1, fun v H1 ω1 R1 r1 p1 => hg.ok (by rw [hP]; exact fun _ h => h) R1 r1.1 e2 fun σ' R' _ => k σ' H1 ω1 R' p1⟩

/-! ### an expression alone; return -/
def exprS (fa : EF) : SF := fun env => (fa env).map fun p => .nx p.2.2
theorem cs_expr (he : CE X e Ma fa) (hs : swapsWith e none pos.line X.env = pure false := by rfl) : CS X (.Expr e pos) P Ma (exprS fa) := fun n => ps_of (ps_expr (he n) hs) fun Dn σ H h => by
  obtain ⟨fx, env, ω, r, hP, R, e, k⟩ := h
  unfold exprS at e
  obtain ⟨⟨d, s, env1⟩, e1, h⟩ := Option.map_eq_some_iff.mp e
  cases h
  exact ⟨fx, env, ω, d, s, env1, R, e1, fun v H1 ω1 R1 r1 p1 => k σ H1 ω1 R1 p1⟩
theorem cs_doc {x : Str} {j pos'} : CS X (.Expr (.Constant (.str x) j pos) pos') P [] skipS := fun n => ps_of ps_doc fun Dn σ H h => by
  obtain ⟨fx, env, ω, r, hP, R, e, k⟩ := h
  cases e
  exact k σ H ω R (Post.refl _ _ _ _)
def relabS (ω : Own) (i : Nat) (l2 : VC.Loc) : Own := fun a => match ω a with
  | some ⟨.slot j, s⟩ => if j = i then some ⟨l2.id, s ++ l2.path⟩ else some ⟨.slot j, s⟩
  | o => o
def retS (P : List Nat) (fa : EF) : SF := fun env => (fa env).bind fun p => match p.2.1 with
  | .tmp => some (.rt p.1 p.2.2)
  | .at i [] => if i ∈ P then some (.rt p.1.frz (p.2.2.cools [i])) else some (.rt p.1 p.2.2)
  | .at i _ => some (.rt p.1.frz (p.2.2.cools [i]))
theorem cs_ret (he : CE X e Ma fa) : CS X (.Return (some e) pos) P Ma (retS P fa) := fun n => ps_of (ps_ret (he n)) fun Dn σ H h => by
  obtain ⟨fx, env, ω, r, hP, R, e, k⟩ := h
  unfold retS at e
  obtain ⟨⟨d, s, env1⟩, e1, h⟩ := Option.bind_eq_some_iff.mp e
  refine ⟨fx, env, ω, d, s, env1, R, e1, fun v H1 ω1 R1 r1 p1 => ?_⟩
  have fin : ∀ {env2 : Env} {ω2 : Own} {d2 : D} {i : Nat}, r = .rt d2 env2 → Rel X.K fx env2 ω2 σ H1 → Rep X.K ω2 H1 d2 v ⟨.tmp 0, []⟩ → Post [i] 0 ω1 H1 ω2 H1 → Dn.rt v H1 := by
    intro env2 ω2 d2 i he R2 r2 p2
    subst he
    refine k v H1 ω2 r2 (fun q hq d hd => ?_) (p1.keep0.trans p2.keep0)
    obtain ⟨u, h1, h2⟩ := R2.rep q.1 d hd
    rw [R2.fix q hq] at h1
    cases h1
    exact h2
  cases s with
  | tmp =>
    cases h
    exact fin (i := 0) rfl (R1.relab (m := n) (l2 := ⟨.tmp 0, []⟩)) (Rep.relab r1.1) (relab_post (Nat.zero_le n))
  | «at» i p =>
    have cool : r = .rt d.frz (env1.cools [i]) → Dn.rt v H1 := fun he => fin (i := i) he (R1.cools [i]) (r1.1.cool drop_calm (drop_cools (by simp))) (drop_post (by simp))
    cases p with
    | cons k p => cases h; exact cool rfl
    | nil =>
      simp only at h
      split at h
      · cases h; exact cool rfl
      · rename_i hi
        cases h
        -- the slot's own list moves out
        have hne : ∀ {b : Addr} {l : VC.Loc}, ω1 b = some l → l.id ≠ .slot i → relabS ω1 i ⟨.tmp 0, []⟩ b = some l := by
          intro b l hb hl
          unfold relabS
          rw [hb]
          obtain ⟨id, q⟩ := l
          cases id with
          | tmp m => rfl
          | out => rfl
          | slot j =>
            have : j ≠ i := fun q => hl (by rw [q])
            simp [this]
        have calm : Calm ω1 H1 (relabS ω1 i ⟨.tmp 0, []⟩) H1 := ⟨fun _ _ h _ => h, fun b o e w => ⟨e, by unfold relabS; rw [w]⟩⟩
        refine k v H1 (relabS ω1 i ⟨.tmp 0, []⟩) (r1.1.tr calm fun b o s e w => ⟨e, ?_⟩) (fun q hq dq hd => ?_) (p1.keep0.trans ⟨fun _ _ h _ => h, fun b o e p => ⟨e, ?_⟩⟩)
        · unfold relabS; rw [w]; simp [Src.loc]
        · obtain ⟨u, h1, h2⟩ := R1.rep q.1 dq hd
          rw [R1.fix q hq] at h1
          cases h1
          refine h2.tr calm fun b o s e w => ⟨e, hne w ?_⟩
          simp
          intro hq'
          refine hi (hP ▸ ?_)
          rw [← hq']
          exact List.mem_map.mpr ⟨q, hq, rfl⟩
        · cases hw : ω1 b with
          | none => unfold relabS; rw [hw]
          | some l =>
            refine hne hw fun q => ?_
            rw [hw] at p
            obtain ⟨id, pp⟩ := l
            cases (show id = _ from q)
            cases p
theorem cs_retN : CS X (.Return none pos) P [] (fun env => some (.rt .non env)) := fun n => ps_of ps_retN fun Dn σ H h => by
  obtain ⟨fx, env, ω, r, hP, R, e, k⟩ := h
  cases e
  refine k .non H ω rfl (fun q hq d hd => ?_) (Post.refl [] 0 _ _).keep0
  obtain ⟨u, h1, h2⟩ := R.rep q.1 d hd
  rw [R.fix q hq] at h1
  cases h1
  exact h2
end
end VC

set_option Elab.async false
set_option linter.all false
set_option maxRecDepth 100000
/-! VC7: lists that are changed in place. -/
namespace VC
open PySem PySem.Spec PyProof.Rows L2

theorem Reps.each {K : PySem.W.Frag} {ω ω' : Own} {H H' : Hp} {l l2 : VC.Loc} : ∀ {xs : List D} {vs : List V} {k : Nat}, (∀ i d v, xs[i]? = some d → vs[i]? = some v → Rep K ω H d v (l.sub (k + i)) → Rep K ω' H' d v (l2.sub (k + i))) → Reps K ω H xs vs l k → Reps K ω' H' xs vs l2 k
  | [], _, _, _, h => h
  | y :: ys, ws, k, g, h => by
    simp only [Reps] at h ⊢
    obtain ⟨v, ws', rfl, r1, rs⟩ := h
    refine ⟨v, ws', rfl, g 0 y v rfl rfl r1, Reps.each (fun i d u h1 h2 h3 => ?_) rs⟩
    have := g (i + 1) d u (by simpa using h1) (by simpa using h2) (by rw [show k + (i + 1) = k + 1 + i by omega]; exact h3)
    rw [show k + 1 + i = k + (i + 1) by omega]; exact this
/-- the children of the node that is changed -/
theorem Reps.chg {K : PySem.W.Frag} {ω ω' : Own} {H H' : Hp} {n i : Nat} {p : List Nat} {a : Addr} {xs0 : List V} {xs : List D} {vs : List V} (c : Chg n a ω H ω' H') (hw : LstW ω H a xs0 ⟨.slot i, p⟩) (r : Reps K ω H xs vs ⟨.slot i, p⟩ 0) : Reps K ω' H' xs vs ⟨.slot i, p⟩ 0 :=
  Reps.each (fun j d v _ _ h => h.tr (c.calm hw) (c.goes hw (by simp [Loc.sub, Loc.ok]) fun s hs => by
    have := congrArg (fun x => x.path.length) hs
    simp [Loc.sub] at this
    omega)) r
def Env.putAt (env : Env) (i : Nat) (p : List Nat) (new : D) : Option Env := (env.get i).bind fun d => (D.put d p.reverse new).map fun d' => env.set i (some d')
theorem Rel.putAt {K : PySem.W.Frag} {fx : List (Nat × V)} {env env' : Env} {ω ω' : Own} {σ : L2.St} {H H' : Hp} {n i : Nat} {p : List Nat} {a : Addr} {xs0 : List V} {new : D} (R : Rel K fx env ω σ H) (hv : VP ω H σ i p (.ref a)) (hw : LstW ω H a xs0 ⟨.slot i, p⟩) (c : Chg n a ω H ω' H')
    (hnew : Rep K ω' H' new (.ref a) ⟨.slot i, p⟩) (h : env.putAt i p new = some env') : Rel K fx env' ω' σ H' := by
  unfold Env.putAt at h
  obtain ⟨d, e1, h⟩ := Option.bind_eq_some_iff.mp h
  obtain ⟨d', e2, h⟩ := Option.map_eq_some_iff.mp h
  subst h
  obtain ⟨v0, hs, dn⟩ := hv.down
  have hsub : (Loc.subs ⟨.slot i, []⟩ p.reverse) = ⟨.slot i, p⟩ := by
    have h1 := Loc.subs_id ⟨.slot i, []⟩ p.reverse
    have h2 := Loc.subs_path p.reverse ⟨.slot i, []⟩
    generalize Loc.subs ⟨.slot i, []⟩ p.reverse = l at *
    obtain ⟨id, pp⟩ := l
    simp at h1 h2
    rw [h1, h2]
  refine ⟨by simp [R.len], fun j dj e => ?_, R.fix⟩
  by_cases hj : i = j
  · subst hj
    have hlt : i < env.length := by
      have := Env.get_some e1
      exact (List.getElem?_eq_some_iff.mp this).1
    rw [List.getElem?_set_self hlt] at e
    cases e
    obtain ⟨v, e3, r⟩ := R.rep i d (Env.get_some e1)
    rw [hs] at e3
    cases e3
    exact ⟨v0, hs, put_rep c hw ⟨i, rfl⟩ hnew hsub dn r e2⟩
  · rw [List.getElem?_set_ne hj] at e
    obtain ⟨v, e3, r⟩ := R.rep j dj e
    exact ⟨v, e3, r.tr (c.calm hw) (c.goes hw (by simp [Loc.ok]) fun s hs => hj (by cases hs; rfl))⟩
theorem Chg.upd {n : Nat} {a : Addr} {ω : Own} {H : Hp} {u : HO} : Chg n a ω H ω (upd H a u) := ⟨fun b hb => upd_ne hb, fun _ _ => rfl⟩

section
variable {X : Cx} {a b c o e i : Expr} {es : List Expr} {P M Ma Mb Mc Mi Mo Mx : List Nat} {fa fb fo fv fi : EF} {fr : AF} {pos apos cpos : Pos}
/-- x.append(e): e moves in -/
def appE (Mi Mc Ma : List Nat) (fo : EF) (fr : AF) : EF := fun env => (fo env).bind fun p => match p with
  | (.lst .own xs, .at i q, env1) => (fr env1).bind fun r => match r with
    | ([(d, s)], env2) => if i ∈ Mi ∧ i ∉ Ma ∧ i ∉ Mc ∧ xs.length < sizeLine then
        (take1 Mc d s env2).bind fun t => (t.2.putAt i q (.lst .own (xs ++ [t.1]))).map fun env4 => (.non, .tmp, env4)
      else none
    | _ => none
  | _ => none
theorem ce_append {name : Str} (Mi Mc : List Nat) (hname : Slot "list" name "list.append" := by exact PySem.F.slot_list_append) (ho : CE X o Mb fo) (ha : CA X (a :: es) Ma fr)
    (hbase : attributeBase o name X.env (eval o X.env) = eval o X.env := by rfl)
    (hfew : ((backTo cpos (starEach (a :: es) X.env)).all (fun x => !x.1) && (backToKw cpos (keywordEach [] X.env)).all (fun x => x.1.isSome)
      && decide ((a :: es).length + ([] : List Keyword).length + (if ([] : List Keyword).isEmpty then 0 else 1) < 30)) = true := by rfl)
    (hline : (apos.endLine == cpos.line) = true := by rfl) (hs : starEach (a :: es) X.env = (false, eval a X.env) :: starEach es X.env := by rfl) (hplain : (backTo cpos (starEach es X.env)).any (·.1) = false := by rfl) :
    CE X (.Call (.Attribute o name apos) (a :: es) [] cpos) (Mb ++ (Ma ++ (Mc ++ Mi))) (appE Mi Mc Ma fo fr) := fun n => pe_of (pe_bm PySem.F.plainAttrs_list hname PySem.F.type_list_append mt_append (ho n) (ha (n + 1)) hbase hfew hline hs hplain) fun σ H Q h => by
  obtain ⟨fx, env, ω, d, s, env', R, e, k⟩ := h
  unfold appE at e
  obtain ⟨⟨d1, s1, env1⟩, e1, h⟩ := Option.bind_eq_some_iff.mp e
  split at h
  case h_2 => cases h
  case h_1 p xs i q env1' heq =>
  cases heq
  obtain ⟨⟨as, env2⟩, e2, h⟩ := Option.bind_eq_some_iff.mp h
  split at h
  case h_2 => cases h
  case h_1 r d2 s2 env2' heq =>
  cases heq
  split at h
  case isFalse => cases h
  case isTrue hc =>
  obtain ⟨hi, hia, hic, hz⟩ := hc
  obtain ⟨⟨d3, env3⟩, e3, h⟩ := Option.bind_eq_some_iff.mp h
  obtain ⟨env4, e4, h⟩ := Option.map_eq_some_iff.mp h
  simp only [Prod.mk.injEq] at h
  obtain ⟨rfl, rfl, rfl⟩ := h
  refine ⟨fx, env, ω, _, _, _, R, e1, fun v H1 ω1 R1 r1 p1 => ⟨tyV_of r1.1 rfl (by decide), fx, _, ω1, _, _, R1, e2, fun vs H2 ω2 R2 r2 p2 => ?_⟩⟩
  cases r2 with
  | cons r2 t =>
    rename_i w ws
    cases t
    have rl := r1.1.post p2 (show (Loc.mk (.slot i) q).ok Ma (n + 1) from hia)
    have vp : VP ω2 H2 σ i q v := VP.post p2 hia r1.2
    obtain ⟨ω3, R3, r3, p3⟩ := take1_rep (m := n + 1) ((Loc.mk (.slot i) q).sub xs.length) R2 r2.1 e3
    have rl3 := rl.post p3 (show (Loc.mk (.slot i) q).ok Mc (n + 1) from hic)
    have vp3 : VP ω3 H2 σ i q v := VP.post p3 hic vp
    simp only [Rep] at rl3
    obtain ⟨l, us, rfl, hl, rs⟩ := rl3
    have hl' : LstW ω3 H2 l us ⟨.slot i, q⟩ := hl
    have cg : Chg n l ω3 H2 ω3 (upd H2 l (.lst (us ++ [w]))) := Chg.upd
    refine ⟨l, us, w, rfl, rfl, hl'.1, by rw [← rs.length]; exact hz, k .non _ ω3 (R3.putAt vp3 hl' cg ?_ e4) ⟨rfl, trivial⟩ ?_⟩
    · simp only [Rep]
      refine ⟨l, us ++ [w], rfl, ⟨upd_same, hl'.2⟩, (Reps.chg cg hl' rs).append ?_⟩
      simp only [Reps]
      refine ⟨w, [], rfl, ?_, rfl⟩
      rw [Nat.zero_add]
      refine r3.tr (cg.calm hl') (cg.goes hl' (by simp [Loc.sub, Loc.ok]) fun s hs => ?_)
      have := congrArg (fun x => x.path.length) hs
      simp [Loc.sub] at this
      omega
    · exact ((p1.mono memL (Nat.le_refl _)).trans ((p2.mono (fun i hi => memR i (memL i hi)) (Nat.le_succ n)).trans ((p3.mono (fun i hi => memR i (memR i (memL i hi))) (Nat.le_succ n)).trans (cg.post hl' ⟨i, rfl, memR i (memR i (memR i hi))⟩))))

/-- changes of a list none of whose members owns anything -/
def MutC (K : PySem.W.Frag) (r : V → List V → Hp → VK → Prop) (g : List D → List D → Option (List D × D)) : Prop := ∀ {ω : Own} {H : Hp} {l : Addr} {vs : List V} {xs : List D} {ds : List D} {ws : List V} {xs' : List D} {d : D} {lc : VC.Loc} {Q : VK},
  H l = some (.lst vs) → Reps K ω H xs vs lc 0 → coldL xs = true → AnyR K ω H ds ws → coldL ds = true → g xs ds = some (xs', d) →
  (∀ v vs', Reps K ω H xs' vs' lc 0 → coldL xs' = true → Rep K ω H d v lc → d.cold = true → Q v (upd H l (.lst vs'))) → r (.ref l) ws H Q
def mutE (g : List D → List D → Option (List D × D)) (Mi Ma : List Nat) (fo : EF) (fr : AF) : EF := fun env => (fo env).bind fun p => match p with
  | (.lst .own xs, .at i q, env1) => (fr env1).bind fun r => if i ∈ Mi ∧ i ∉ Ma ∧ coldL xs = true ∧ coldL (r.1.map (·.1)) = true then
        (g xs (r.1.map (·.1))).bind fun t => (r.2.putAt i q (.lst .own t.1)).map fun env4 => (t.2, .tmp, env4)
      else none
  | _ => none
theorem mut_core {r : V → List V → Hp → VK → Prop} {g : List D → List D → Option (List D × D)} (hg : MutC X.K r g) {n : Nat} {σ : L2.St} {H : Hp} {Q : VK} (h : tE X.K (Mb ++ (Ma ++ Mi)) n (mutE g Mi Ma fo fr) σ H Q) : tBM X.K "list" r (tE X.K Mb n fo) (tA X.K Ma (n + 1) fr) σ H Q := by
  obtain ⟨fx, env, ω, d, s, env', R, e, k⟩ := h
  unfold mutE at e
  obtain ⟨⟨d1, s1, env1⟩, e1, h⟩ := Option.bind_eq_some_iff.mp e
  split at h
  case h_2 => cases h
  case h_1 p xs i q env1' heq =>
  cases heq
  obtain ⟨⟨as, env2⟩, e2, h⟩ := Option.bind_eq_some_iff.mp h
  split at h
  case isFalse => cases h
  case isTrue hc =>
  obtain ⟨hi, hia, hx, hcd⟩ := hc
  obtain ⟨⟨xs', d3⟩, e3, h⟩ := Option.bind_eq_some_iff.mp h
  obtain ⟨env4, e4, h⟩ := Option.map_eq_some_iff.mp h
  simp only [Prod.mk.injEq] at h
  obtain ⟨rfl, rfl, rfl⟩ := h
  refine ⟨fx, env, ω, _, _, _, R, e1, fun v H1 ω1 R1 r1 p1 => ⟨tyV_of r1.1 rfl (by decide), fx, _, ω1, _, _, R1, e2, fun vs H2 ω2 R2 r2 p2 => ?_⟩⟩
  have rl := r1.1.post p2 (show (Loc.mk (.slot i) q).ok Ma (n + 1) from hia)
  have vp : VP ω2 H2 σ i q v := VP.post p2 hia r1.2
  simp only [Rep] at rl
  obtain ⟨l, us, rfl, hl, rs⟩ := rl
  have hl' : LstW ω2 H2 l us ⟨.slot i, q⟩ := hl
  refine hg hl'.1 rs hx r2.any hcd e3 fun v' vs' rx hx' rd hd' => ?_
  have cg : Chg n l ω2 H2 ω2 (upd H2 l (.lst vs')) := Chg.upd
  refine k v' _ ω2 (R2.putAt vp hl' cg ?_ e4) ⟨rd.any (cg.calm hl') _ hd', trivial⟩ ?_
  · simp only [Rep]
    exact ⟨l, vs', rfl, ⟨upd_same, hl'.2⟩, Reps.any (cg.calm hl') _ _ hx' rx⟩
  · exact ((p1.mono memL (Nat.le_refl _)).trans ((p2.mono (fun i hi => memR i (memL i hi)) (Nat.le_succ n)).trans (cg.post hl' ⟨i, rfl, memR i (memR i hi)⟩)))
theorem ce_mut {id : String} {name : Str} {r : V → List V → Hp → VK → Prop} {g : List D → List D → Option (List D × D)} (Mi : List Nat) (slot : Slot "list" name id) (hty : typeOf (.builtin id) = pure (.type "method_descriptor")) (hm : MtR X id r) (hg : MutC X.K r g) (ho : CE X o Mb fo) (ha : CA X (a :: es) Ma fr)
    (hbase : attributeBase o name X.env (eval o X.env) = eval o X.env := by rfl)
    (hfew : ((backTo cpos (starEach (a :: es) X.env)).all (fun x => !x.1) && (backToKw cpos (keywordEach [] X.env)).all (fun x => x.1.isSome)
      && decide ((a :: es).length + ([] : List Keyword).length + (if ([] : List Keyword).isEmpty then 0 else 1) < 30)) = true := by rfl)
    (hline : (apos.endLine == cpos.line) = true := by rfl) (hs : starEach (a :: es) X.env = (false, eval a X.env) :: starEach es X.env := by rfl) (hplain : (backTo cpos (starEach es X.env)).any (·.1) = false := by rfl) :
    CE X (.Call (.Attribute o name apos) (a :: es) [] cpos) (Mb ++ (Ma ++ Mi)) (mutE g Mi Ma fo fr) := fun n => pe_of (pe_bm PySem.F.plainAttrs_list slot hty hm (ho n) (ha (n + 1)) hbase hfew hline hs hplain) fun σ H Q h => mut_core hg h
theorem ce_mut0 {id : String} {name : Str} {r : V → List V → Hp → VK → Prop} {g : List D → List D → Option (List D × D)} (Mi : List Nat) (slot : Slot "list" name id) (hty : typeOf (.builtin id) = pure (.type "method_descriptor")) (hm : MtR X id r) (hg : MutC X.K r g) (ho : CE X o Mb fo)
    (hbase : attributeBase o name X.env (eval o X.env) = eval o X.env := by rfl) (hline : (apos.endLine == cpos.line) = true := by rfl) :
    CE X (.Call (.Attribute o name apos) [] [] cpos) (Mb ++ ([] ++ Mi)) (mutE g Mi [] fo nilA) := fun n => pe_of (pe_bm0 PySem.F.plainAttrs_list slot hty hm (ho n) hbase hline) fun σ H Q h => by
  obtain ⟨fx, env, ω, d, s, env1, R, e, k⟩ := mut_core hg h
  refine ⟨fx, env, ω, d, s, env1, R, e, fun v H1 ω1 R1 r1 p1 => ?_⟩
  obtain ⟨t, fx2, env2, ω2, as, env3, R2, e2, k2⟩ := k v H1 ω1 R1 r1 p1
  cases e2
  exact ⟨t, k2 [] H1 ω2 R2 .nil (Post.refl _ _ _ _)⟩

/-- x[i] = e -/
def setS (Mi Mc Mo Mx : List Nat) (fv fo fi : EF) : SF := fun env => (fv env).bind fun p => (fo p.2.2).bind fun q => match q with
  | (.lst .own xs, .at i pt, env2) => (fi env2).bind fun r => match r with
    | (.int k, _, env3) => (ixN xs.length k).bind fun j => if p.2.1.fresh (Mo ++ Mx) = true ∧ i ∈ Mi ∧ i ∉ Mx ∧ i ∉ Mc then
        (take1 Mc p.1 p.2.1 env3).bind fun t => (t.2.putAt i pt (.lst .own (xs.set j t.1))).map .nx
      else none
    | _ => none
  | _ => none
theorem cs_setitem {spos : Pos} (Mi Mc : List Nat) (hv : CE X e Ma fv) (ho : CE X o Mo fo) (hi : CE X i Mx fi)
    (ha : ∀ v, assign (.Subscript o i spos) X.env v = (do
      let ov ← holding [v] (eval o X.env)
      let iv ← holding [v, ov] (eval i X.env)
      standAt spos
      holding [v, ov, iv] (setItem ov iv v)
      release [v, ov, iv] []) := by intro _; rfl)
    (hs : swapsWithSole [.Subscript o i spos] e pos.line X.env = pure false := by rfl) (hw : swappedStores [.Subscript o i spos] e X.env = pure none := by rfl)
    (h1 : List.map (fun x => x.snd) (assignEach [.Subscript o i spos] X.env) = [assign (.Subscript o i spos) X.env] := by rfl) :
    CS X (.Assign [.Subscript o i spos] e pos) P (Ma ++ (Mo ++ (Mx ++ (Mc ++ Mi)))) (setS Mi Mc Mo Mx fv fo fi) := fun n => ps_of (ps_asg (hv n) (pg_sub (ho (n + 1)) (hi (n + 2)) set_list ha) hs hw h1) fun Dn σ H h => by
  obtain ⟨fx, env, ω, r, hP, R, e, k⟩ := h
  unfold setS at e
  obtain ⟨⟨d1, s1, env1⟩, e1, h⟩ := Option.bind_eq_some_iff.mp e
  obtain ⟨⟨d2, s2, env2⟩, e2, h⟩ := Option.bind_eq_some_iff.mp h
  split at h
  case h_2 => cases h
  case h_1 q xs i pt env2' heq =>
  cases heq
  obtain ⟨⟨d3, s3, env3⟩, e3, h⟩ := Option.bind_eq_some_iff.mp h
  split at h
  case h_2 => cases h
  case h_1 q kk s3' env3' heq =>
  cases heq
  obtain ⟨j, e4, h⟩ := Option.bind_eq_some_iff.mp h
  split at h
  case isFalse => cases h
  case isTrue hc =>
  obtain ⟨hf, hi, hix, hic⟩ := hc
  obtain ⟨⟨d5, env5⟩, e5, h⟩ := Option.bind_eq_some_iff.mp h
  obtain ⟨env6, e6, h⟩ := Option.map_eq_some_iff.mp h
  subst h
  refine ⟨fx, env, ω, _, _, _, R, e1, fun v H1 ω1 R1 r1 p1 => ⟨fx, _, ω1, _, _, _, R1, e2, fun u H2 ω2 R2 r2 p2 => ⟨fx, _, ω2, _, _, _, R2, e3, fun w H3 ω3 R3 r3 p3 => ?_⟩⟩⟩
  have p23 : Post (Mo ++ Mx) (n + 1) ω1 H1 ω3 H3 := (p2.mono memL (Nat.le_refl _)).trans (p3.mono memR (Nat.le_succ _))
  have rv := r1.1.post p23 (Src.fresh_ok hf (Nat.lt_succ_self n))
  have rl := r2.1.post p3 (show (Loc.mk (.slot i) pt).ok Mx (n + 2) from hix)
  have vp : VP ω3 H3 σ i pt u := VP.post p3 hix r2.2
  obtain ⟨ω5, R5, r5, p5⟩ := take1_rep (m := n) ((Loc.mk (.slot i) pt).sub j) R3 rv e5
  have rl5 := rl.post p5 (show (Loc.mk (.slot i) pt).ok Mc n from hic)
  have vp5 : VP ω5 H3 σ i pt u := VP.post p5 hic vp
  simp only [Rep] at rl5
  obtain ⟨l, us, rfl, hl, rs⟩ := rl5
  have hl' : LstW ω5 H3 l us ⟨.slot i, pt⟩ := hl
  have cg : Chg n l ω5 H3 ω5 (upd H3 l (.lst (us.set j v))) := Chg.upd
  refine ⟨l, us, kk, j, rfl, r3.1, hl'.1, by rw [← rs.length]; exact e4, k σ _ ω5 (R5.putAt vp5 hl' cg ?_ e6) ?_⟩
  · simp only [Rep]
    refine ⟨l, us.set j v, rfl, ⟨upd_same, hl'.2⟩, ?_⟩
    have hj : j < us.length := by
      have := (ixN_seq e4).2.1
      rw [← rs.length]; exact this
    have hset : ∀ {xs : List D} {us : List V} {kk j : Nat}, j < us.length → Reps X.K ω5 (upd H3 l (.lst (us.set j v))) xs us ⟨.slot i, pt⟩ kk → True := fun _ _ => trivial
    have rs' := Reps.chg cg hl' rs
    have rv' : Rep X.K ω5 (upd H3 l (.lst (us.set j v))) d5 v ((Loc.mk (.slot i) pt).sub j) := by
      refine r5.tr (cg.calm hl') (cg.goes hl' (by simp [Loc.sub, Loc.ok]) fun s hs => ?_)
      have := congrArg (fun x => x.path.length) hs
      simp [Loc.sub] at this
      omega
    clear rs rl hset e4
    generalize upd H3 l (.lst (us.set j v)) = HH at *
    have gen : ∀ {xs : List D} {us : List V} {kk j : Nat}, Reps X.K ω5 HH xs us ⟨.slot i, pt⟩ kk → Rep X.K ω5 HH d5 v ((Loc.mk (.slot i) pt).sub (kk + j)) → Reps X.K ω5 HH (xs.set j d5) (us.set j v) ⟨.slot i, pt⟩ kk := by
      intro xs
      induction xs with
      | nil => intro us kk j h _; cases (show us = [] from h); simpa using (show Reps X.K ω5 HH [] [] ⟨.slot i, pt⟩ kk from rfl)
      | cons x xs ih =>
        intro us kk j h hr
        simp only [Reps] at h
        obtain ⟨y, ys, rfl, h1, h2⟩ := h
        cases j with
        | zero => simp only [List.set_cons_zero, Reps]; exact ⟨v, ys, rfl, hr, h2⟩
        | succ j => simp only [List.set_cons_succ, Reps]; exact ⟨y, _, rfl, h1, ih h2 (by rw [show kk + 1 + j = kk + (j + 1) by omega]; exact hr)⟩
    exact gen rs' (by rw [Nat.zero_add]; exact rv')
  · exact ((p1.mono memL (Nat.le_refl _)).trans ((p23.mono (fun i hi => (List.mem_append.mp hi).elim (fun h => memR i (memL i h)) fun h => memR i (memR i (memL i h))) (Nat.le_succ n)).trans ((p5.mono (fun i hi => memR i (memR i (memR i (memL i hi)))) (Nat.le_refl _)).trans (cg.post hl' ⟨i, rfl, memR i (memR i (memR i (memR i hi)))⟩))))
end
end VC

set_option Elab.async false
set_option linter.all false
set_option maxRecDepth 100000
/-! VC8: what is walked; for. -/
namespace VC
open PySem PySem.Spec PyProof.Rows L2

abbrev IF := Env → Option (List D × Src × Env)
def Walks (K : PySem.W.Frag) (J : It) (its : List D) (s : Src) (n : Nat) (ω : Own) (H : Hp) : Prop := ∀ M1 ω1 H1, s.fresh M1 = true → Post M1 (n + 1) ω H ω1 H1 →
  (∀ i, i < its.length → J.go i H1) ∧ (∀ i, its.length ≤ i → J.stop i H1) ∧ ∀ i d x H2, its[i]? = some d → J.yld i H1 x H2 → ∃ ω2, (∀ m, Post [] m ω1 H1 ω2 H2) ∧ Rep K ω2 H2 d x ⟨.out, []⟩
def tI (K : PySem.W.Frag) (M : List Nat) (n : Nat) (f : IF) : TI := fun σ H R => ∃ fx env ω its s env', Rel K fx env ω σ H ∧ f env = some (its, s, env') ∧
  ∀ J H' ω', Rel K fx env' ω' σ H' → Post M n ω H ω' H' → Walks K J its s n ω' H' → R J H'
def CI (X : Cx) (tg e : Expr) (M : List Nat) (f : IF) : Prop := ∀ n, PI X tg e (tI X.K M n f)
theorem pi_of {X : Cx} {tg e : Expr} {t t' : TI} (h : PI X tg e t) (i : ∀ σ H Q, t' σ H Q → t σ H Q) : PI X tg e t' := ⟨fun pins s σ H Q I hw => h.run pins s σ H Q I (i σ H Q hw)⟩

section
variable {X : Cx} {a b c tg e : Expr} {es : List Expr} {P M Ma Mb Mc : List Nat} {fa fb : EF} {fr : AF} {pos : Pos}
def seqI (fa : EF) : IF := fun env => (fa env).bind fun p => match p.1 with
  | .lst _ xs => if coldL xs = true then some (xs, p.2) else none
  | .tup xs => if coldL xs = true then some (xs, p.2) else none
  | .str s => some (s.cps.toList.map fun c => .str ⟨#[c]⟩, .tmp, p.2.2)
  | _ => none
theorem ci_seq (ha : CE X a Ma fa) : CI X tg a Ma (seqI fa) := fun n => ⟨fun pins s σ H Q I h => by
  obtain ⟨fx, env, ω, its, s1, env', R, e, k⟩ := h
  unfold seqI at e
  obtain ⟨⟨d, s2, env1⟩, e1, h⟩ := Option.bind_eq_some_iff.mp e
  cases d with
  | lst z xs =>
    simp only at h
    split at h
    case isFalse => cases h
    case isTrue hc =>
    cases h
    refine (pi_list (ha n)).run pins s σ H Q I ⟨fx, env, ω, _, s1, env', R, e1, fun v H1 ω1 R1 r1 p1 => ?_⟩
    have r := r1.1
    simp only [Rep] at r
    obtain ⟨l, vs, rfl, hl, rs⟩ := r
    refine ⟨l, rfl, ⟨vs, hl.sq⟩, k _ H1 ω1 R1 p1 fun M1 ω2 H2 hf p2 => ?_⟩
    have r2 := r1.1.post p2 (Src.fresh_ok hf (Nat.lt_succ_self n))
    simp only [Rep] at r2
    obtain ⟨l', vs', e', hl', rs'⟩ := r2
    cases e'
    refine ⟨fun i hi => ?_, fun i hi => ?_, fun i d x H3 hd hy => ?_⟩
    · rw [rs'.length] at hi
      exact ⟨vs', vs'[i], hl'.sq, List.getElem?_eq_getElem hi⟩
    · rw [rs'.length] at hi
      exact ⟨vs', hl'.sq, hi⟩
    · obtain ⟨rfl, hx⟩ := hy
      obtain ⟨w, hw, rw'⟩ := rs'.get hd
      have := hx vs' hl'.sq
      rw [hw] at this
      cases this
      exact ⟨ω2, fun _ => Post.refl _ _ _ _, rw'.any (Calm.refl _ _) _ (coldL_mem hc d (List.mem_of_getElem? hd))⟩
  | tup xs =>
    simp only at h
    split at h
    case isFalse => cases h
    case isTrue hc =>
    cases h
    refine (pi_tup (ha n)).run pins s σ H Q I ⟨fx, env, ω, _, s1, env', R, e1, fun v H1 ω1 R1 r1 p1 => ?_⟩
    have r := r1.1
    simp only [Rep] at r
    obtain ⟨l, vs, rfl, hl, rs⟩ := r
    refine ⟨l, rfl, ⟨vs, hl.sq⟩, k _ H1 ω1 R1 p1 fun M1 ω2 H2 hf p2 => ?_⟩
    have r2 := r1.1.post p2 (Src.fresh_ok hf (Nat.lt_succ_self n))
    simp only [Rep] at r2
    obtain ⟨l', vs', e', hl', rs'⟩ := r2
    cases e'
    refine ⟨fun i hi => ?_, fun i hi => ?_, fun i d x H3 hd hy => ?_⟩
    · rw [rs'.length] at hi
      exact ⟨vs', vs'[i], hl'.sq, List.getElem?_eq_getElem hi⟩
    · rw [rs'.length] at hi
      exact ⟨vs', hl'.sq, hi⟩
    · obtain ⟨rfl, hx⟩ := hy
      obtain ⟨w, hw, rw'⟩ := rs'.get hd
      have := hx vs' hl'.sq
      rw [hw] at this
      cases this
      exact ⟨ω2, fun _ => Post.refl _ _ _ _, rw'.any (Calm.refl _ _) _ (coldL_mem hc d (List.mem_of_getElem? hd))⟩
  | str z =>
    cases h
    refine (pi_str (ha n)).run pins s σ H Q I ⟨fx, env, ω, _, s2, _, R, e1, fun v H1 ω1 R1 r1 p1 => ?_⟩
    refine ⟨z, r1.1, k _ H1 ω1 R1 p1 fun M1 ω2 H2 hf p2 => ⟨fun i hi => by simpa [Its] using hi, fun i hi => by simpa [Its] using hi, fun i d x H3 hd hy => ?_⟩⟩
    obtain ⟨rfl, c, hc, rfl⟩ := hy
    refine ⟨ω2, fun _ => Post.refl _ _ _ _, ?_⟩
    rw [List.getElem?_map] at hd
    have : z.cps.toList[i]? = some c := by simpa using hc
    rw [this] at hd
    cases hd
    rfl
  | _ => cases h⟩
def rangeL (lo : Int) (c : Int) (n : Nat) : List D := (List.range n).map fun i => .int (lo + (i : Nat) * c)
theorem rangeL_length (lo c : Int) (n : Nat) : (rangeL lo c n).length = n := by simp [rangeL]
theorem rangeL_get {lo c : Int} {n i : Nat} {d : D} (h : (rangeL lo c n)[i]? = some d) : d = .int (lo + (i : Nat) * c) := by
  simp only [rangeL, List.getElem?_map, Option.map_eq_some_iff] at h
  obtain ⟨j, hj, rfl⟩ := h
  obtain ⟨h1, h2⟩ := List.getElem?_eq_some_iff.mp hj
  simp at h2
  rw [h2]
noncomputable def small62 (i : Int) : Bool := grd (-(2 ^ 62) ≤ i ∧ i < 2 ^ 62)
noncomputable def range1I (fr : AF) : IF := fun env => (fr env).bind fun p => match p.1 with
  | [(.int j, _)] => if small62 j = true then some (rangeL 0 1 j.toNat, .tmp, p.2) else none
  | _ => none
noncomputable def range2I (fr : AF) : IF := fun env => (fr env).bind fun p => match p.1 with
  | [(.int i, _), (.int j, _)] => if small62 i = true ∧ small62 j = true then some (rangeL i 1 (j - i).toNat, .tmp, p.2) else none
  | _ => none
noncomputable def range3I (fr : AF) : IF := fun env => (fr env).bind fun p => match p.1 with
  | [(.int i, _), (.int j, _), (.int c, _)] => if grd (c ≠ 0 ∧ c.natAbs < 1073741824 ∧ Builtin.Range.small i j c = true ∧ 0 ≤ Builtin.Range.rangeSize i j c) = true then some (rangeL i c (Builtin.Range.rangeSize i j c).toNat, .tmp, p.2) else none
  | _ => none
theorem ci_range1 {p : Pos} (hg : Gl X "range") (hm : X.mg "range" = none) (ha : CA X [a] Ma fr) (hs : starEach [a] X.env = [(false, eval a X.env)] := by rfl) : CI X tg (.Call (.Name "range" p) [a] [] pos) Ma (range1I fr) := fun n => pi_of (pi_range1 hg hm (ha n) hs) fun σ H Q h => by
  obtain ⟨fx, env, ω, its, s1, env', R, e, k⟩ := h
  unfold range1I at e
  obtain ⟨⟨as, env1⟩, e1, h⟩ := Option.bind_eq_some_iff.mp e
  split at h
  case h_2 => cases h
  case h_1 j sj heq =>
  split at h
  case isFalse => cases h
  case isTrue hc =>
  cases h
  simp only at heq
  subst heq
  replace hc := grd_iff.mp hc
  refine ⟨fx, env, ω, _, _, R, e1, fun vs H1 ω1 R1 r1 p1 => ?_⟩
  cases r1 with
  | cons r t =>
    cases t
    refine ⟨j, by rw [show _ = V.int j from r.1], hc.1, hc.2, k _ H1 ω1 R1 p1 fun M1 ω2 H2 hf p2 => ⟨fun i hi => by simpa [Itr, rangeL_length] using hi, fun i hi => by simpa [Itr, rangeL_length] using hi, fun i d x H3 hd hy => ?_⟩⟩
    obtain ⟨rfl, rfl⟩ := hy
    refine ⟨ω2, fun _ => Post.refl _ _ _ _, ?_⟩
    rw [rangeL_get hd]
    show _ = _
    rw [Int.mul_one]
theorem ci_range2 {p : Pos} (hg : Gl X "range") (hm : X.mg "range" = none) (ha : CA X [a, b] Ma fr) (hs : starEach [a, b] X.env = [(false, eval a X.env), (false, eval b X.env)] := by rfl) (hs2 : starEach [b] X.env = [(false, eval b X.env)] := by rfl) : CI X tg (.Call (.Name "range" p) [a, b] [] pos) Ma (range2I fr) := fun n => pi_of (pi_range2 hg hm (ha n) hs hs2) fun σ H Q h => by
  obtain ⟨fx, env, ω, its, s1, env', R, e, k⟩ := h
  unfold range2I at e
  obtain ⟨⟨as, env1⟩, e1, h⟩ := Option.bind_eq_some_iff.mp e
  split at h
  case h_2 => cases h
  case h_1 i si j sj heq =>
  split at h
  case isFalse => cases h
  case isTrue hc =>
  cases h
  simp only at heq
  subst heq
  replace hc := And.intro (grd_iff.mp hc.1) (grd_iff.mp hc.2)
  refine ⟨fx, env, ω, _, _, R, e1, fun vs H1 ω1 R1 r1 p1 => ?_⟩
  cases r1 with
  | cons r t =>
    cases t with
    | cons r' t =>
      cases t
      refine ⟨i, j, by rw [show _ = V.int i from r.1, show _ = V.int j from r'.1], ⟨hc.1.1, hc.1.2, hc.2.1, hc.2.2⟩, k _ H1 ω1 R1 p1 fun M1 ω2 H2 hf p2 => ⟨fun i hi => by simpa [Itr, rangeL_length] using hi, fun i hi => by simpa [Itr, rangeL_length] using hi, fun i d x H3 hd hy => ?_⟩⟩
      obtain ⟨rfl, rfl⟩ := hy
      refine ⟨ω2, fun _ => Post.refl _ _ _ _, ?_⟩
      rw [rangeL_get hd]
      show _ = _
      rw [Int.mul_one]
theorem ci_range3 {p : Pos} (hg : Gl X "range") (hm : X.mg "range" = none) (ha : CA X [a, b, c] Ma fr) (hs : starEach [a, b, c] X.env = (false, eval a X.env) :: starEach [b, c] X.env := by rfl) (hs2 : (backTo pos (starEach [b, c] X.env)).any (·.1) = false := by rfl) : CI X tg (.Call (.Name "range" p) [a, b, c] [] pos) Ma (range3I fr) := fun n => pi_of (pi_range3 hg hm (ha n) hs hs2) fun σ H Q h => by
  obtain ⟨fx, env, ω, its, s1, env', R, e, k⟩ := h
  unfold range3I at e
  obtain ⟨⟨as, env1⟩, e1, h⟩ := Option.bind_eq_some_iff.mp e
  split at h
  case h_2 => cases h
  case h_1 i si j sj c sc heq =>
  split at h
  case isFalse => cases h
  case isTrue hc =>
  cases h
  replace hc := grd_iff.mp hc
  simp only at heq
  subst heq
  refine ⟨fx, env, ω, _, _, R, e1, fun vs H1 ω1 R1 r1 p1 => ?_⟩
  cases r1 with
  | cons r t =>
    cases t with
    | cons r' t =>
      cases t with
      | cons r'' t =>
        cases t
        refine ⟨i, j, c, (Builtin.Range.rangeSize i j c).toNat, by rw [show _ = V.int i from r.1, show _ = V.int j from r'.1, show _ = V.int c from r''.1], ⟨hc.1, hc.2.1, hc.2.2.1, ?_⟩, k _ H1 ω1 R1 p1 fun M1 ω2 H2 hf p2 => ⟨fun i hi => by simpa [Itc, rangeL_length] using hi, fun i hi => by simpa [Itc, rangeL_length] using hi, fun i d x H3 hd hy => ?_⟩⟩
        · exact (Int.toNat_of_nonneg hc.2.2.2).symm
        · obtain ⟨rfl, rfl⟩ := hy
          refine ⟨ω2, fun _ => Post.refl _ _ _ _, ?_⟩
          rw [rangeL_get hd]
          rfl
/-- enumerate(list) -/
def enumL : Nat → List D → List D
  | _, [] => []
  | k, d :: ds => .tup [.int (k : Nat), d] :: enumL (k + 1) ds
theorem enumL_length : ∀ (k : Nat) (ds : List D), (enumL k ds).length = ds.length
  | _, [] => rfl
  | k, d :: ds => by simp [enumL, enumL_length (k + 1) ds]
theorem enumL_get : ∀ {k i : Nat} {ds : List D} {d : D}, (enumL k ds)[i]? = some d → ∃ x, ds[i]? = some x ∧ d = .tup [.int ((k + i : Nat) : Int), x]
  | _, _, [], _, h => by simp [enumL] at h
  | k, 0, d0 :: ds, d, h => by
    simp [enumL] at h
    exact ⟨d0, rfl, h.symm⟩
  | k, i + 1, d0 :: ds, d, h => by
    obtain ⟨x, h1, h2⟩ := enumL_get (k := k + 1) (i := i) (by simpa [enumL] using h)
    exact ⟨x, by simpa using h1, by rw [h2, show k + 1 + i = k + (i + 1) by omega]⟩
def enumI (fr : AF) : IF := fun env => (fr env).bind fun p => match p.1 with
  | [(.lst _ xs, s)] => if coldL xs = true then some (enumL 0 xs, s, p.2) else none
  | _ => none
theorem ci_enum {p tpos : Pos} {elts : List Expr} {kk : Nat} (hg : Gl X "enumerate") (hm : X.mg "enumerate" = none) (ha : CA X [a] Ma fr) (hs : starEach [a] X.env = [(false, eval a X.env)] := by rfl) : CI X (.Tuple elts kk tpos) (.Call (.Name "enumerate" p) [a] [] pos) Ma (enumI fr) := fun n => pi_of (pi_enum hg hm (ha n) hs) fun σ H Q h => by
  obtain ⟨fx, env, ω, its, s1, env', R, e, k⟩ := h
  unfold enumI at e
  obtain ⟨⟨as, env1⟩, e1, h⟩ := Option.bind_eq_some_iff.mp e
  split at h
  case h_2 => cases h
  case h_1 z xs s heq =>
  split at h
  case isFalse => cases h
  case isTrue hc =>
  cases h
  simp only at heq
  subst heq
  refine ⟨fx, env, ω, _, _, R, e1, fun vs H1 ω1 R1 r1 p1 => ?_⟩
  cases r1 with
  | cons r t =>
    cases t
    have r' := r.1
    simp only [Rep] at r'
    obtain ⟨l, vs, rfl, hl, rs⟩ := r'
    refine ⟨l, vs, rfl, hl.sq, k _ H1 ω1 R1 p1 fun M1 ω2 H2 hf p2 => ?_⟩
    have r2 := r.1.post p2 (Src.fresh_ok hf (Nat.lt_succ_self n))
    simp only [Rep] at r2
    obtain ⟨l', vs', e', hl', rs'⟩ := r2
    cases e'
    refine ⟨fun i hi => ?_, fun i hi => ?_, fun i d x H3 hd hy => ?_⟩
    · rw [enumL_length, rs'.length] at hi
      exact ⟨vs', vs'[i], hl'.sq, List.getElem?_eq_getElem hi⟩
    · rw [enumL_length, rs'.length] at hi
      exact ⟨vs', hl'.sq, hi⟩
    · obtain ⟨T, y, rfl, hT, rfl, hx⟩ := hy
      obtain ⟨x0, hx0, rfl⟩ := enumL_get hd
      obtain ⟨w, hw, rw'⟩ := rs'.get hx0
      have hwy : w = y := Option.some.inj (hw.symm.trans (hx vs' hl'.sq))
      subst hwy
      refine ⟨own1 ω2 T none, fun _ => new_post hT, ?_⟩
      have ry := rw'.any (ω' := own1 ω2 T none) (H' := upd H2 T (.tup [.int (i : Nat), w])) (new_post (M := []) (n := 0) hT).calm ((Loc.mk .out []).sub 1) (coldL_mem hc x0 (List.mem_of_getElem? hx0))
      simp only [Rep, Reps]
      exact ⟨T, [.int (i : Nat), w], rfl, .inl (.inl upd_same), .int (i : Nat), [w], rfl, by rw [Nat.zero_add], w, [], rfl, ry, rfl⟩

/-! ### for -/
def forL (bd : D → Env → Option Env) (body : SF) : List D → Env → Option Res
  | [], env => some (.nx env)
  | d :: ds, env => (bd d env).bind fun env1 => match body env1 with
    | some (.nx e) => forL bd body ds e
    | some (.ct e) => forL bd body ds e
    | some (.bk e) => some (.nx e)
    | r => r
def forS (Mb : List Nat) (bd : D → Env → Option Env) (fi : IF) (body : SF) : SF := fun env => (fi env).bind fun p => if p.2.1.fresh Mb = true then forL bd body p.1 p.2.2 else none
theorem cs_for {body : List Stmt} {iter : Expr} {g : TG} {S : List Nat} {bd : D → Env → Option Env} {fi : IF} {f : SF} (hp : PassesOwn (model X.prog X.w) X.A X.env X.xe) (hc : X.calm = true) (hi : CI X tg iter Ma fi) (hg : CG X tg g P S bd) (hb : CB X body P Mb f)
    (hs : ∀ x, foldedSetIterable iter X.env x = pure x := by intro _; rfl) : CS X (.For tg iter body [] pos) P (Ma ++ Mb) (forS Mb bd fi f) := fun n => ps_of (ps_for hp hc (hi n) hg.pg (hb (n + 1)) hs) fun Dn σ H h => by
  obtain ⟨fx, env, ω, r, hP, R, e, k⟩ := h
  unfold forS at e
  obtain ⟨⟨its, s, env1⟩, e1, h⟩ := Option.bind_eq_some_iff.mp e
  split at h
  case isFalse => cases h
  case isTrue hf =>
  refine ⟨fx, env, ω, its, s, env1, R, e1, fun J H1 ω1 R1 p1 wk => ?_⟩
  let T : Nat → L2.St → Hp → Prop := fun i σ' H' => ∃ envi ωi r', Rel X.K fx envi ωi σ' H' ∧ Post Mb (n + 1) ω1 H1 ωi H' ∧ i ≤ its.length ∧ forL bd f (its.drop i) envi = some r' ∧ REnd X.K fx Mb n ωi H' Dn r'
  refine ⟨fun i m σ' H' => m = its.length - i ∧ T i σ' H', ⟨its.length, by simp, env1, ω1, r, R1, Post.refl _ _ _ _, Nat.zero_le _, by simpa using h, k.mono (p1.mono memL (Nat.le_refl _)) memR (Nat.le_refl _)⟩, fun i m σ' H' hW => ?_⟩
  obtain ⟨rfl, envi, ωi, r', Ri, pi, hil, hL, hE⟩ := hW
  obtain ⟨wgo, wstop, wyld⟩ := wk Mb ωi H' hf pi
  by_cases hlt : i < its.length
  · refine .inr ⟨wgo i hlt, T (i + 1), fun σ2 H2 hT => ⟨its.length - (i + 1), by omega, rfl, hT⟩, fun x H2 hy => ?_⟩
    have hd : its[i]? = some its[i] := List.getElem?_eq_getElem hlt
    obtain ⟨ω2, q2, rx⟩ := wyld i its[i] x H2 hd hy
    rw [List.drop_eq_getElem_cons hlt] at hL
    unfold forL at hL
    obtain ⟨env2, e2, hL⟩ := Option.bind_eq_some_iff.mp hL
    replace q2 := q2 (n + 1)
    refine hg.ok (by rw [hP]; exact fun _ h => h) (Ri.post (q2.mono mem0 (Nat.le_refl _))) rx e2 fun σ3 R3 _ => ?_
    have pp : Post Mb (n + 1) ω1 H1 ω2 H2 := pi.trans (q2.mono mem0 (Nat.le_refl _))
    have hE2 : REnd X.K fx Mb n ω2 H2 Dn r' := hE.mono (q2.mono mem0 (Nat.le_succ n)) (fun _ h => h) (Nat.le_refl _)
    cases hb1 : f env2 with
    | none => rw [hb1] at hL; cases hL
    | some rb =>
      rw [hb1] at hL
      refine ⟨fx, env2, ω2, rb, hP, R3, hb1, ?_⟩
      cases rb with
      | nx e => exact fun σ4 H4 ω4 R4 p4 => ⟨e, ω4, r', R4, pp.trans p4, hlt, hL, hE2.mono (p4.mono (fun _ h => h) (Nat.le_succ n)) (fun _ h => h) (Nat.le_refl _)⟩
      | ct e => exact fun σ4 H4 ω4 R4 p4 => ⟨e, ω4, r', R4, pp.trans p4, hlt, hL, hE2.mono (p4.mono (fun _ h => h) (Nat.le_succ n)) (fun _ h => h) (Nat.le_refl _)⟩
      | bk e =>
        cases hL
        exact fun σ4 H4 ω4 R4 p4 => hE2 σ4 H4 ω4 R4 (p4.mono (fun _ h => h) (Nat.le_succ n))
      | rt d e =>
        cases hL
        exact hE2
  · have : i = its.length := by omega
    subst this
    rw [List.drop_length] at hL
    cases hL
    exact .inl ⟨wstop _ (Nat.le_refl _), hE σ' H' ωi Ri (Post.refl _ _ _ _)⟩
end
end VC

set_option Elab.async false
set_option linter.all false
set_option maxRecDepth 100000
/-! VC9: list comprehensions; a def by its body. -/
namespace VC
open PySem PySem.Spec PyProof.Rows L2

def Env.wipe (env : Env) : List Nat → Env
  | [] => env
  | v :: vs => (Env.wipe env vs).set v none
def Env.back (env' env : Env) : List Nat → Env
  | [] => env'
  | v :: vs => (Env.back env' env vs).set v (env.get v)
theorem wipe_in {σ : L2.St} {i : Nat} : ∀ {vs : List Nat}, i ∈ vs → (wipe σ vs)[i]? = (σ[i]?).map fun _ => none
  | v :: vs, h => by
    unfold L2.wipe
    by_cases e : v = i
    · subst e
      rw [List.getElem?_set]
      simp only [if_true]
      split
      · rename_i hl
        rw [wipe_length] at hl
        rw [List.getElem?_eq_getElem hl]; rfl
      · rename_i hl
        rw [wipe_length] at hl
        rw [List.getElem?_eq_none (by omega)]; rfl
    · rw [List.getElem?_set_ne e]
      rcases List.mem_cons.mp h with h | h
      · exact absurd h.symm e
      · exact wipe_in h
theorem wipe_only {σ σ2 : L2.St} {S vs : List Nat} (o : Only S (wipe σ vs) σ2) (hS : ∀ i ∈ S, i ∈ vs) : wipe σ2 vs = wipe σ vs := by
  apply List.ext_getElem?
  intro i
  by_cases hi : i ∈ vs
  · rw [wipe_in hi, wipe_in hi]
    have hl := o.1
    rw [wipe_length] at hl
    by_cases h : i < σ.length
    · rw [List.getElem?_eq_getElem h, List.getElem?_eq_getElem (by omega)]; rfl
    · rw [List.getElem?_eq_none (by omega), List.getElem?_eq_none (by omega)]
  · rw [wipe_out hi, o.2 i (fun h => hi (hS i h))]
theorem Env.wipe_length (env : Env) : ∀ vs : List Nat, (env.wipe vs).length = env.length
  | [] => rfl
  | v :: vs => by unfold Env.wipe; rw [List.length_set, Env.wipe_length env vs]
theorem Env.back_length (env' env : Env) : ∀ vs : List Nat, (env'.back env vs).length = env'.length
  | [] => rfl
  | v :: vs => by unfold Env.back; rw [List.length_set, Env.back_length env' env vs]
theorem Env.wipe_get {env : Env} {i : Nat} {d : D} : ∀ {vs : List Nat}, (env.wipe vs)[i]? = some (some d) → i ∉ vs ∧ env[i]? = some (some d)
  | [], h => ⟨by simp, h⟩
  | v :: vs, h => by
    unfold Env.wipe at h
    by_cases e : v = i
    · subst e
      rw [List.getElem?_set] at h
      simp only [if_true] at h
      split at h <;> cases h
    · rw [List.getElem?_set_ne e] at h
      obtain ⟨h1, h2⟩ := Env.wipe_get h
      exact ⟨by simp only [List.mem_cons, not_or]; exact ⟨fun q => e q.symm, h1⟩, h2⟩
theorem Env.back_get {env' env : Env} {i : Nat} {d : D} : ∀ {vs : List Nat}, (env'.back env vs)[i]? = some (some d) → (i ∈ vs ∧ env[i]? = some (some d)) ∨ (i ∉ vs ∧ env'[i]? = some (some d))
  | [], h => .inr ⟨by simp, h⟩
  | v :: vs, h => by
    unfold Env.back at h
    by_cases e : v = i
    · subst e
      rw [List.getElem?_set] at h
      simp only [if_true] at h
      split at h
      · exact .inl ⟨by simp, Env.get_some (Option.some.inj h)⟩
      · cases h
    · rw [List.getElem?_set_ne e] at h
      rcases Env.back_get h with ⟨h1, h2⟩ | ⟨h1, h2⟩
      · exact .inl ⟨List.mem_cons_of_mem _ h1, h2⟩
      · exact .inr ⟨by simp only [List.mem_cons, not_or]; exact ⟨fun q => e q.symm, h1⟩, h2⟩
theorem Rel.wipe {K : PySem.W.Frag} {fx : List (Nat × V)} {env : Env} {ω : Own} {σ : L2.St} {H : Hp} (R : Rel K fx env ω σ H) (vs : List Nat) : Rel K [] (env.wipe vs) ω (wipe σ vs) H :=
  ⟨by rw [Env.wipe_length, wipe_length]; exact R.len, fun i d e => by
    obtain ⟨hi, e1⟩ := Env.wipe_get e
    obtain ⟨v, e2, r⟩ := R.rep i d e1
    exact ⟨v, by rw [wipe_out hi]; exact e2, r⟩, fun _ h => nomatch h⟩

section
variable {X : Cx} {a b c tg elt iter : Expr} {es ifs : List Expr} {P M Ma Mb Mc Mt Me : List Nat} {fa fb fe : EF} {tc : TF} {fr : AF} {pos : Pos}
def CTs (X : Cx) (ifs : List Expr) (M : List Nat) (f : TF) : Prop := ∀ n, PTs X ifs (tT X.K M n f)
theorem pts_of {ifs : List Expr} {t t' : TT} (h : PTs X ifs t) (i : ∀ σ H Q, t' σ H Q → t σ H Q) : PTs X ifs t' := ⟨fun pins s σ H Q I hw => h.run pins s σ H Q I (i σ H Q hw)⟩
def yesT : TF := fun env => some (true, env)
theorem cts_nil : CTs X [] [] yesT := fun n => pts_of pts_nil fun σ H Q h => by
  obtain ⟨fx, env, ω, b, env', R, e, k⟩ := h
  cases e
  exact k H ω R (Post.refl _ _ _ _)
theorem cts_one (h : CT X c M tc) : CTs X [c] M tc := fun n => pts_one (h n)
def compL (vs Mc : List Nat) (bd : D → Env → Option Env) (tc : TF) (fe : EF) : List D → Env → Option (List D × Env)
  | [], env => some ([], env)
  | d :: ds, env => (bd d env).bind fun env1 => (tc env1).bind fun p => if p.1 = true then
      (fe p.2).bind fun q => (take1 Mc q.1 q.2.1 q.2.2).bind fun t => (compL vs Mc bd tc fe ds (t.2.wipe vs)).map fun r => (t.1 :: r.1, r.2)
    else compL vs Mc bd tc fe ds (p.2.wipe vs)
def compE (vs Mb Mc : List Nat) (bd : D → Env → Option Env) (fi : IF) (tc : TF) (fe : EF) : EF := fun env => (fi env).bind fun p => if p.2.1.fresh Mb = true ∧ p.1.length < sizeLine then
    (compL vs Mc bd tc fe p.1 (p.2.2.wipe vs)).map fun r => (.lst .own r.1, .tmp, r.2.back p.2.2 vs)
  else none
theorem tLc_of {g : TG} {S vs : List Nat} {bd : D → Env → Option Env} {fi : IF} {K : PySem.W.Frag} (hbd : Tgt K P S g bd) (hS : ∀ i ∈ S, i ∈ vs) (hv : ∀ i ∈ vs, i ∉ Mt ++ (Me ++ Mc)) (n : Nat) {σ : L2.St} {H : Hp} {Q : VK}
    (h : tE K (Ma ++ (Mt ++ (Me ++ Mc))) n (compE vs (Mt ++ (Me ++ Mc)) Mc bd fi tc fe) σ H Q) : tLc (tI K Ma n fi) g (tT K Mt (n + 2) tc) (tE K Me (n + 2) fe) vs σ H Q := by
  obtain ⟨fx, env, ω, d, s0, env', R, e, k⟩ := h
  unfold compE at e
  obtain ⟨⟨its, s, env1⟩, e1, h⟩ := Option.bind_eq_some_iff.mp e
  split at h
  case isFalse => cases h
  case isTrue hf =>
  obtain ⟨hf, hz⟩ := hf
  obtain ⟨⟨ys, envF⟩, e2, h⟩ := Option.map_eq_some_iff.mp h
  simp only [Prod.mk.injEq] at h
  obtain ⟨rfl, rfl, rfl⟩ := h
  simp only at e2 hf hz k
  generalize hMb : Mt ++ (Me ++ Mc) = Mb at *
  have hMt : ∀ i ∈ Mt, i ∈ Mb := fun i hi => by rw [← hMb]; exact memL i hi
  have hMe : ∀ i ∈ Me, i ∈ Mb := fun i hi => by rw [← hMb]; exact memR i (memL i hi)
  have hMc : ∀ i ∈ Mc, i ∈ Mb := fun i hi => by rw [← hMb]; exact memR i (memR i hi)
  refine ⟨fx, env, ω, its, s, env1, R, e1, fun J H1 ω1 R1 p1 wk Dl hD => ?_⟩
  let T : Nat → Hp → Prop := fun i H' => ∃ envi ωi acc vacc rest, Rel K [] envi ωi (wipe σ vs) H' ∧ Post Mb (n + 1) ω1 H1 ωi H' ∧ i ≤ its.length ∧ LstW ωi H' Dl vacc ⟨.tmp (n + 1), []⟩ ∧ Reps K ωi H' acc vacc ⟨.tmp (n + 1), []⟩ 0 ∧ acc.length ≤ i ∧
    compL vs Mc bd tc fe (its.drop i) envi = some (rest, envF) ∧ acc ++ rest = ys
  refine ⟨fun i m H' => m = its.length - i ∧ T i H', ⟨its.length, by simp, env1.wipe vs, own1 ω1 Dl (some ⟨.tmp (n + 1), []⟩), [], [], ys, (R1.wipe vs).post (new_post (n := 0) hD), new_post hD, Nat.zero_le _, ⟨upd_same, own1_same⟩, rfl, Nat.le_refl _, by simpa using e2, rfl⟩, fun i m H' hW => ?_⟩
  obtain ⟨rfl, envi, ωi, acc, vacc, rest, Ri, pi, hil, hl, hacc, hai, hL, hy⟩ := hW
  obtain ⟨wgo, wstop, wyld⟩ := wk Mb ωi H' hf pi
  by_cases hlt : i < its.length
  · refine .inr ⟨wgo i hlt, T (i + 1), fun H2 hT => ⟨its.length - (i + 1), by omega, rfl, hT⟩, fun x H2 hyl => ?_⟩
    have hd : its[i]? = some its[i] := List.getElem?_eq_getElem hlt
    obtain ⟨ω2, q2, rx⟩ := wyld i its[i] x H2 hd hyl
    rw [List.drop_eq_getElem_cons hlt] at hL
    unfold compL at hL
    obtain ⟨env2, e3, hL⟩ := Option.bind_eq_some_iff.mp hL
    obtain ⟨⟨b, env3⟩, e4, hL⟩ := Option.bind_eq_some_iff.mp hL
    refine hbd (by simp) (Ri.post (q2 0)) rx e3 fun σ3 R3 o3 => ⟨wipe_only o3 hS, ?_⟩
    have hw3 : wipe σ3 vs = wipe σ vs := wipe_only o3 hS
    have pp : Post Mb (n + 1) ω1 H1 ω2 H2 := pi.trans ((q2 (n + 1)).mono mem0 (Nat.le_refl _))
    have okT : (Loc.mk (.tmp (n + 1)) []).ok [] (n + 2) := Nat.lt_succ_self _
    have hl2 : LstW ω2 H2 Dl vacc ⟨.tmp (n + 1), []⟩ := by
      obtain ⟨h1, h2⟩ := (q2 (n + 2)).pr Dl _ hl.1 (by rw [hl.2]; exact Nat.lt_succ_self _)
      exact ⟨h1, h2.trans hl.2⟩
    have hacc2 : Reps K ω2 H2 acc vacc ⟨.tmp (n + 1), []⟩ 0 := Reps.tr (q2 (n + 2)).calm ((q2 (n + 2)).goes okT) hacc
    refine ⟨[], env2, ω2, b, env3, R3, e4, fun H4 ω4 R4 p4 => ?_⟩
    have okT' : ∀ M : List Nat, (Loc.mk (.tmp (n + 1)) []).ok M (n + 2) := fun _ => Nat.lt_succ_self _
    have hl4 : LstW ω4 H4 Dl vacc ⟨.tmp (n + 1), []⟩ := by
      obtain ⟨h1, h2⟩ := p4.pr Dl _ hl2.1 (by rw [hl2.2]; exact Nat.lt_succ_self _)
      exact ⟨h1, h2.trans hl2.2⟩
    have hacc4 : Reps K ω4 H4 acc vacc ⟨.tmp (n + 1), []⟩ 0 := Reps.tr p4.calm (p4.goes (okT' _)) hacc2
    have pp4 : Post Mb (n + 1) ω1 H1 ω4 H4 := pp.trans (p4.mono hMt (Nat.le_succ _))
    cases b with
    | false =>
      rw [if_neg (by simp)] at hL
      show T (i + 1) H4
      exact ⟨env3.wipe vs, ω4, acc, vacc, rest, by rw [← hw3]; exact R4.wipe vs, pp4, hlt, hl4, hacc4, Nat.le_succ_of_le hai, hL, hy⟩
    | true =>
      rw [if_pos rfl] at hL
      show tE K Me (n + 2) fe σ3 H4 fun y H5 => ∃ acc, H5 Dl = some (HO.lst acc) ∧ acc.length < sizeLine ∧ T (i + 1) (upd H5 Dl (HO.lst (acc ++ [y])))
      obtain ⟨⟨dy, sy, env5⟩, e5, hL⟩ := Option.bind_eq_some_iff.mp hL
      obtain ⟨⟨dz, env6⟩, e6, hL⟩ := Option.bind_eq_some_iff.mp hL
      obtain ⟨⟨zs, envG⟩, e7, hL⟩ := Option.map_eq_some_iff.mp hL
      simp only [Prod.mk.injEq] at hL
      obtain ⟨rfl, rfl⟩ := hL
      refine ⟨[], env3, ω4, dy, sy, env5, R4, e5, fun y H5 ω5 R5 r5 p5 => ?_⟩
      have hl5 : LstW ω5 H5 Dl vacc ⟨.tmp (n + 1), []⟩ := by
        obtain ⟨h1, h2⟩ := p5.pr Dl _ hl4.1 (by rw [hl4.2]; exact Nat.lt_succ_self _)
        exact ⟨h1, h2.trans hl4.2⟩
      have hacc5 : Reps K ω5 H5 acc vacc ⟨.tmp (n + 1), []⟩ 0 := Reps.tr p5.calm (p5.goes (okT' _)) hacc4
      obtain ⟨ω6, R6, r6, p6⟩ := take1_rep (m := n + 2) ((Loc.mk (.tmp (n + 1)) []).sub acc.length) R5 r5.1 e6
      have hl6 : LstW ω6 H5 Dl vacc ⟨.tmp (n + 1), []⟩ := by
        obtain ⟨h1, h2⟩ := p6.pr Dl _ hl5.1 (by rw [hl5.2]; exact Nat.lt_succ_self _)
        exact ⟨h1, h2.trans hl5.2⟩
      have hacc6 : Reps K ω6 H5 acc vacc ⟨.tmp (n + 1), []⟩ 0 := Reps.tr p6.calm (p6.goes (okT' _)) hacc5
      have pp6 : Post Mb (n + 1) ω1 H1 ω6 H5 := (pp4.trans (p5.mono hMe (Nat.le_succ _))).trans (p6.mono hMc (Nat.le_succ _))
      have hle : vacc.length = acc.length := hacc6.length.symm
      have cg : Chg (n + 3) Dl ω6 H5 ω6 (upd H5 Dl (.lst (vacc ++ [y]))) := Chg.upd
      have child : ∀ (j : Nat) (dd : D) (vv : V), Rep K ω6 H5 dd vv ((Loc.mk (.tmp (n + 1)) []).sub j) → Rep K ω6 (upd H5 Dl (.lst (vacc ++ [y]))) dd vv ((Loc.mk (.tmp (n + 1)) []).sub j) := fun j dd vv r =>
        r.tr (cg.calm hl6) (cg.goes hl6 (show n + 1 < n + 3 by omega) fun s hs => by
          have := congrArg (fun x => x.path.length) hs
          simp [Loc.sub] at this)
      refine ⟨vacc, hl6.1, by rw [hle]; exact Nat.lt_of_le_of_lt hai (Nat.lt_trans hlt hz), env6.wipe vs, ω6, acc ++ [dz], vacc ++ [y], zs, ?_, ?_, hlt, ⟨upd_same, hl6.2⟩, ?_, by simp; exact hai, e7, by rw [List.append_assoc]; exact hy⟩
      · rw [← hw3]
        have R7 := R6.wipe vs
        exact ⟨R7.len, fun j dj ej => by
          obtain ⟨v, e8, r⟩ := R7.rep j dj ej
          exact ⟨v, e8, r.tr (cg.calm hl6) (cg.goes hl6 (by simp [Loc.ok]) fun s hs => by cases hs)⟩, R7.fix⟩
      · refine pp6.trans ⟨(cg.calm hl6).st, fun b o eb pb => ?_⟩
        have hb : b ≠ Dl := fun q => by
          subst q
          rw [hl6.2] at pb
          exact absurd (show n + 1 < n + 1 from pb) (Nat.lt_irrefl _)
        exact ⟨by rw [upd_ne hb]; exact eb, rfl⟩
      · refine Reps.append (Reps.each (fun j dd vv _ _ r => child _ dd vv r) hacc6) ?_
        simp only [Reps]
        exact ⟨y, [], rfl, by rw [Nat.zero_add]; exact child _ _ _ r6, rfl⟩
  · have : i = its.length := by omega
    subst this
    rw [List.drop_length] at hL
    cases hL
    refine .inl ⟨wstop _ (Nat.le_refl _), ?_⟩
    rw [List.append_nil] at hy
    subst hy
    refine k _ H' (relab ωi (n + 1) ⟨.tmp n, []⟩) ⟨?_, fun i d e => ?_, R1.fix⟩ ⟨?_, trivial⟩ ?_
    · rw [Env.back_length, Ri.len, wipe_length]
    · rcases Env.back_get e with ⟨hi, e8⟩ | ⟨hi, e8⟩
      · obtain ⟨v, e9, r⟩ := R1.rep i d e8
        exact ⟨v, e9, (r.post pi (show i ∉ Mb from hv i hi)).relab_other (by simp)⟩
      · obtain ⟨v, e9, r⟩ := Ri.rep i d e8
        rw [wipe_out hi] at e9
        exact ⟨v, e9, r.relab_other (by simp)⟩
    · refine Rep.relab ?_
      simp only [Rep]
      exact ⟨Dl, vacc, rfl, hl, hacc⟩
    · exact (p1.mono memL (Nat.le_refl _)).trans ((pi.mono memR (Nat.le_succ n)).trans (relab_post (Nat.le_succ n)))
theorem ce_lc {scope : Scope} {own : List (Str × Nat)} {g : TG} {S : List Nat} {bd : D → Env → Option Env} {fi : IF} (Mc : List Nat) (hc : X.calm = true) (hN : X.N.Nodup) (hi : CI X tg iter Ma fi) (ok : BlkOk X.N X.env.scope scope own)
    (hg : ∀ (s : Shared) (H : Hp) (C : Addr) (cl : List (Str × Addr)) (fp : List Addr), CG (X.blk s H scope (compEnvC scope cl C X.env) fp) tg g [] S bd)
    (ht : ∀ (s : Shared) (H : Hp) (C : Addr) (cl : List (Str × Addr)) (fp : List Addr), CTs (X.blk s H scope (compEnvC scope cl C X.env) fp) ifs Mt tc)
    (he : ∀ (s : Shared) (H : Hp) (C : Addr) (cl : List (Str × Addr)) (fp : List Addr), CE (X.blk s H scope (compEnvC scope cl C X.env) fp) elt Me fe)
    (hS : (S.all fun i => decide (i ∈ own.map (·.2))) = true) (hv : ((own.map (·.2)).all fun i => decide (i ∉ Mt ++ (Me ++ Mc))) = true) (hs : ∀ x, foldedSetIterable iter X.env x = pure x := by intro _; rfl) :
    CE X (.ListComp elt [⟨tg, iter, ifs, 0⟩] scope pos) (Ma ++ (Mt ++ (Me ++ Mc))) (compE (own.map (·.2)) (Mt ++ (Me ++ Mc)) Mc bd fi tc fe) := fun n =>
  ⟨fun pins s σ H Q I h => (pe_lc hc hN (hi n) ok (fun s H C cl fp => (hg s H C cl fp).pg) (fun s H C cl fp => ht s H C cl fp (n + 2)) (fun s H C cl fp => he s H C cl fp (n + 2)) hs).run pins s σ H Q I
    (tLc_of (K := X.K) ((hg s H 0 [] []).ok) (fun i hi => of_decide_eq_true (List.all_eq_true.mp hS i hi)) (fun i hi => of_decide_eq_true (List.all_eq_true.mp hv i hi)) n h)⟩
end

/-! ### a def by its body -/
def outsOf (env : Env) : List Nat → Option (List D)
  | [] => some []
  | k :: ks => (env.get k).bind fun d => (outsOf env ks).map fun ds => d :: ds
def runF (np N : Nat) (io : List Nat) (fb : SF) : FF := fun ds => if ds.length = np then
    match fb (ds.map some ++ List.replicate (N - np) none) with
    | some (.rt d env) => (outsOf env io).map fun os => (d, os)
    | some (.nx env) => (outsOf env io).map fun os => (.non, os)
    | _ => none
  else none
theorem outsOf_get : ∀ {io : List Nat} {env : Env} {os : List D} {j k : Nat} {d : D}, outsOf env io = some os → io[j]? = some k → os[j]? = some d → env[k]? = some (some d)
  | [], _, _, _, _, _, _, h, _ => by simp at h
  | k0 :: ks, env, os, j, k, d, h, h1, h2 => by
    unfold outsOf at h
    obtain ⟨d0, e0, h⟩ := Option.bind_eq_some_iff.mp h
    obtain ⟨ds, e1, h⟩ := Option.map_eq_some_iff.mp h
    subst h
    cases j with
    | zero =>
      simp at h1 h2
      subst h1; subst h2
      exact Env.get_some e0
    | succ j => exact outsOf_get e1 (by simpa using h1) (by simpa using h2)
section
variable {P : Program} {w : World} {K : PySem.W.Frag} {mg : Str → Option Value} {base : Heap}
theorem fn_ok {x qual : Str} {st : Stmt} {f : Addr} {fd : FuncData} {N ps : List Str} {k : Nat} {fb : SF} {io M : List Nat} (F : Fun K x qual st f fd) (S : FnScope N ps (defScope st)) (hio : (io.all fun k => decide (k < ps.length)) = true)
    (hbody : ∀ (cdv : Value) (A : Around) (outer : List PySem.Env) (s : Shared) (H : Hp) (E : XK), Room k (A.deeper (envOfC qual (defScope st) s.heap.objs.size f cdv)) →
      CB (cxOf CX0 P w K mg base N qual (defScope st) f cdv A outer s H E).nox (defBody st) io M fb) : FnOk P w K mg base CX0 (k + 1) f fd ps (spOf K io (runF ps.length N.length io fb)) := by
  refine F.ok S (fun vs H Q E h => ?_) (fun cdv A outer s H vs Q E hr h => ?_)
  · obtain ⟨ω, ds, d, outs, hl, hF, _⟩ := h
    unfold runF at hF
    split at hF
    · rename_i hn; exact hl.trans hn
    · cases hF
  · obtain ⟨ω, ds, d, outs, hl, hF, hargs, q⟩ := h
    unfold runF at hF
    split at hF
    case isFalse => cases hF
    case isTrue hn =>
    have hvl : vs.length = ps.length := hl.trans hn
    have hNl : ps.length ≤ N.length := by have := congrArg List.length S.pre; rw [List.length_take] at this; omega
    refine ⟨_, hbody cdv A outer s H E hr 0, ?_⟩
    have hio' : ∀ k ∈ io, k < ps.length := fun k hk => of_decide_eq_true (List.all_eq_true.mp hio k hk)
    let fx : List (Nat × V) := io.map fun k => (k, vs.getD k .non)
    have hfx : fx.map (·.1) = io := by
      show (io.map fun k => (k, vs.getD k .non)).map (·.1) = io
      rw [List.map_map]
      exact List.map_id _
    have st_get : ∀ {i : Nat} {v : V}, vs[i]? = some v → (L2.start N vs)[i]? = some (some v) := by
      intro i v hi
      unfold L2.start
      have hlt : i < vs.length := (List.getElem?_eq_some_iff.mp hi).1
      rw [List.getElem?_append_left (by simpa using hlt), List.getElem?_map, hi]; rfl
    have R : Rel K fx (ds.map some ++ List.replicate (N.length - ps.length) none) ω (L2.start N vs) H := by
      refine ⟨?_, fun i di e => ?_, fun p hp => ?_⟩
      · unfold L2.start
        simp only [List.length_append, List.length_map, List.length_replicate]
        omega
      · have hi : i < ds.length := by
          by_cases hi : i < ds.length
          · exact hi
          · rw [List.getElem?_append_right (by simpa using hi)] at e
            rw [List.getElem?_replicate] at e
            split at e <;> cases e
        rw [List.getElem?_append_left (by simpa using hi), List.getElem?_map, List.getElem?_eq_getElem hi] at e
        simp at e
        have hv : vs[i]? = some vs[i] := List.getElem?_eq_getElem (by omega)
        exact ⟨vs[i], st_get hv, hargs i di _ (by rw [List.getElem?_eq_getElem hi, e]) hv⟩
      · obtain ⟨k, hk, rfl⟩ := List.mem_map.mp hp
        have hlt : k < vs.length := by rw [hvl]; exact hio' k hk
        refine st_get (v := vs.getD k .non) ?_
        rw [List.getElem?_eq_getElem hlt]
        simp [List.getD, List.getElem?_eq_getElem hlt]
    have outs_ok : ∀ {e' : Env} {ω' : Own} {H' : Hp}, outsOf e' io = some outs → (∀ p ∈ fx, ∀ d, e'[p.1]? = some (some d) → Rep K ω' H' d p.2 ⟨.slot p.1, []⟩) →
        ∀ (j k : Nat) (d : D) (v : V), io[j]? = some k → outs[j]? = some d → vs[k]? = some v → Rep K ω' H' d v ⟨.slot k, []⟩ := by
      intro e' ω' H' ho hr j k d v h1 h2 h3
      have := hr (k, vs.getD k .non) (List.mem_map.mpr ⟨k, List.mem_of_getElem? h1, rfl⟩) d (outsOf_get ho h1 h2)
      have hv : vs.getD k .non = v := by simp [List.getD, h3]
      rw [hv] at this
      exact this
    split at hF
    · rename_i d0 e' he
      obtain ⟨os, ho, h⟩ := Option.map_eq_some_iff.mp hF
      cases h
      exact ⟨fx, _, ω, _, hfx, R, he, fun v H' ω' r o K0 => q v H' ω' r (outs_ok ho o) K0⟩
    · rename_i e' he
      obtain ⟨os, ho, h⟩ := Option.map_eq_some_iff.mp hF
      cases h
      refine ⟨fx, _, ω, _, hfx, R, he, fun σ' H' ω' R' p => q .non H' ω' rfl (outs_ok ho fun pp hpp dd hdd => ?_) p.keep0⟩
      obtain ⟨u, h1, h2⟩ := R'.rep pp.1 dd hdd
      rw [R'.fix pp hpp] at h1
      cases h1
      exact h2
    · cases hF
end
end VC

set_option Elab.async false
set_option linter.all false
set_option maxRecDepth 100000
/-! VCA: what operators and built-ins give, on value trees. -/
namespace VC
open PySem PySem.Spec PyProof.Rows L2

section
variable {X : Cx}
theorem OpR.or {f : Value → Value → Sem Value} {r r' : R2} (h : OpR X f r) (h' : OpR X f r') : OpR X f (fun x y H Q => r x y H Q ∨ r' x y H Q) := by
  intro pins s σ H x y v u Q I rx ry q
  rcases q with q | q
  · exact h pins s σ H x y v u Q I rx ry q
  · exact h' pins s σ H x y v u Q I rx ry q
theorem CallR.or {f : Value} {r r' : List V → Hp → VK → Prop} (h : CallR X f r) (h' : CallR X f r') : CallR X f (fun x H Q => r x H Q ∨ r' x H Q) := by
  intro pins s σ H x v Q I rx q
  rcases q with q | q
  · exact h pins s σ H x v Q I rx q
  · exact h' pins s σ H x v Q I rx q
end
section
variable {K : PySem.W.Frag} {ω : Own} {H : Hp} {l l1 l2 : VC.Loc}
theorem Rep.int {i : Int} {v : V} (h : Rep K ω H (.int i) v l) : v = .int i := h
theorem Rep.str {s : Str} {v : V} (h : Rep K ω H (.str s) v l) : v = .str s := h
theorem Rep.bl {b : Bool} {v : V} (h : Rep K ω H (.bl b) v l) : v = .bl b := h
theorem Rep.non {v : V} (h : Rep K ω H .non v l) : v = .non := h
/-- a new owned list at p of things that own nothing -/
theorem newL {n : Nat} {Q : VK} {xs : List D} {vs : List V} {k : Nat} (r : Reps K ω H xs vs l k) (hc : coldL xs = true) (k : ∀ v H' ω', Rep K ω' H' (.lst .own xs) v ⟨.tmp n, []⟩ → Post [] n ω H ω' H' → Q v H') : ∀ p, H p = none → Q (.ref p) (upd H p (.lst vs)) := fun p hp =>
  k _ _ (own1 ω p (some ⟨.tmp n, []⟩)) (Rep.newL (l3 := l) hp (Reps.any (Calm.refl _ _) ⟨.out, []⟩ 0 hc r) hc) (new_post hp)

/-! ### arithmetic -/
def gAdd : D → D → Option D
  | .int i, .int j => some (.int (i + j))
  | .str a, .str b => if a.length + b.length ≤ sizeLine then some (.str (a ++ b)) else none
  | .lst z xs, .lst y ys => if z ≠ .fix ∧ y ≠ .fix ∧ coldL xs = true ∧ coldL ys = true ∧ xs.length + ys.length ≤ sizeLine then some (.lst .own (xs ++ ys)) else none
  | _, _ => none
def rStrCat : R2 := fun x y H Q => ∃ i j, x = .str i ∧ y = .str j ∧ i.length + j.length ≤ sizeLine ∧ Q (.str (i ++ j)) H
def rAddD : R2 := fun x y H Q => rI0 (fun i j => .int (i + j)) x y H Q ∨ (rStrCat x y H Q ∨ rCat x y H Q)
theorem op_addD {X : Cx} : OpR X (binaryOp .Add) rAddD := OpR.or op_add (OpR.or op_add_str op_cat)
theorem g_add : Op2 K rAddD gAdd := by
  intro ω H x y d1 d2 l1 l2 d n Q r1 r2 h k
  unfold gAdd at h
  split at h
  · cases h
    exact .inl ⟨_, _, r1, r2, k _ H ω rfl (Post.refl _ _ _ _)⟩
  · split at h
    · rename_i hl
      cases h
      exact .inr (.inl ⟨_, _, r1, r2, hl, k _ H ω rfl (Post.refl _ _ _ _)⟩)
    · cases h
  · split at h
    · rename_i hl
      obtain ⟨h1, h2, h3, h4, h5⟩ := hl
      cases h
      simp only [Rep] at r1 r2
      obtain ⟨a, vs, rfl, t1, rs1⟩ := r1
      obtain ⟨b, ws, rfl, t2, rs2⟩ := r2
      refine .inr (.inr ⟨a, b, vs, ws, rfl, rfl, t1.at h1, t2.at h2, by rw [← rs1.length, ← rs2.length]; exact h5, ?_⟩)
      exact newL (l := ⟨.out, []⟩) (k := 0) ((Reps.any (Calm.refl _ _) _ 0 h3 rs1).append (Reps.any (Calm.refl _ _) _ _ h4 rs2)) (by rw [coldL_append, h3, h4]; rfl) k
    · cases h
  · cases h
def gSub : D → D → Option D
  | .int i, .int j => some (.int (i - j))
  | _, _ => none
theorem g_sub : Op2 K (rI0 fun i j => .int (i - j)) gSub := by
  intro ω H x y d1 d2 l1 l2 d n Q r1 r2 h k
  unfold gSub at h
  split at h
  · cases h
    exact ⟨_, _, r1, r2, k _ H ω rfl (Post.refl _ _ _ _)⟩
  · cases h
noncomputable def small64 (i : Int) : Bool := grd (-(2 ^ 64) < i ∧ i < 2 ^ 64)
noncomputable def small63 (i : Int) : Bool := grd (-(2 ^ 63) ≤ i ∧ i < 2 ^ 63)
def repL (n : Nat) (xs : List D) : List D := (List.replicate n xs).flatten
noncomputable def gMul : D → D → Option D
  | .int i, .int j => if small64 i = true ∨ small64 j = true then some (.int (i * j)) else none
  | .lst z xs, .int k => if z ≠ .fix ∧ coldL xs = true ∧ small63 k = true ∧ xs.length * k.toNat ≤ sizeLine then some (.lst .own (repL k.toNat xs)) else none
  | _, _ => none
def rMulD : R2 := fun x y H Q => rI CMul (fun i j => .int (i * j)) x y H Q ∨ rRep x y H Q
theorem op_mulD {X : Cx} : OpR X (binaryOp .Mult) rMulD := OpR.or op_mul op_rep
theorem Reps.repL {xs : List D} {vs : List V} (hc : coldL xs = true) (r : Reps K ω H xs vs l 0) : ∀ (n : Nat) (k : Nat), Reps K ω H (repL n xs) (List.replicate n vs).flatten l k
  | 0, k => rfl
  | n + 1, k => by
    show Reps K ω H ((xs :: List.replicate n xs).flatten) ((vs :: List.replicate n vs).flatten) l k
    rw [List.flatten_cons, List.flatten_cons]
    exact (Reps.any (Calm.refl _ _) _ _ hc r).append (Reps.repL hc r n _)
theorem coldL_repL {xs : List D} (hc : coldL xs = true) : ∀ n, coldL (VC.repL n xs) = true
  | 0 => rfl
  | n + 1 => by
    show coldL ((xs :: List.replicate n xs).flatten) = true
    rw [List.flatten_cons, coldL_append, hc]
    exact coldL_repL hc n
theorem g_mul : Op2 K rMulD gMul := by
  intro ω H x y d1 d2 l1 l2 d n Q r1 r2 h k
  unfold gMul at h
  split at h
  · split at h
    · rename_i hs
      cases h
      refine .inl ⟨_, _, r1, r2, ?_, k _ H ω rfl (Post.refl _ _ _ _)⟩
      exact hs.imp grd_iff.mp grd_iff.mp
    · cases h
  · split at h
    · rename_i hs
      obtain ⟨h1, h2, h34, h5⟩ := hs
      obtain ⟨h3, h4⟩ := grd_iff.mp h34
      cases h
      simp only [Rep] at r1
      obtain ⟨a, vs, rfl, t1, rs1⟩ := r1
      refine .inr ⟨a, _, vs, rfl, r2, t1.at h1, h3, h4, by rw [← rs1.length]; exact h5, ?_⟩
      exact newL (l := ⟨.out, []⟩) (k := 0) (Reps.repL h2 (Reps.any (Calm.refl _ _) _ 0 h2 rs1) _ 0) (coldL_repL h2 _) k
    · cases h
  · cases h
def gFdiv : D → D → Option D
  | .int i, .int j => if j ≠ 0 ∧ j.natAbs < 1073741824 then some (.int (i.fdiv j)) else none
  | _, _ => none
theorem g_fdiv : Op2 K (rI CDivN fun i j => .int (i.fdiv j)) gFdiv := by
  intro ω H x y d1 d2 l1 l2 d n Q r1 r2 h k
  unfold gFdiv at h
  split at h
  · split at h
    · rename_i hs
      cases h
      exact ⟨_, _, r1, r2, hs, k _ H ω rfl (Post.refl _ _ _ _)⟩
    · cases h
  · cases h
def gMod : D → D → Option D
  | .int i, .int j => if j ≠ 0 then some (.int (i.fmod j)) else none
  | _, _ => none
theorem g_mod : Op2 K (rI (fun _ j => j ≠ 0) fun i j => .int (i.fmod j)) gMod := by
  intro ω H x y d1 d2 l1 l2 d n Q r1 r2 h k
  unfold gMod at h
  split at h
  · split at h
    · rename_i hs
      cases h
      exact ⟨_, _, r1, r2, hs, k _ H ω rfl (Post.refl _ _ _ _)⟩
    · cases h
  · cases h
def gNeg : D → Option D
  | .int i => some (.int (-i))
  | _ => none
theorem g_neg : Op1 K (rU fun i => .int (-i)) gNeg := by
  intro ω H x d1 l1 d n Q r1 h k
  unfold gNeg at h
  split at h
  · cases h
    exact ⟨_, r1, k _ H ω rfl (Post.refl _ _ _ _)⟩
  · cases h

/-! ### comparisons -/
def gLt : D → D → Option D
  | .int i, .int j => some (.bl (decide (i < j)))
  | _, _ => none
def gLe : D → D → Option D
  | .int i, .int j => some (.bl (decide (i ≤ j)))
  | _, _ => none
def gGt : D → D → Option D
  | .int i, .int j => some (.bl (decide (j < i)))
  | _, _ => none
def gGe : D → D → Option D
  | .int i, .int j => some (.bl (decide (j ≤ i)))
  | _, _ => none
theorem g_lt : Op2 K (rI0 fun i j => .bl (decide (i < j))) gLt := by
  intro ω H x y d1 d2 l1 l2 d n Q r1 r2 h k
  unfold gLt at h
  split at h
  · cases h; exact ⟨_, _, r1, r2, k _ H ω rfl (Post.refl _ _ _ _)⟩
  · cases h
theorem g_le : Op2 K (rI0 fun i j => .bl (decide (i ≤ j))) gLe := by
  intro ω H x y d1 d2 l1 l2 d n Q r1 r2 h k
  unfold gLe at h
  split at h
  · cases h; exact ⟨_, _, r1, r2, k _ H ω rfl (Post.refl _ _ _ _)⟩
  · cases h
theorem g_gt : Op2 K (rI0 fun i j => .bl (decide (j < i))) gGt := by
  intro ω H x y d1 d2 l1 l2 d n Q r1 r2 h k
  unfold gGt at h
  split at h
  · cases h; exact ⟨_, _, r1, r2, k _ H ω rfl (Post.refl _ _ _ _)⟩
  · cases h
theorem g_ge : Op2 K (rI0 fun i j => .bl (decide (j ≤ i))) gGe := by
  intro ω H x y d1 d2 l1 l2 d n Q r1 r2 h k
  unfold gGe at h
  split at h
  · cases h; exact ⟨_, _, r1, r2, k _ H ω rfl (Post.refl _ _ _ _)⟩
  · cases h
mutual
def D.py : D → PyData
  | .non => .none | .bl b => .bool b | .int i => .int i | .str s => .str s
  | .tup xs => .tuple (pyL xs)
  | .lst _ xs => .list (pyL xs)
def pyL : List D → List PyData
  | [] => []
  | x :: xs => x.py :: pyL xs
end
mutual
theorem Rep.py : ∀ {d : D} {v : V} {l : VC.Loc}, Rep K ω H d v l → Dp K H v d.py
  | .non, _, _, h => by cases (show _ = _ from h); exact .non
  | .bl _, _, _, h => by cases (show _ = _ from h); exact .bl _
  | .int _, _, _, h => by cases (show _ = _ from h); exact .int _
  | .str _, _, _, h => by cases (show _ = _ from h); exact .str _
  | .tup xs, _, _, h => by
    simp only [Rep] at h
    obtain ⟨a, vs, rfl, t, rs⟩ := h
    exact .tup t.sq (Reps.py rs)
  | .lst z xs, _, _, h => by
    simp only [Rep] at h
    obtain ⟨a, vs, rfl, t, rs⟩ := h
    exact .lst t.sq (Reps.py rs)
theorem Reps.py : ∀ {xs : List D} {vs : List V} {l : VC.Loc} {k : Nat}, Reps K ω H xs vs l k → DpAll K H vs (pyL xs)
  | [], _, _, _, h => by cases (show _ = _ from h); exact .nil
  | x :: xs, _, _, _, h => by
    simp only [Reps] at h
    obtain ⟨v, vs', rfl, r, rs⟩ := h
    exact .cons (Rep.py r) (Reps.py rs)
end
def deq (a b : D) : Bool := PyData.eqv a.py b.py
def shp (a : D) : Bool := SeqAt.shaped a.py
def gEq : D → D → Option D := fun a b => if shp a = true ∧ shp b = true then some (.bl (deq a b)) else none
def gNe : D → D → Option D := fun a b => if shp a = true ∧ shp b = true then some (.bl (!deq a b)) else none
theorem g_eq : Op2 K (rEqD K) gEq := by
  intro ω H x y d1 d2 l1 l2 d n Q r1 r2 h k
  unfold gEq at h
  split at h
  · rename_i hs
    cases h
    exact ⟨_, _, r1.py, r2.py, hs.1, hs.2, k _ H ω rfl (Post.refl _ _ _ _)⟩
  · cases h
theorem g_ne : Op2 K (rNeD K) gNe := by
  intro ω H x y d1 d2 l1 l2 d n Q r1 r2 h k
  unfold gNe at h
  split at h
  · rename_i hs
    cases h
    exact ⟨_, _, r1.py, r2.py, hs.1, hs.2, k _ H ω rfl (Post.refl _ _ _ _)⟩
  · cases h
def isNon : D → Bool
  | .non => true
  | _ => false
def gIsN : D → D → Option D
  | d, .non => some (.bl (isNon d))
  | _, _ => none
def gNotN : D → D → Option D
  | d, .non => some (.bl (!isNon d))
  | _, _ => none
theorem isNon_rep {d : D} {v : V} (r : Rep K ω H d v l) : decide (v = V.non) = isNon d := by
  cases d with
  | non => cases (show _ = _ from r); rfl
  | bl _ => cases (show _ = _ from r); rfl
  | int _ => cases (show _ = _ from r); rfl
  | str _ => cases (show _ = _ from r); rfl
  | tup xs => simp only [Rep] at r; obtain ⟨a, vs, rfl, _⟩ := r; rfl
  | lst z xs => simp only [Rep] at r; obtain ⟨a, vs, rfl, _⟩ := r; rfl
theorem g_isN : Op2 K (fun x y H Q => y = .non ∧ Q (.bl (decide (x = .non))) H) gIsN := by
  intro ω H x y d1 d2 l1 l2 d n Q r1 r2 h k
  unfold gIsN at h
  split at h
  · cases h
    exact ⟨r2, k _ H ω (by rw [isNon_rep r1]; rfl) (Post.refl _ _ _ _)⟩
  · cases h
theorem g_notN : Op2 K (fun x y H Q => y = .non ∧ Q (.bl (!decide (x = .non))) H) gNotN := by
  intro ω H x y d1 d2 l1 l2 d n Q r1 r2 h k
  unfold gNotN at h
  split at h
  · cases h
    exact ⟨r2, k _ H ω (by rw [isNon_rep r1]; rfl) (Post.refl _ _ _ _)⟩
  · cases h
/-! ### x in s, for flat items; a sign in a text -/
def flatD : D → Bool
  | .non => true | .bl _ => true | .int _ => true | .str _ => true
  | _ => false
def toV : D → V
  | .bl b => .bl b
  | .int i => .int i
  | .str s => .str s
  | _ => .non
theorem flat_rep {d : D} {v : V} (r : Rep K ω H d v l) (h : flatD d = true) : v = toV d ∧ flatV v = true := by
  cases d with
  | non => cases (show _ = _ from r); exact ⟨rfl, rfl⟩
  | bl _ => cases (show _ = _ from r); exact ⟨rfl, rfl⟩
  | int _ => cases (show _ = _ from r); exact ⟨rfl, rfl⟩
  | str _ => cases (show _ = _ from r); exact ⟨rfl, rfl⟩
  | tup xs => cases h
  | lst z xs => cases h
theorem flat_reps : ∀ {ds : List D} {vs : List V} {l : VC.Loc} {k : Nat}, Reps K ω H ds vs l k → ds.all flatD = true → vs = ds.map toV ∧ vs.all flatV = true
  | [], _, _, _, r, _ => by cases (show _ = _ from r); exact ⟨rfl, rfl⟩
  | d :: ds, _, _, _, r, h => by
    simp only [Reps] at r
    obtain ⟨v, vs', rfl, r1, rs⟩ := r
    simp only [List.all_cons, Bool.and_eq_true] at h
    obtain ⟨e1, e2⟩ := flat_rep r1 h.1
    obtain ⟨e3, e4⟩ := flat_reps rs h.2
    exact ⟨by rw [List.map_cons, e1, e3], by simp only [List.all_cons, e2, e4, Bool.and_self]⟩
def signIn (x z : Str) : Option Bool := match x.cps.toList with
  | [c] => some (decide (c ∈ z.cps.toList))
  | _ => none
theorem signIn_of {x z : Str} {b : Bool} (h : signIn x z = some b) : ∃ c, x = ⟨#[c]⟩ ∧ b = decide (c ∈ z.cps.toList) := by
  unfold signIn at h
  split at h
  · rename_i c hc
    cases h
    refine ⟨c, ?_, rfl⟩
    obtain ⟨⟨l⟩⟩ := x
    simp at hc
    rw [hc]
  · cases h
def inD (x : D) (ds : List D) : Bool := (ds.map toV).any fun y => eqV y (toV x)
def gIn : D → D → Option D
  | .str x, .str z => (signIn x z).map .bl
  | x, .lst _ ds => if flatD x = true ∧ ds.all flatD = true then some (.bl (inD x ds)) else none
  | x, .tup ds => if flatD x = true ∧ ds.all flatD = true then some (.bl (inD x ds)) else none
  | _, _ => none
def gNotIn : D → D → Option D
  | .str x, .str z => (signIn x z).map fun b => .bl (!b)
  | x, .lst _ ds => if flatD x = true ∧ ds.all flatD = true then some (.bl (!inD x ds)) else none
  | x, .tup ds => if flatD x = true ∧ ds.all flatD = true then some (.bl (!inD x ds)) else none
  | _, _ => none
def rSign : R2 := fun x y H Q => ∃ (c : Nat) (z : Str), x = .str ⟨#[c]⟩ ∧ y = .str z ∧ Q (.bl (decide (c ∈ z.cps.toList))) H
def rNotSign : R2 := fun x y H Q => ∃ (c : Nat) (z : Str), x = .str ⟨#[c]⟩ ∧ y = .str z ∧ Q (.bl (!decide (c ∈ z.cps.toList))) H
def rInD (K : PySem.W.Frag) : R2 := fun x y H Q => rSign x y H Q ∨ rIn K false x y H Q
def rNotInD (K : PySem.W.Frag) : R2 := fun x y H Q => rNotSign x y H Q ∨ rIn K true x y H Q
theorem op_inD {X : Cx} : OpR X (compareOp .In) (rInD X.K) := OpR.or op_in_sign op_in_seq
theorem op_notInD {X : Cx} : OpR X (compareOp .NotIn) (rNotInD X.K) := OpR.or op_notIn_sign op_notIn_seq
theorem in_core {x : D} {ds : List D} {xv : V} {p : Addr} {vs : List V} {k : Nat} {neg : Bool} {Q : VK} (r1 : Rep K ω H x xv l1) (hq : SqL K H p vs ∨ SqT K H p vs) (rs : Reps K ω H ds vs l k) (hs : flatD x = true ∧ ds.all flatD = true) (q : Q (.bl (if neg then !inD x ds else inD x ds)) H) : rIn K neg xv (.ref p) H Q := by
  obtain ⟨e1, e2⟩ := flat_rep r1 hs.1
  obtain ⟨e3, e4⟩ := flat_reps rs hs.2
  refine ⟨p, vs, rfl, hq, e2, e4, ?_⟩
  rw [e1, e3]
  exact q
theorem g_in : Op2 K (rInD K) gIn := by
  intro ω H x y d1 d2 l1 l2 d n Q r1 r2 h k
  unfold gIn at h
  split at h
  · obtain ⟨b, hb, rfl⟩ := Option.map_eq_some_iff.mp h
    obtain ⟨c, rfl, rfl⟩ := signIn_of hb
    exact .inl ⟨c, _, r1, r2, k _ H ω rfl (Post.refl _ _ _ _)⟩
  · split at h
    · rename_i hs
      cases h
      simp only [Rep] at r2
      obtain ⟨a, vs, rfl, t, rs⟩ := r2
      exact .inr (in_core (neg := false) r1 (.inl t.sq) rs hs (k _ H ω rfl (Post.refl _ _ _ _)))
    · cases h
  · split at h
    · rename_i hs
      cases h
      simp only [Rep] at r2
      obtain ⟨a, vs, rfl, t, rs⟩ := r2
      exact .inr (in_core (neg := false) r1 (.inr t.sq) rs hs (k _ H ω rfl (Post.refl _ _ _ _)))
    · cases h
  · cases h
theorem g_notIn : Op2 K (rNotInD K) gNotIn := by
  intro ω H x y d1 d2 l1 l2 d n Q r1 r2 h k
  unfold gNotIn at h
  split at h
  · obtain ⟨b, hb, rfl⟩ := Option.map_eq_some_iff.mp h
    obtain ⟨c, rfl, rfl⟩ := signIn_of hb
    exact .inl ⟨c, _, r1, r2, k _ H ω rfl (Post.refl _ _ _ _)⟩
  · split at h
    · rename_i hs
      cases h
      simp only [Rep] at r2
      obtain ⟨a, vs, rfl, t, rs⟩ := r2
      exact .inr (in_core (neg := true) r1 (.inl t.sq) rs hs (k _ H ω rfl (Post.refl _ _ _ _)))
    · cases h
  · split at h
    · rename_i hs
      cases h
      simp only [Rep] at r2
      obtain ⟨a, vs, rfl, t, rs⟩ := r2
      exact .inr (in_core (neg := true) r1 (.inr t.sq) rs hs (k _ H ω rfl (Post.refl _ _ _ _)))
    · cases h
  · cases h
end
end VC

set_option Elab.async false
set_option linter.all false
set_option maxRecDepth 100000
/-! VCB: subscripts, slices, built-in functions and methods, on value trees. -/
namespace VC
open PySem PySem.Spec PyProof.Rows L2

section
variable {K : PySem.W.Frag} {ω : Own} {H : Hp} {l l1 l2 : VC.Loc}
theorem Reps.anyR : ∀ {xs : List D} {vs : List V} {l : VC.Loc} {k : Nat}, Reps K ω H xs vs l k → AnyR K ω H xs vs
  | [], _, _, _, h => by cases (show _ = _ from h); exact .nil
  | x :: xs, _, _, _, h => by
    simp only [Reps] at h
    obtain ⟨v, vs', rfl, r, rs⟩ := h
    exact .cons r rs.anyR
theorem AnyR.reps : ∀ {xs : List D} {vs : List V} (l : VC.Loc) (k : Nat), coldL xs = true → AnyR K ω H xs vs → Reps K ω H xs vs l k
  | [], _, _, _, _, .nil => rfl
  | x :: xs, _, l, k, hc, .cons r t => by
    simp only [coldL, Bool.and_eq_true] at hc
    simp only [Reps]
    exact ⟨_, _, rfl, r.any (Calm.refl _ _) _ hc.1, AnyR.reps l (k + 1) hc.2 t⟩
theorem AnyR.length : ∀ {xs : List D} {vs : List V}, AnyR K ω H xs vs → xs.length = vs.length
  | _, _, .nil => rfl
  | _, _, .cons _ t => by simp [t.length]
theorem AnyR.take : ∀ {xs : List D} {vs : List V} (n : Nat), AnyR K ω H xs vs → AnyR K ω H (xs.take n) (vs.take n)
  | _, _, 0, _ => .nil
  | _, _, _ + 1, .nil => .nil
  | _, _, n + 1, .cons r t => .cons r (t.take n)
theorem AnyR.drop : ∀ {xs : List D} {vs : List V} (n : Nat), AnyR K ω H xs vs → AnyR K ω H (xs.drop n) (vs.drop n)
  | _, _, 0, h => h
  | _, _, _ + 1, .nil => .nil
  | _, _, n + 1, .cons r t => t.drop n
theorem AnyR.append : ∀ {xs ys : List D} {vs ws : List V}, AnyR K ω H xs vs → AnyR K ω H ys ws → AnyR K ω H (xs ++ ys) (vs ++ ws)
  | _, _, _, _, .nil, h => h
  | _, _, _, _, .cons r t, h => .cons r (t.append h)
theorem AnyR.get : ∀ {xs : List D} {vs : List V} {i : Nat} {d : D}, AnyR K ω H xs vs → xs[i]? = some d → ∃ v l, vs[i]? = some v ∧ Rep K ω H d v l
  | _, _, 0, d, .cons r _, h => by simp at h; subst h; exact ⟨_, _, rfl, r⟩
  | _, _, i + 1, d, .cons _ t, h => by
    obtain ⟨v, l, h1, h2⟩ := t.get (i := i) (by simpa using h)
    exact ⟨v, l, by simpa using h1, h2⟩
  | _, _, _, _, .nil, h => by simp at h
theorem coldL_take {xs : List D} (h : coldL xs = true) (n : Nat) : coldL (xs.take n) = true := coldL_of fun d hd => coldL_mem h d (List.mem_of_mem_take hd)
theorem coldL_drop {xs : List D} (h : coldL xs = true) (n : Nat) : coldL (xs.drop n) = true := coldL_of fun d hd => coldL_mem h d (List.mem_of_mem_drop hd)
theorem AnyR.eraseIdx : ∀ {xs : List D} {vs : List V} (n : Nat), AnyR K ω H xs vs → AnyR K ω H (xs.eraseIdx n) (vs.eraseIdx n)
  | _, _, _, .nil => .nil
  | _, _, 0, .cons r t => t
  | _, _, n + 1, .cons r t => .cons r (t.eraseIdx n)
theorem coldL_eraseIdx {xs : List D} (h : coldL xs = true) (n : Nat) : coldL (xs.eraseIdx n) = true := coldL_of fun d hd => coldL_mem h d (List.mem_of_mem_eraseIdx hd)

/-! ### slices -/
def cutD (xs : List D) (lo hi : Option Int) : List D := (xs.drop (HT.sIx xs.length 0 lo)).take (HT.sIx xs.length xs.length hi - HT.sIx xs.length 0 lo)
theorem AnyR.cut {xs : List D} {vs : List V} (h : AnyR K ω H xs vs) (lo hi : Option Int) : AnyR K ω H (cutD xs lo hi) (cutV vs lo hi) := by
  unfold cutD cutV
  rw [h.length]
  exact (h.drop _).take _
theorem coldL_cut {xs : List D} (h : coldL xs = true) (lo hi : Option Int) : coldL (cutD xs lo hi) = true := coldL_take (coldL_drop h _) _
def gSl : D → Option Int → Option Int → Option D
  | .lst _ xs, lo, hi => if coldL xs = true then some (.lst .own (cutD xs lo hi)) else none
  | .str s, lo, hi => if s.length ≤ sizeLine then some (.str (cutS s lo hi)) else none
  | _, _, _ => none
def rSlD (K : PySem.W.Frag) : V → Option Int → Option Int → Hp → VK → Prop := fun x lo hi H Q => rSlL K x lo hi H Q ∨ rSlS x lo hi H Q
theorem sl_D {X : Cx} : SlR X (rSlD X.K) := SlR.or sl_list sl_str
theorem g_sl : Slc K (rSlD K) gSl := by
  intro ω H x d1 l1 lo hi d n Q r1 h k
  cases d1 with
  | lst z xs =>
    simp only [gSl] at h
    split at h
    · rename_i hc
      cases h
      simp only [Rep] at r1
      obtain ⟨a, vs, rfl, t, rs⟩ := r1
      exact .inl ⟨a, vs, rfl, t.sq, newL (l := ⟨.out, []⟩) (k := 0) ((rs.anyR.cut lo hi).reps _ _ (coldL_cut hc lo hi)) (coldL_cut hc lo hi) k⟩
    · cases h
  | str s =>
    simp only [gSl] at h
    split at h
    · rename_i hz
      cases h
      exact .inr ⟨s, r1, hz, k _ H ω rfl (Post.refl _ _ _ _)⟩
    · cases h
  | _ => cases h

/-! ### a[i] -/
def ixE (Mb : List Nat) (fa fb : EF) : EF := fun env => (fa env).bind fun p => (fb p.2.2).bind fun q => if p.2.1.fresh Mb = true then match p.1, q.1 with
    | .lst z xs, .int k => (ixN xs.length k).bind fun j => (xs[j]?).bind fun d => if d.cold = true then some (d, .tmp, q.2.2) else match z, p.2.1 with
      | .own, .at i pt => some (d, .at i (j :: pt), q.2.2)
      | _, _ => none
    | .tup xs, .int k => (atI xs k).bind fun d => if d.cold = true then some (d, .tmp, q.2.2) else none
    | .str s, .int k => if s.length ≤ sizeLine then (atI s.cps.toList k).map fun c => (.str ⟨#[c]⟩, .tmp, q.2.2) else none
    | _, _ => none
  else none
def rIxD (K : PySem.W.Frag) : R2 := fun x y H Q => rIxL K x y H Q ∨ (rIxT K x y H Q ∨ rIxS x y H Q)
theorem ce_at {X : Cx} {a b : Expr} {Ma Mb : List Nat} {fa fb : EF} {pos : Pos} (ha : CE X a Ma fa) (hb : CE X b Mb fb) (hs : PlainIx b := by exact fun _ _ => rfl) : CE X (.Subscript a b pos) (Ma ++ Mb) (ixE Mb fa fb) :=
  fun n => pe_of (pe_ix (r := rIxD X.K) (IxR.or ix_list (IxR.or ix_tup ix_str)) (ha n) (hb (n + 1)) hs) fun σ H Q h => by
  obtain ⟨fx, env, ω, d, s, env', R, e, k⟩ := h
  unfold ixE at e
  obtain ⟨⟨d1, s1, env1⟩, e1, h⟩ := Option.bind_eq_some_iff.mp e
  obtain ⟨⟨d2, s2, env2⟩, e2, h⟩ := Option.bind_eq_some_iff.mp h
  split at h
  case isFalse => cases h
  case isTrue hf =>
  simp only at hf h
  refine ⟨fx, env, ω, d1, s1, env1, R, e1, fun v H1 ω1 R1 r1 p1 => ⟨fx, env1, ω1, d2, s2, env2, R1, e2, fun w H2 ω2 R2 r2 p2 => ?_⟩⟩
  have pp : Post (Ma ++ Mb) n ω H ω2 H2 := (p1.mono memL (Nat.le_refl _)).trans (p2.mono memR (Nat.le_succ n))
  have rl := r1.1.post p2 (Src.fresh_ok hf (Nat.lt_succ_self n))
  have gd := Src.good_post p2 hf r1.2
  clear e
  cases d1 with
  | lst z xs =>
    cases d2 with
    | int kk =>
      simp only at h
      obtain ⟨j, ej, h⟩ := Option.bind_eq_some_iff.mp h
      obtain ⟨dj, ed, h⟩ := Option.bind_eq_some_iff.mp h
      simp only [Rep] at rl
      obtain ⟨l, vs, rfl, t, rs⟩ := rl
      obtain ⟨vj, hvj, rj⟩ := rs.get ed
      rw [Nat.zero_add] at rj
      refine .inl ⟨l, vs, kk, vj, rfl, r2.1, t.sq, ?_, ?_⟩
      · unfold atI
        rw [← rs.length, ej]
        exact hvj
      · split at h
        · rename_i hc
          cases h
          exact k _ H2 ω2 R2 ⟨rj.any (Calm.refl _ _) _ hc, trivial⟩ pp
        · cases z with
          | own =>
            cases s1 with
            | tmp => cases h
            | «at» i pt =>
              cases h
              exact k _ H2 ω2 R2 ⟨rj, ⟨l, vs, gd, t, hvj⟩⟩ pp
          | frz => cases h
          | fix => cases h
    | _ => cases h
  | tup xs =>
    cases d2 with
    | int kk =>
      simp only at h
      obtain ⟨dj, ed, h⟩ := Option.bind_eq_some_iff.mp h
      split at h
      · rename_i hc
        cases h
        simp only [Rep] at rl
        obtain ⟨l, vs, rfl, t, rs⟩ := rl
        unfold atI at ed
        obtain ⟨j, ej, ed⟩ := Option.bind_eq_some_iff.mp ed
        obtain ⟨vj, hvj, rj⟩ := rs.get ed
        refine .inr (.inl ⟨l, vs, kk, vj, rfl, r2.1, t.sq, ?_, k _ H2 ω2 R2 ⟨rj.any (Calm.refl _ _) _ hc, trivial⟩ pp⟩)
        unfold atI
        rw [← rs.length, ej]
        exact hvj
      · cases h
    | _ => cases h
  | str z =>
    cases d2 with
    | int kk =>
      simp only at h
      split at h
      · rename_i hz
        obtain ⟨c, ec, h⟩ := Option.map_eq_some_iff.mp h
        cases h
        exact .inr (.inr ⟨z, kk, c, rl, r2.1, hz, ec, k _ H2 ω2 R2 ⟨rfl, trivial⟩ pp⟩)
      · cases h
    | _ => cases h
  | _ => cases h

/-! ### built-in functions -/
def gLen : List D → Option D
  | [.str s] => if s.length ≤ sizeLine then some (.int (s.length : Nat)) else none
  | [.lst _ xs] => some (.int (xs.length : Nat))
  | [.tup xs] => some (.int (xs.length : Nat))
  | _ => none
theorem AnyR.one {d : D} {vs : List V} (h : AnyR K ω H [d] vs) : ∃ v l, vs = [v] ∧ Rep K ω H d v l := by
  cases h with
  | cons r t => cases t; exact ⟨_, _, rfl, r⟩
theorem AnyR.two {d e : D} {vs : List V} (h : AnyR K ω H [d, e] vs) : ∃ v l w m, vs = [v, w] ∧ Rep K ω H d v l ∧ Rep K ω H e w m := by
  cases h with
  | cons r t =>
    cases t with
    | cons r2 t => cases t; exact ⟨_, _, _, _, rfl, r, r2⟩
theorem g_len : Call K (fun xs H Q => ∃ x n, xs = [x] ∧ LenV K x H n ∧ Q (.int n) H) gLen := by
  intro ω H ds vs d n Q r h k
  unfold gLen at h
  split at h
  · obtain ⟨v, l, ev, rr⟩ := r.one
    clear r
    subst ev
    have r := rr
    split at h
    · rename_i hz
      cases h
      cases (show v = _ from r)
      exact ⟨_, _, rfl, ⟨hz, rfl⟩, k _ H ω rfl (Post.refl _ _ _ _)⟩
    · cases h
  · obtain ⟨v, l, ev, rr⟩ := r.one
    clear r
    subst ev
    have r := rr
    cases h
    simp only [Rep] at r
    obtain ⟨a, vs, rfl, t, rs⟩ := r
    exact ⟨_, _, rfl, .inl ⟨vs, t.sq, rs.length⟩, k _ H ω rfl (Post.refl _ _ _ _)⟩
  · obtain ⟨v, l, ev, rr⟩ := r.one
    clear r
    subst ev
    have r := rr
    cases h
    simp only [Rep] at r
    obtain ⟨a, vs, rfl, t, rs⟩ := r
    exact ⟨_, _, rfl, .inr ⟨vs, t.sq, rs.length⟩, k _ H ω rfl (Post.refl _ _ _ _)⟩
  · cases h
def gInt : List D → Option D
  | [.int i] => some (.int i)
  | [.bl b] => some (.int (if b then 1 else 0))
  | [.str s] => if s.length ≤ 640 then (PySem.intText? s).map .int else none
  | _ => none
def rIntD : List V → Hp → VK → Prop := fun xs H Q => ((∃ i, xs = [.int i] ∧ Q (.int i) H) ∨ ∃ k, xs = [.bl k] ∧ Q (.int (if k then 1 else 0)) H) ∨ (∃ a n, xs = [.str a] ∧ PySem.intText? a = some n ∧ a.length ≤ 640 ∧ Q (.int n) H)
theorem call_intD {X : Cx} : CallR X (.type "int") rIntD := CallR.or call_int1 call_int_str
theorem g_int : Call K rIntD gInt := by
  intro ω H ds vs d n Q r h k
  unfold gInt at h
  split at h
  · obtain ⟨v, l, ev, rr⟩ := r.one
    clear r
    subst ev
    have r := rr
    cases h
    cases (show v = _ from r)
    exact .inl (.inl ⟨_, rfl, k _ H ω rfl (Post.refl _ _ _ _)⟩)
  · obtain ⟨v, l, ev, rr⟩ := r.one
    clear r
    subst ev
    have r := rr
    cases h
    cases (show v = _ from r)
    exact .inl (.inr ⟨_, rfl, k _ H ω rfl (Post.refl _ _ _ _)⟩)
  · obtain ⟨v, l, ev, rr⟩ := r.one
    clear r
    subst ev
    have r := rr
    split at h
    · rename_i hz
      obtain ⟨m, hm, rfl⟩ := Option.map_eq_some_iff.mp h
      cases (show v = _ from r)
      exact .inr ⟨_, _, rfl, hm, hz, k _ H ω rfl (Post.refl _ _ _ _)⟩
    · cases h
  · cases h
def gStr : List D → Option D
  | [.int i] => if i.natAbs.log2 < 1920 then some (.str (toString i)) else none
  | _ => none
theorem g_str : Call K (fun xs H Q => ∃ i, xs = [.int i] ∧ i.natAbs.log2 < 1920 ∧ Q (.str (toString i)) H) gStr := by
  intro ω H ds vs d n Q r h k
  unfold gStr at h
  split at h
  · obtain ⟨v, l, ev, rr⟩ := r.one
    clear r
    subst ev
    have r := rr
    split at h
    · rename_i hz
      cases h
      cases (show v = _ from r)
      exact ⟨_, rfl, hz, k _ H ω rfl (Post.refl _ _ _ _)⟩
    · cases h
  · cases h
/-- all(xs), any(xs) of bools and ints -/
def truI : D → Option Bool
  | .bl b => some b
  | .int i => some (i != 0)
  | _ => none
def allI : List D → Option Bool
  | [] => some true
  | d :: ds => (truI d).bind fun b => (allI ds).map fun c => b && c
def anyI : List D → Option Bool
  | [] => some false
  | d :: ds => (truI d).bind fun b => (anyI ds).map fun c => b || c
def gAll : List D → Option D
  | [.lst _ xs] => (allI xs).map .bl
  | _ => none
def gAny : List D → Option D
  | [.lst _ xs] => (anyI xs).map .bl
  | _ => none
def rAllP (K : PySem.W.Frag) : List V → Hp → VK → Prop := fun vs H Q => ∃ (a : Addr) (xs : List V) (ds : List PyData), vs = [V.ref a] ∧ SqL K H a xs ∧ DpAll K H xs ds ∧ PyData.plainAll ds = true ∧ (∀ x ∈ ds, x.fits63) ∧ Q (.bl (ds.all PyData.truthy)) H
def rAnyP (K : PySem.W.Frag) : List V → Hp → VK → Prop := fun vs H Q => ∃ (a : Addr) (xs : List V) (ds : List PyData), vs = [V.ref a] ∧ SqL K H a xs ∧ DpAll K H xs ds ∧ PyData.plainAll ds = true ∧ (∀ x ∈ ds, x.fits63) ∧ Q (.bl (ds.any PyData.truthy)) H
theorem call_allP {X : Cx} (hc : X.calm = true) : CallR X (.builtin "all") (rAllP X.K) := by
  intro pins s σ H vs us Q I r h
  obtain ⟨a, xs, ds, rfl, hs, hd, hp, hf, q⟩ := h
  obtain ⟨its, rv, hl, _⟩ := I.list hs
  rw [Vals.ref1 r]
  obtain ⟨as, hr⟩ := Dp.readsAll I ds xs its hd rv
  exact PySem.W.all_list_data (I.ok.hd hc) hl.isList (by simpa using hr) hp hf fun h' tk hk => ⟨.bl _, H, I.kept hk, rfl, q⟩
theorem call_anyP {X : Cx} (hc : X.calm = true) : CallR X (.builtin "any") (rAnyP X.K) := by
  intro pins s σ H vs us Q I r h
  obtain ⟨a, xs, ds, rfl, hs, hd, hp, hf, q⟩ := h
  obtain ⟨its, rv, hl, _⟩ := I.list hs
  rw [Vals.ref1 r]
  obtain ⟨as, hr⟩ := Dp.readsAll I ds xs its hd rv
  exact PySem.W.any_list_data (I.ok.hd hc) hl.isList (by simpa using hr) hp hf fun h' tk hk => ⟨.bl _, H, I.kept hk, rfl, q⟩
theorem allI_py : ∀ {ds : List D} {b : Bool}, allI ds = some b → PyData.plainAll (pyL ds) = true ∧ (∀ x ∈ pyL ds, x.fits63) ∧ (pyL ds).all PyData.truthy = b
  | [], b, h => by cases h; exact ⟨rfl, fun _ h => (by simp [pyL] at h), rfl⟩
  | d :: ds, b, h => by
    unfold allI at h
    obtain ⟨b1, h1, h⟩ := Option.bind_eq_some_iff.mp h
    obtain ⟨b2, h2, rfl⟩ := Option.map_eq_some_iff.mp h
    obtain ⟨q1, q2, q3⟩ := allI_py h2
    cases d with
    | bl b =>
      cases h1
      refine ⟨by simp only [pyL, D.py, PyData.plainAll, PyData.plain, q1, Bool.and_self], fun x hx => ?_, by simp only [pyL, D.py, List.all_cons, q3, PyData.truthy]⟩
      simp only [pyL, D.py, List.mem_cons] at hx
      rcases hx with rfl | hx
      · trivial
      · exact q2 x hx
    | int i =>
      cases h1
      refine ⟨by simp only [pyL, D.py, PyData.plainAll, PyData.plain, q1, Bool.and_self], fun x hx => ?_, by simp only [pyL, D.py, List.all_cons, q3, PyData.truthy]⟩
      simp only [pyL, D.py, List.mem_cons] at hx
      rcases hx with rfl | hx
      · trivial
      · exact q2 x hx
    | _ => cases h1
theorem anyI_py : ∀ {ds : List D} {b : Bool}, anyI ds = some b → PyData.plainAll (pyL ds) = true ∧ (∀ x ∈ pyL ds, x.fits63) ∧ (pyL ds).any PyData.truthy = b
  | [], b, h => by cases h; exact ⟨rfl, fun _ h => (by simp [pyL] at h), rfl⟩
  | d :: ds, b, h => by
    unfold anyI at h
    obtain ⟨b1, h1, h⟩ := Option.bind_eq_some_iff.mp h
    obtain ⟨b2, h2, rfl⟩ := Option.map_eq_some_iff.mp h
    obtain ⟨q1, q2, q3⟩ := anyI_py h2
    cases d with
    | bl b =>
      cases h1
      refine ⟨by simp only [pyL, D.py, PyData.plainAll, PyData.plain, q1, Bool.and_self], fun x hx => ?_, by simp only [pyL, D.py, List.any_cons, q3, PyData.truthy]⟩
      simp only [pyL, D.py, List.mem_cons] at hx
      rcases hx with rfl | hx
      · trivial
      · exact q2 x hx
    | int i =>
      cases h1
      refine ⟨by simp only [pyL, D.py, PyData.plainAll, PyData.plain, q1, Bool.and_self], fun x hx => ?_, by simp only [pyL, D.py, List.any_cons, q3, PyData.truthy]⟩
      simp only [pyL, D.py, List.mem_cons] at hx
      rcases hx with rfl | hx
      · trivial
      · exact q2 x hx
    | _ => cases h1
theorem g_all : Call K (rAllP K) gAll := by
  intro ω H ds vs d n Q r h k
  unfold gAll at h
  split at h
  · obtain ⟨v, l, ev, rr⟩ := r.one
    clear r
    subst ev
    have r := rr
    obtain ⟨b, hb, rfl⟩ := Option.map_eq_some_iff.mp h
    simp only [Rep] at r
    obtain ⟨a, ws, rfl, t, rs⟩ := r
    obtain ⟨q1, q2, q3⟩ := allI_py hb
    exact ⟨a, ws, _, rfl, t.sq, Reps.py rs, q1, q2, by rw [q3]; exact k _ H ω rfl (Post.refl _ _ _ _)⟩
  · cases h
theorem g_any : Call K (rAnyP K) gAny := by
  intro ω H ds vs d n Q r h k
  unfold gAny at h
  split at h
  · obtain ⟨v, l, ev, rr⟩ := r.one
    clear r
    subst ev
    have r := rr
    obtain ⟨b, hb, rfl⟩ := Option.map_eq_some_iff.mp h
    simp only [Rep] at r
    obtain ⟨a, ws, rfl, t, rs⟩ := r
    obtain ⟨q1, q2, q3⟩ := anyI_py hb
    exact ⟨a, ws, _, rfl, t.sq, Reps.py rs, q1, q2, by rw [q3]; exact k _ H ω rfl (Post.refl _ _ _ _)⟩
  · cases h
/-- ints -/
def intsOf : List D → Option (List Int)
  | [] => some []
  | .int i :: ds => (intsOf ds).map fun is => i :: is
  | _ => none
theorem intsOf_eq : ∀ {ds : List D} {is : List Int}, intsOf ds = some is → ds = is.map .int
  | [], is, h => by cases h; rfl
  | .int i :: ds, is, h => by
    unfold intsOf at h
    obtain ⟨js, h1, rfl⟩ := Option.map_eq_some_iff.mp h
    rw [List.map_cons, ← intsOf_eq h1]
  | .non :: ds, is, h => by cases h
  | .bl _ :: ds, is, h => by cases h
  | .str _ :: ds, is, h => by cases h
  | .tup _ :: ds, is, h => by cases h
  | .lst _ _ :: ds, is, h => by cases h
theorem Reps.ints : ∀ {is : List Int} {vs : List V} {l : VC.Loc} {k : Nat}, Reps K ω H (is.map .int) vs l k → vs = is.map .int
  | [], _, _, _, h => by cases (show _ = _ from h); rfl
  | i :: is, _, _, _, h => by
    simp only [List.map_cons, Reps] at h
    obtain ⟨v, vs', rfl, r, rs⟩ := h
    rw [Reps.ints rs]
    cases (show v = _ from r)
    rfl
def maxI : List Int → Int
  | [] => 0
  | [i] => i
  | i :: is => max i (maxI is)
def minI : List Int → Int
  | [] => 0
  | [i] => i
  | i :: is => min i (minI is)
theorem maxI_ge : ∀ {is : List Int} {i : Int}, i ∈ is → i ≤ maxI is
  | [j], i, h => by simp at h; subst h; exact Int.le_refl _
  | j :: k :: is, i, h => by
    show i ≤ max j (maxI (k :: is))
    rcases List.mem_cons.mp h with rfl | h
    · omega
    · have := maxI_ge h; omega
theorem minI_le : ∀ {is : List Int} {i : Int}, i ∈ is → minI is ≤ i
  | [j], i, h => by simp at h; subst h; exact Int.le_refl _
  | j :: k :: is, i, h => by
    show min j (minI (k :: is)) ≤ i
    rcases List.mem_cons.mp h with rfl | h
    · omega
    · have := minI_le h; omega
theorem maxI_mem : ∀ {is : List Int}, is ≠ [] → maxI is ∈ is
  | [j], _ => by simp [maxI]
  | j :: k :: is, _ => by
    have ih := maxI_mem (is := k :: is) (by simp)
    show max j (maxI (k :: is)) ∈ j :: k :: is
    by_cases h : j ≤ maxI (k :: is)
    · rw [show max j (maxI (k :: is)) = maxI (k :: is) by omega]; exact List.mem_cons_of_mem _ ih
    · rw [show max j (maxI (k :: is)) = j by omega]; exact List.mem_cons_self
theorem minI_mem : ∀ {is : List Int}, is ≠ [] → minI is ∈ is
  | [j], _ => by simp [minI]
  | j :: k :: is, _ => by
    have ih := minI_mem (is := k :: is) (by simp)
    show min j (minI (k :: is)) ∈ j :: k :: is
    by_cases h : minI (k :: is) ≤ j
    · rw [show min j (minI (k :: is)) = minI (k :: is) by omega]; exact List.mem_cons_of_mem _ ih
    · rw [show min j (minI (k :: is)) = j by omega]; exact List.mem_cons_self
def gMax1 : List D → Option D
  | [.lst _ xs] => (intsOf xs).bind fun is => if is = [] then none else some (.int (maxI is))
  | _ => none
def gMin1 : List D → Option D
  | [.lst _ xs] => (intsOf xs).bind fun is => if is = [] then none else some (.int (minI is))
  | _ => none
theorem g_max1 : Call K (rMax K) gMax1 := by
  intro ω H ds vs d n Q r h k
  unfold gMax1 at h
  split at h
  · obtain ⟨v, l, ev, rr⟩ := r.one
    clear r
    subst ev
    have r := rr
    obtain ⟨is, hi, h⟩ := Option.bind_eq_some_iff.mp h
    split at h
    · cases h
    · rename_i hne
      cases h
      simp only [Rep] at r
      obtain ⟨a, ws, rfl, t, rs⟩ := r
      rw [intsOf_eq hi] at rs
      have e := rs.ints
      subst e
      refine ⟨a, is, rfl, t.sq, List.length_pos_iff.mpr hne, fun m h1 h2 => ?_⟩
      have : m = maxI is := Int.le_antisymm (maxI_ge h1) (h2 _ (maxI_mem hne))
      rw [this]
      exact k _ H ω rfl (Post.refl _ _ _ _)
  · cases h
theorem g_min1 : Call K (rMin K) gMin1 := by
  intro ω H ds vs d n Q r h k
  unfold gMin1 at h
  split at h
  · obtain ⟨v, l, ev, rr⟩ := r.one
    clear r
    subst ev
    have r := rr
    obtain ⟨is, hi, h⟩ := Option.bind_eq_some_iff.mp h
    split at h
    · cases h
    · rename_i hne
      cases h
      simp only [Rep] at r
      obtain ⟨a, ws, rfl, t, rs⟩ := r
      rw [intsOf_eq hi] at rs
      have e := rs.ints
      subst e
      refine ⟨a, is, rfl, t.sq, List.length_pos_iff.mpr hne, fun m h1 h2 => ?_⟩
      have : m = minI is := Int.le_antisymm (h2 _ (minI_mem hne)) (minI_le h1)
      rw [this]
      exact k _ H ω rfl (Post.refl _ _ _ _)
  · cases h
def gList : List D → Option D
  | [.lst _ xs] => if coldL xs = true then some (.lst .own xs) else none
  | [.tup xs] => if coldL xs = true then some (.lst .own xs) else none
  | _ => none
theorem g_list : Call K (fun xs H Q => ∃ p ys, xs = [.ref p] ∧ (SqL K H p ys ∨ SqT K H p ys) ∧ ∀ l, H l = none → Q (.ref l) (upd H l (.lst ys))) gList := by
  intro ω H ds vs d n Q r h k
  unfold gList at h
  split at h
  · obtain ⟨v, l, ev, rr⟩ := r.one
    clear r
    subst ev
    have r := rr
    split at h
    · rename_i hc
      cases h
      simp only [Rep] at r
      obtain ⟨a, ws, rfl, t, rs⟩ := r
      exact ⟨a, ws, rfl, .inl t.sq, newL rs hc k⟩
    · cases h
  · obtain ⟨v, l, ev, rr⟩ := r.one
    clear r
    subst ev
    have r := rr
    split at h
    · rename_i hc
      cases h
      simp only [Rep] at r
      obtain ⟨a, ws, rfl, t, rs⟩ := r
      exact ⟨a, ws, rfl, .inr t.sq, newL rs hc k⟩
    · cases h
  · cases h

/-! ### isinstance(x, T) -/
def tyName : D → String
  | .non => "NoneType" | .bl _ => "bool" | .int _ => "int" | .str _ => "str" | .tup _ => "tuple" | .lst _ _ => "list"
theorem ty_rep {d : D} {v : V} (r : Rep K ω H d v l) : TyX K H v (.type (tyName d)) := by
  cases d with
  | non => cases (show v = _ from r); exact .base .non
  | bl _ => cases (show v = _ from r); exact .base (.bl _)
  | int _ => cases (show v = _ from r); exact .base (.int _)
  | str _ => cases (show v = _ from r); exact .base (.str _)
  | tup xs =>
    simp only [Rep] at r
    obtain ⟨a, vs, rfl, t, rs⟩ := r
    rcases t with (t | ⟨o, t⟩) | ⟨o, its, n, h1, h2, _⟩
    · exact .base (.tup t)
    · exact .fTuple t
    · exact .kTuple h1 h2
  | lst z xs =>
    simp only [Rep] at r
    obtain ⟨a, vs, rfl, t, rs⟩ := r
    cases z with
    | own => exact .base (.lst t.1)
    | frz => exact .base (.lst t.1)
    | fix =>
      rcases t with ⟨o, t⟩ | ⟨o, its, n, h1, h2, _⟩
      · exact .base (.frz t)
      · exact .kList h1 h2
def isiE (T : String) (fa : EF) : EF := fun env => (fa env).bind fun p => (kitB (tyName p.1) T).map fun b => (.bl b, .tmp, p.2.2)
theorem ce_isi {X : Cx} {a : Expr} {Ma : List Nat} {fa : EF} {p p2 pos : Pos} {T : String} {x : Str} (hg : Gl X "isinstance") (hm : X.mg "isinstance" = none) (hgT : Gl X x) (hmT : X.mg x = none) (hv : bootBuiltins x = some (.type T)) (hv2 : bootBuiltins "isinstance" = some (.builtin "isinstance")) (ha : CE X a Ma fa)
    (hn : x ≠ "__name__" := by decide) (hd : (x == ("__debug__" : Str)) = false := by decide)
    (hs1 : starEach [a, .Name x p2] X.env = (false, eval a X.env) :: starEach [.Name x p2] X.env := by rfl) (hpl : (backTo pos (starEach [.Name x p2] X.env)).any (·.1) = false := by rfl) :
    CE X (.Call (.Name "isinstance" p) [a, .Name x p2] [] pos) Ma (isiE T fa) := fun n =>
  pe_of (pe_callB call_isi hg hm hv2 (pa_cons (ha n) (pa_cons (pe_bltn (v := .ty T) hgT hmT hv rfl hn hd) pa_nil) hs1) (by decide) (by decide) hs1 hpl) fun σ H Q h => by
  obtain ⟨fx, env, ω, d, s, env', R, e, k⟩ := h
  unfold isiE at e
  obtain ⟨⟨d1, s1, env1⟩, e1, h⟩ := Option.bind_eq_some_iff.mp e
  obtain ⟨b, hb, h⟩ := Option.map_eq_some_iff.mp h
  simp only [Prod.mk.injEq] at h
  obtain ⟨rfl, rfl, rfl⟩ := h
  exact ⟨fx, env, ω, d1, s1, _, R, e1, fun v H1 ω1 R1 r1 p1 => ⟨v, .ty T, .type (tyName d1), .type T, b, rfl, .ty T, ty_rep r1.1, hb, k _ H1 ω1 R1 ⟨rfl, trivial⟩ p1⟩⟩

/-! ### methods -/
def strsOf : List D → Option (List Str)
  | [] => some []
  | .str i :: ds => (strsOf ds).map fun is => i :: is
  | _ => none
theorem strsOf_eq : ∀ {ds : List D} {is : List Str}, strsOf ds = some is → ds = is.map .str
  | [], is, h => by cases h; rfl
  | .str i :: ds, is, h => by
    unfold strsOf at h
    obtain ⟨js, h1, rfl⟩ := Option.map_eq_some_iff.mp h
    rw [List.map_cons, ← strsOf_eq h1]
  | .non :: ds, is, h => by cases h
  | .bl _ :: ds, is, h => by cases h
  | .int _ :: ds, is, h => by cases h
  | .tup _ :: ds, is, h => by cases h
  | .lst _ _ :: ds, is, h => by cases h
theorem Reps.strs : ∀ {is : List Str} {vs : List V} {l : VC.Loc} {k : Nat}, Reps K ω H (is.map .str) vs l k → vs = is.map .str
  | [], _, _, _, h => by cases (show _ = _ from h); rfl
  | i :: is, _, _, _, h => by
    simp only [List.map_cons, Reps] at h
    obtain ⟨v, vs', rfl, r, rs⟩ := h
    rw [Reps.strs rs]
    cases (show v = _ from r)
    rfl
def joinD (a : Str) (xs : List D) : Option D := (strsOf xs).bind fun ys => if (ys.map (·.length)).sum + ys.length * a.length ≤ 16777216 then some (.str (Txt.join a ys)) else none
def gJoin : D → List D → Option D
  | .str a, [.lst _ xs] => joinD a xs
  | .str a, [.tup xs] => joinD a xs
  | _, _ => none
theorem g_join : Meth K "str" (fun x xs H Q => ∃ a p, ∃ ys : List Str, x = .str a ∧ xs = [.ref p] ∧ (SqL K H p (ys.map V.str) ∨ SqT K H p (ys.map V.str)) ∧ (ys.map (·.length)).sum + ys.length * a.length ≤ 16777216 ∧ Q (.str (Txt.join a ys)) H) gJoin := by
  intro ω H d1 v1 l1 ds vs d n Q r1 r h k
  unfold gJoin at h
  split at h
  · obtain ⟨v, l, ev, rr⟩ := r.one
    clear r
    subst ev
    have r := rr
    unfold joinD at h
    obtain ⟨ys, hy, h⟩ := Option.bind_eq_some_iff.mp h
    split at h
    · rename_i hz
      cases h
      simp only [Rep] at r
      obtain ⟨a, ws, rfl, t, rs⟩ := r
      rw [strsOf_eq hy] at rs
      have e := rs.strs
      subst e
      exact ⟨_, a, ys, r1, rfl, .inl t.sq, hz, k _ H ω rfl (Post.refl _ _ _ _)⟩
    · cases h
  · obtain ⟨v, l, ev, rr⟩ := r.one
    clear r
    subst ev
    have r := rr
    unfold joinD at h
    obtain ⟨ys, hy, h⟩ := Option.bind_eq_some_iff.mp h
    split at h
    · rename_i hz
      cases h
      simp only [Rep] at r
      obtain ⟨a, ws, rfl, t, rs⟩ := r
      rw [strsOf_eq hy] at rs
      have e := rs.strs
      subst e
      exact ⟨_, a, ys, r1, rfl, .inr t.sq, hz, k _ H ω rfl (Post.refl _ _ _ _)⟩
    · cases h
  · cases h
def gSIndex : D → List D → Option D
  | .str a, [.str b] => match Builtin.Str.occurrences a b 0 a.length 1 with
    | i :: _ => some (.int (i : Nat))
    | [] => none
  | _, _ => none
theorem g_sindex : Meth K "str" (fun x xs H Q => ∃ a b i rest, x = .str a ∧ xs = [.str b] ∧ Builtin.Str.occurrences a b 0 a.length 1 = i :: rest ∧ Q (.int (i : Nat)) H) gSIndex := by
  intro ω H d1 v1 l1 ds vs d n Q r1 r h k
  unfold gSIndex at h
  split at h
  · obtain ⟨v, l, ev, rr⟩ := r.one
    clear r
    subst ev
    have r := rr
    cases (show v = _ from r)
    split at h
    · rename_i i rest he
      cases h
      exact ⟨_, _, i, rest, r1, rfl, he, k _ H ω rfl (Post.refl _ _ _ _)⟩
    · cases h
  · cases h
/-- the first place of a flat item -/
def firstAt (y : D) : List D → Option Nat
  | [] => none
  | x :: xs => if eqV (toV x) (toV y) = true then some 0 else (firstAt y xs).map (· + 1)
theorem firstAt_some : ∀ {y : D} {xs : List D} {j : Nat}, firstAt y xs = some j → ∃ z, xs[j]? = some z ∧ eqV (toV z) (toV y) = true ∧ ∀ m z', m < j → xs[m]? = some z' → eqV (toV z') (toV y) = false
  | y, x :: xs, j, h => by
    unfold firstAt at h
    split at h
    · rename_i he
      cases h
      exact ⟨x, rfl, he, fun m _ hm => absurd hm (Nat.not_lt_zero m)⟩
    · rename_i he
      obtain ⟨i, hi, rfl⟩ := Option.map_eq_some_iff.mp h
      obtain ⟨z, h1, h2, h3⟩ := firstAt_some hi
      refine ⟨z, by simpa using h1, h2, fun m z' hm hz => ?_⟩
      cases m with
      | zero => simp at hz; subst hz; simpa using he
      | succ m => exact h3 m z' (by omega) (by simpa using hz)
def gLIndex : D → List D → Option D
  | .lst _ xs, [y] => if flatD y = true ∧ xs.all flatD = true then (firstAt y xs).map fun (j : Nat) => .int j else none
  | _, _ => none
theorem g_lindex : Meth K "list" (rIndex K) gLIndex := by
  intro ω H d1 v1 l1 ds vs d n Q r1 r h k
  unfold gLIndex at h
  split at h
  · obtain ⟨v, l, ev, rr⟩ := r.one
    clear r
    subst ev
    have r := rr
    split at h
    · rename_i hf
      obtain ⟨j, hj, rfl⟩ := Option.map_eq_some_iff.mp h
      simp only [Rep] at r1
      obtain ⟨a, ws, rfl, t, rs⟩ := r1
      obtain ⟨e1, e2⟩ := flat_rep r hf.1
      obtain ⟨e3, e4⟩ := flat_reps rs hf.2
      obtain ⟨z, h1, h2, h3⟩ := firstAt_some hj
      refine ⟨a, ws, v, j, toV z, rfl, rfl, t.sq, e2, e4, by rw [e3, List.getElem?_map, h1]; rfl, by rw [e1]; exact h2, fun m z' hm hz => ?_, k _ H ω rfl (Post.refl _ _ _ _)⟩
      rw [e3, List.getElem?_map] at hz
      obtain ⟨z0, hz0, rfl⟩ := Option.map_eq_some_iff.mp hz
      rw [e1]
      exact h3 m z0 hm hz0
    · cases h
  · cases h

/-! ### list methods that change -/
noncomputable def gPopAt : List D → List D → Option (List D × D)
  | xs, [.int i] => if small63 i = true then (seqIndex? i xs.length).bind fun k => (xs[k]?).map fun y => (xs.eraseIdx k, y) else none
  | _, _ => none
theorem g_popAt : MutC K rPopAt gPopAt := by
  intro ω H a vs xs ds ws xs' d lc Q ha rs hc r hd h k
  unfold gPopAt at h
  split at h
  · obtain ⟨v, l, ev, rr⟩ := r.one
    clear r
    subst ev
    have r := rr
    cases (show v = _ from r)
    split at h
    · rename_i hb0
      have hb := grd_iff.mp hb0
      obtain ⟨j, hj, h⟩ := Option.bind_eq_some_iff.mp h
      obtain ⟨y, hy, h⟩ := Option.map_eq_some_iff.mp h
      cases h
      obtain ⟨u, hu, ru⟩ := rs.get hy
      exact ⟨a, vs, _, j, u, rfl, rfl, ha, hb.1, hb.2, by rw [← rs.length]; exact hj, hu, k u _ ((rs.anyR.eraseIdx j).reps _ _ (coldL_eraseIdx hc j)) (coldL_eraseIdx hc j) (ru.any (Calm.refl _ _) _ (coldL_mem hc _ (List.mem_of_getElem? hy))) (coldL_mem hc _ (List.mem_of_getElem? hy))⟩
    · cases h
  · cases h
noncomputable def gInsert : List D → List D → Option (List D × D)
  | xs, [.int i, y] => if xs.length < sizeLine ∧ 0 ≤ i ∧ small63 i = true then some (xs.take i.toNat ++ [y] ++ xs.drop i.toNat, .non) else none
  | _, _ => none
theorem g_insert : MutC K (fun x vs H Q => ∃ (l : Addr) (xs : List V) (i : Int) (y : V), x = .ref l ∧ vs = [.int i, y] ∧ H l = some (.lst xs) ∧ xs.length < sizeLine ∧ 0 ≤ i ∧ i < 2 ^ 63 ∧ Q .non (upd H l (.lst (xs.take i.toNat ++ [y] ++ xs.drop i.toNat)))) gInsert := by
  intro ω H a vs xs ds ws xs' d lc Q ha rs hc r hd h k
  unfold gInsert at h
  split at h
  · rename_i i y
    obtain ⟨v, l, w, m, rfl, r1, r2⟩ := r.two
    cases (show v = _ from r1)
    split at h
    · rename_i hb
      cases h
      have hy : y.cold = true := coldL_mem hd y (by simp)
      have hcold : coldL (xs.take i.toNat ++ [y] ++ xs.drop i.toNat) = true := by rw [coldL_append, coldL_append, coldL_take hc, coldL_drop hc]; simp [coldL, hy]
      refine ⟨a, vs, _, w, rfl, rfl, ha, by rw [← rs.length]; exact hb.1, hb.2.1, (grd_iff.mp hb.2.2).2, k .non _ (AnyR.reps _ _ hcold ?_) hcold rfl rfl⟩
      exact ((rs.anyR.take _).append (.cons r2 .nil)).append (rs.anyR.drop _)
    · cases h
  · cases h
end
end VC

set_option Elab.async false
set_option linter.all false
set_option maxRecDepth 100000
/-! VCC: y = [..]; a[i], b[j] = e. -/
namespace VC
open PySem PySem.Spec PyProof.Rows L2

section
variable {X : Cx} {a b c o e tg elt iter o1 i1 o2 i2 : Expr} {es ifs : List Expr} {P M Ma Mb Mc Mt Me Mi Mo Mx Mo1 Mx1 Mo2 Mx2 : List Nat} {fa fb fe fo fi fo1 fi1 fo2 fi2 : EF} {tc : TF} {pos : Pos}
theorem cs_setLc {i : Nat} {y : Str} {py spos : Pos} {scope : Scope} {own : List (Str × Nat)} {g : TG} {S : List Nat} {bd : D → Env → Option Env} {fi : IF} (Mc : List Nat) (hc : X.calm = true) (hN : X.N.Nodup) (hy : X.N[i]? = some y) (hyl : X.env.scope.names.lookup y = some .local)
    (hsw : swapsWith (.ListComp elt [⟨tg, iter, ifs, 0⟩] scope pos) (some (.Name y py)) spos.line X.env = pure true) (hi : CI X tg iter Ma fi) (ok : BlkOk X.N X.env.scope scope own)
    (hg : ∀ (s : Shared) (H : Hp) (C : Addr) (cl : List (Str × Addr)) (fp : List Addr), CG (X.blk s H scope (compEnvC scope cl C X.env) fp) tg g [] S bd)
    (ht : ∀ (s : Shared) (H : Hp) (C : Addr) (cl : List (Str × Addr)) (fp : List Addr), CTs (X.blk s H scope (compEnvC scope cl C X.env) fp) ifs Mt tc)
    (he : ∀ (s : Shared) (H : Hp) (C : Addr) (cl : List (Str × Addr)) (fp : List Addr), CE (X.blk s H scope (compEnvC scope cl C X.env) fp) elt Me fe)
    (hS : (S.all fun i => decide (i ∈ own.map (·.2))) = true) (hv : ((own.map (·.2)).all fun i => decide (i ∉ Mt ++ (Me ++ Mc))) = true) (hs : ∀ x, foldedSetIterable iter X.env x = pure x := by intro _; rfl) :
    CS X (.Assign [.Name y py] (.ListComp elt [⟨tg, iter, ifs, 0⟩] scope pos) spos) P ((Ma ++ (Mt ++ (Me ++ Mc))) ++ []) (asgS i P [] (compE (own.map (·.2)) (Mt ++ (Me ++ Mc)) Mc bd fi tc fe)) := fun n => ⟨fun pins s σ H Dn I h => by
  refine (ps_setLc (tt := tT X.K Mt (n + 2) tc) (te := tE X.K Me (n + 2) fe) hc hN hy hyl hsw (hi n) ok (fun s H C cl fp => (hg s H C cl fp).pg) (fun s H C cl fp => ht s H C cl fp (n + 2)) (fun s H C cl fp => he s H C cl fp (n + 2)) hs).run pins s σ H Dn I ?_
  obtain ⟨fx, env, ω, r, hP, R, e, k⟩ := h
  unfold asgS at e
  obtain ⟨⟨d, s0, env1⟩, e1, h⟩ := Option.bind_eq_some_iff.mp e
  obtain ⟨⟨d', env2⟩, e2, h⟩ := Option.bind_eq_some_iff.mp h
  split at h
  case isFalse => cases h
  case isTrue hcc =>
  cases h
  refine tLc_of (K := X.K) ((hg s H 0 [] []).ok) (fun i hi => of_decide_eq_true (List.all_eq_true.mp hS i hi)) (fun i hi => of_decide_eq_true (List.all_eq_true.mp hv i hi)) n ⟨fx, env, ω, d, s0, env1, R, e1, fun v H1 ω1 R1 r1 p1 => ?_⟩
  obtain ⟨ω2, R2, r2, p2⟩ := take1_rep (Mc := []) (m := n) ⟨.slot i, []⟩ R1 r1.1 e2
  exact k _ H1 ω2 (R2.set (by rw [hP]; exact hcc.2) (by rw [← R2.len]; exact hcc.1) r2) ((p1.mono memL (Nat.le_refl _)).trans (p2.mono memR (Nat.le_refl _)))⟩

/-- a[i] = d, d owning nothing -/
def setV (Mi Mx : List Nat) (fo fi : EF) (d : D) : Env → Option Env := fun env => (fo env).bind fun q => match q with
  | (.lst .own xs, .at i pt, env2) => (fi env2).bind fun r => match r with
    | (.int k, _, env3) => (ixN xs.length k).bind fun j => if d.cold = true ∧ i ∈ Mi ∧ i ∉ Mx then env3.putAt i pt (.lst .own (xs.set j d)) else none
    | _ => none
  | _ => none
theorem Reps.setC {K : PySem.W.Frag} {ω : Own} {H : Hp} {l : VC.Loc} {d : D} {v : V} : ∀ {xs : List D} {us : List V} {kk j : Nat}, Reps K ω H xs us l kk → Rep K ω H d v (l.sub (kk + j)) → Reps K ω H (xs.set j d) (us.set j v) l kk := by
  intro xs
  induction xs with
  | nil => intro us kk j h _; cases (show us = [] from h); simpa using (show Reps K ω H [] [] l kk from rfl)
  | cons x xs ih =>
    intro us kk j h hr
    simp only [Reps] at h
    obtain ⟨y, ys, rfl, h1, h2⟩ := h
    cases j with
    | zero => simp only [List.set_cons_zero, Reps]; exact ⟨v, ys, rfl, hr, h2⟩
    | succ j => simp only [List.set_cons_succ, Reps]; exact ⟨y, _, rfl, h1, ih h2 (by rw [show kk + 1 + j = kk + (j + 1) by omega]; exact hr)⟩
theorem setV_ok {n : Nat} {K : PySem.W.Frag} {fx : List (Nat × V)} {env env' : Env} {ω : Own} {σ : L2.St} {H : Hp} {d : D} {v : V} {l : VC.Loc} {Q : L2.St → Hp → Prop} (R : Rel K fx env ω σ H) (r : Rep K ω H d v l) (h : setV Mi Mx fo fi d env = some env')
    (q : ∀ H' ω', Rel K fx env' ω' σ H' → Post (Mo ++ (Mx ++ Mi)) n ω H ω' H' → Q σ H') : L2.gSub (tE K Mo n fo) (tE K Mx (n + 1) fi) rSetL v σ H Q := by
  unfold setV at h
  obtain ⟨⟨d2, s2, env2⟩, e2, h⟩ := Option.bind_eq_some_iff.mp h
  cases d2 with
  | lst z xs =>
    cases z with
    | own =>
      cases s2 with
      | tmp => cases h
      | «at» i pt =>
        simp only at h
        obtain ⟨⟨d3, s3, env3⟩, e3, h⟩ := Option.bind_eq_some_iff.mp h
        cases d3 with
        | int kk =>
          simp only at h
          obtain ⟨j, ej, h⟩ := Option.bind_eq_some_iff.mp h
          split at h
          case isFalse => cases h
          case isTrue hc =>
          obtain ⟨hcold, hi, hix⟩ := hc
          refine ⟨fx, env, ω, _, _, _, R, e2, fun u H2 ω2 R2 r2 p2 => ⟨fx, _, ω2, _, _, _, R2, e3, fun w H3 ω3 R3 r3 p3 => ?_⟩⟩
          have rv := (r.any (p2.calm) ⟨.out, []⟩ hcold).any p3.calm ((Loc.mk (.slot i) pt).sub j) hcold
          have rl := r2.1.post p3 (show (Loc.mk (.slot i) pt).ok Mx (n + 1) from hix)
          have vp : VP ω3 H3 σ i pt u := VP.post p3 hix r2.2
          simp only [Rep] at rl
          obtain ⟨l, us, rfl, hl, rs⟩ := rl
          have hl' : LstW ω3 H3 l us ⟨.slot i, pt⟩ := hl
          have cg : Chg n l ω3 H3 ω3 (upd H3 l (.lst (us.set j v))) := Chg.upd
          refine ⟨l, us, kk, j, rfl, r3.1, hl'.1, by rw [← rs.length]; exact ej, q _ ω3 (R3.putAt vp hl' cg ?_ h) ?_⟩
          · simp only [Rep]
            exact ⟨l, us.set j v, rfl, ⟨upd_same, hl'.2⟩, Reps.setC (Reps.chg cg hl' rs) (by rw [Nat.zero_add]; exact rv.any (cg.calm hl') _ hcold)⟩
          · exact (p2.mono memL (Nat.le_refl _)).trans ((p3.mono (fun i hi => memR i (memL i hi)) (Nat.le_succ n)).trans (cg.post hl' ⟨i, rfl, memR i (memR i hi)⟩))
        | _ => cases h
    | _ => cases h
  | _ => cases h
def swapS (Mi1 Mx1 Mi2 Mx2 : List Nat) (fo1 fi1 fo2 fi2 fe : EF) : SF := fun env => (fe env).bind fun p => match p.1 with
  | .tup [d1, d2] => if d1.cold = true ∧ d2.cold = true then (setV Mi1 Mx1 fo1 fi1 d1 p.2.2).bind fun env1 => (setV Mi2 Mx2 fo2 fi2 d2 env1).map .nx else none
  | _ => none
theorem cs_swap {p1 p2 tp : Pos} {k : Nat} (Mi1 Mi2 : List Nat) (hc : X.calm = true) (he : CE X e Ma fe) (ho1 : CE X o1 Mo1 fo1) (hi1 : CE X i1 Mx1 fi1) (ho2 : CE X o2 Mo2 fo2) (hi2 : CE X i2 Mx2 fi2)
    (ha1 : ∀ v, assign (.Subscript o1 i1 p1) X.env v = (do
      let ov ← holding [v] (eval o1 X.env)
      let iv ← holding [v, ov] (eval i1 X.env)
      standAt p1
      holding [v, ov, iv] (setItem ov iv v)
      release [v, ov, iv] []) := by intro _; rfl)
    (ha2 : ∀ v, assign (.Subscript o2 i2 p2) X.env v = (do
      let ov ← holding [v] (eval o2 X.env)
      let iv ← holding [v, ov] (eval i2 X.env)
      standAt p2
      holding [v, ov, iv] (setItem ov iv v)
      release [v, ov, iv] []) := by intro _; rfl)
    (hs1 : List.map (fun x => x.snd) (assignEach [.Subscript o1 i1 p1, .Subscript o2 i2 p2] X.env) = assign (.Subscript o1 i1 p1) X.env :: List.map (fun x => x.snd) (assignEach [.Subscript o2 i2 p2] X.env) := by rfl)
    (hs2 : List.map (fun x => x.snd) (assignEach [.Subscript o2 i2 p2] X.env) = assign (.Subscript o2 i2 p2) X.env :: List.map (fun x => x.snd) (assignEach [] X.env) := by rfl)
    (hn : (assignEach [.Subscript o1 i1 p1, .Subscript o2 i2 p2] X.env).length = 2 := by rfl) (hst : (assignEach [.Subscript o1 i1 p1, .Subscript o2 i2 p2] X.env).findIdx? (·.1) = none := by rfl)
    (hs : swapsWithSole [.Tuple [.Subscript o1 i1 p1, .Subscript o2 i2 p2] k tp] e pos.line X.env = pure false := by rfl) (hw : swappedStores [.Tuple [.Subscript o1 i1 p1, .Subscript o2 i2 p2] k tp] e X.env = pure none := by rfl)
    (h1 : List.map (fun x => x.snd) (assignEach [.Tuple [.Subscript o1 i1 p1, .Subscript o2 i2 p2] k tp] X.env) = [assign (.Tuple [.Subscript o1 i1 p1, .Subscript o2 i2 p2] k tp) X.env] := by rfl) :
    CS X (.Assign [.Tuple [.Subscript o1 i1 p1, .Subscript o2 i2 p2] k tp] e pos) P (Ma ++ ((Mo1 ++ (Mx1 ++ Mi1)) ++ (Mo2 ++ (Mx2 ++ Mi2)))) (swapS Mi1 Mx1 Mi2 Mx2 fo1 fi1 fo2 fi2 fe) := fun n =>
  ps_of (ps_asg (he n) (pg_tup hc (pgs_cons (pg_sub (ho1 (n + 1)) (hi1 (n + 2)) set_list ha1) (pgs_cons (pg_sub (ho2 (n + 1)) (hi2 (n + 2)) set_list ha2) pgs_nil hs2) hs1) hn hst) hs hw h1) fun Dn σ H h => by
    obtain ⟨fx, env, ω, r, hP, R, e, k⟩ := h
    unfold swapS at e
    obtain ⟨⟨d, s, env1⟩, e1, h⟩ := Option.bind_eq_some_iff.mp e
    simp only at h
    split at h
    case h_2 => cases h
    case h_1 d1 d2 =>
    split at h
    case isFalse => cases h
    case isTrue hc =>
    obtain ⟨env2, e2, h⟩ := Option.bind_eq_some_iff.mp h
    obtain ⟨env3, e3, h⟩ := Option.map_eq_some_iff.mp h
    cases h
    refine ⟨fx, env, ω, _, s, env1, R, e1, fun v H1 ω1 R1 r1 p1 => ?_⟩
    have r := r1.1
    simp only [Rep, Reps] at r
    obtain ⟨a, vs, rfl, ht, v1, vs1, rfl, ra, v2, vs2, rfl, rb, rfl⟩ := r
    refine ⟨a, [v1, v2], rfl, ht.sq, rfl, v1, [v2], rfl, ?_⟩
    refine setV_ok (Mo := Mo1) (Mx := Mx1) (n := n + 1) R1 ra e2 fun H2 ω2 R2 p2 => ?_
    refine ⟨v2, [], rfl, ?_⟩
    refine setV_ok (Mo := Mo2) (Mx := Mx2) (n := n + 1) R2 (rb.any p2.calm ⟨.out, []⟩ hc.2) e3 fun H3 ω3 R3 p3 => ?_
    exact ⟨rfl, k σ H3 ω3 R3 ((p1.mono memL (Nat.le_refl _)).trans ((p2.mono (fun i hi => memR i (memL i hi)) (Nat.le_succ n)).trans (p3.mono (fun i hi => memR i (memR i hi)) (Nat.le_succ n))))⟩
/-- a if t else b as a test -/
def ifT (t fa fb : TF) : TF := fun env => (t env).bind fun p => if p.1 = true then fa p.2 else fb p.2
theorem ct_if {ta tb : TF} (hc : CT X c Mc tc) (ha : CT X a Ma ta) (hb : CT X b Mb tb) : CT X (.IfExp c a b pos) (Mc ++ (Ma ++ Mb)) (ifT tc ta tb) := fun n => ⟨fun pins s σ H Q I h => by
  obtain ⟨fx, env, ω, d, env', R, e, k⟩ := h
  unfold ifT at e
  obtain ⟨⟨b', env1⟩, e1, h⟩ := Option.bind_eq_some_iff.mp e
  refine isTrue_IfExp (thn ((hc n).run pins s σ H (fun q H' => if q = true then tT X.K Ma n ta σ H' Q else tT X.K Mb n tb σ H' Q) I ⟨fx, env, ω, b', env1, R, e1, fun H1 ω1 R1 p1 => ?_⟩) fun q s1 ⟨H1, I1, q1⟩ => ?_)
  · cases b' with
    | true => exact ⟨fx, env1, ω1, d, env', R1, h, fun H2 ω2 R2 p2 => k H2 ω2 R2 ((p1.mono memL (Nat.le_refl _)).trans (p2.mono (fun i hi => memR i (memL i hi)) (Nat.le_refl _)))⟩
    | false => exact ⟨fx, env1, ω1, d, env', R1, h, fun H2 ω2 R2 p2 => k H2 ω2 R2 ((p1.mono memL (Nat.le_refl _)).trans (p2.mono (fun i hi => memR i (memR i hi)) (Nat.le_refl _)))⟩
  · cases q with
    | true => exact (ha n).run pins s1 σ H1 Q I1 q1
    | false => exact (hb n).run pins s1 σ H1 Q I1 q1⟩

/-! ### min, max of a list of ints or of two ints -/
def gMax : List D → Option D
  | [.int i, .int j] => some (.int (if j > i then j else i))
  | ds => gMax1 ds
def gMin : List D → Option D
  | [.int i, .int j] => some (.int (if j < i then j else i))
  | ds => gMin1 ds
def rMaxD (K : PySem.W.Frag) : List V → Hp → VK → Prop := fun xs H Q => (∃ i j, xs = [.int i, .int j] ∧ Q (.int (if j > i then j else i)) H) ∨ rMax K xs H Q
def rMinD (K : PySem.W.Frag) : List V → Hp → VK → Prop := fun xs H Q => (∃ i j, xs = [.int i, .int j] ∧ Q (.int (if j < i then j else i)) H) ∨ rMin K xs H Q
theorem call_maxD (hc : X.calm = true) : CallR X (.builtin "max") (rMaxD X.K) := CallR.or (call_max2 hc) (cr_max hc)
theorem call_minD (hc : X.calm = true) : CallR X (.builtin "min") (rMinD X.K) := CallR.or (call_min2 hc) (cr_min hc)
theorem g_max {K : PySem.W.Frag} : Call K (rMaxD K) gMax := by
  intro ω H ds vs d n Q r h k
  unfold gMax at h
  split at h
  · obtain ⟨v, l, w, m, rfl, r1, r2⟩ := r.two
    cases h
    cases (show v = _ from r1)
    cases (show w = _ from r2)
    exact .inl ⟨_, _, rfl, k _ H ω rfl (Post.refl _ _ _ _)⟩
  · exact .inr (g_max1 n r h k)
theorem g_min {K : PySem.W.Frag} : Call K (rMinD K) gMin := by
  intro ω H ds vs d n Q r h k
  unfold gMin at h
  split at h
  · obtain ⟨v, l, w, m, rfl, r1, r2⟩ := r.two
    cases h
    cases (show v = _ from r1)
    cases (show w = _ from r2)
    exact .inl ⟨_, _, rfl, k _ H ω rfl (Post.refl _ _ _ _)⟩
  · exact .inr (g_min1 n r h k)

/-! ### a name's list of lists walked: its members are frozen, the list itself stays owned -/
def dropSub (ω : Own) (i : Nat) : Own := fun a => match ω a with
  | some ⟨.slot j, k :: s⟩ => if j = i then none else some ⟨.slot j, k :: s⟩
  | o => o
def seqKI (i : Nat) : IF := fun env => match env.get i with
  | some (.lst .own xs) => some (frzL xs, .at i [], env.set i (some (.lst .own (frzL xs))))
  | _ => none
section
variable {ω : Own} {H : Hp}
theorem dropSub_none {a : Addr} {i : Nat} (h : ω a = none) : dropSub ω i a = none := by unfold dropSub; rw [h]
theorem dropSub_ne {a : Addr} {i : Nat} {l : VC.Loc} (h : ω a = some l) (hl : l.id ≠ .slot i ∨ l.path = []) : dropSub ω i a = some l := by
  unfold dropSub
  rw [h]
  obtain ⟨id, p⟩ := l
  cases id with
  | tmp i => rfl
  | out => rfl
  | slot k =>
    cases p with
    | nil => rfl
    | cons q s =>
      have : k ≠ i := fun e => hl.elim (fun h => h (by rw [e])) fun h => (by cases h)
      simp [this]
theorem dropSub_calm {i : Nat} : Calm ω H (dropSub ω i) H := ⟨fun _ _ h _ => h, fun a o e w => ⟨e, dropSub_none w⟩⟩
theorem dropSub_post {i : Nat} {n : Nat} (hi : i ∈ M) : Post M n ω H (dropSub ω i) H := ⟨fun _ _ h _ => h, fun a o e p => ⟨e, by
  cases h : ω a with
  | none => exact dropSub_none h
  | some l =>
    refine dropSub_ne h (.inl fun q => ?_)
    rw [h] at p
    obtain ⟨id, s⟩ := l
    cases (show id = .slot i from q)
    exact absurd hi (show i ∉ M from p)⟩⟩
end
theorem Reps.cool1 {K : PySem.W.Frag} {ω ω' : Own} {H H' : Hp} {l l2 : VC.Loc} (c : Calm ω H ω' H') : ∀ {xs : List D} {vs : List V} {k : Nat}, (∀ j, Cools ω H ω' H' (l.sub j)) → Reps K ω H xs vs l k → Reps K ω' H' (frzL xs) vs l2 k
  | [], _, _, _, h => h
  | x :: xs, _, k, g, h => by
    simp only [Reps, frzL] at h ⊢
    obtain ⟨v, vs', e, r, rs⟩ := h
    exact ⟨v, vs', e, Rep.cool c (g k) r, Reps.cool1 c g rs⟩
theorem ci_seqK {x : Str} (i : Nat) (hN : X.N[i]? = some x := by rfl) (hv : Vis X.env.scope x := by first | exact Or.inl rfl | exact Or.inr (Or.inl rfl) | exact Or.inr (Or.inr rfl)) (hd : (x == ("__debug__" : Str)) = false := by decide)
    (hcd : (x == ("__classdict__" : Str)) = false := by decide) : CI X tg (.Name x pos) [i] (seqKI i) := fun n => ⟨fun pins s σ H Q I h => by
  obtain ⟨fx, env, ω, its, s1, env', R, e, k⟩ := h
  unfold seqKI at e
  split at e
  case h_2 => cases e
  case h_1 xs eg =>
  cases e
  obtain ⟨v, e1, r⟩ := R.rep i _ (Env.get_some eg)
  simp only [Rep] at r
  obtain ⟨l, vs, rfl, hl, rs⟩ := r
  have hl' : LstW ω H l vs ⟨.slot i, []⟩ := hl
  refine (pi_list (pe_var hN hv hd hcd)).run pins s σ H Q I ⟨.ref l, e1, l, rfl, ⟨vs, SqL.of hl'.1⟩, ?_⟩
  have hlW : LstW (dropSub ω i) H l vs ⟨.slot i, []⟩ := ⟨hl'.1, dropSub_ne hl'.2 (.inr rfl)⟩
  have hrs : Reps X.K (dropSub ω i) H (frzL xs) vs ⟨.slot i, []⟩ 0 := Reps.cool1 dropSub_calm (fun j a o s e w => ⟨e, by
    unfold dropSub
    rw [w]
    cases hs : s ++ [j] with
    | nil => simp at hs
    | cons q t => simp [Loc.sub, hs]⟩) rs
  have hrep : Rep X.K (dropSub ω i) H (.lst .own (frzL xs)) (.ref l) ⟨.slot i, []⟩ := by
    simp only [Rep]
    exact ⟨l, vs, rfl, hlW, hrs⟩
  have hi : i < env.length := (List.getElem?_eq_some_iff.mp (Env.get_some eg)).1
  refine k _ H (dropSub ω i) ⟨by simp [R.len], fun j dj ej => ?_, R.fix⟩ (dropSub_post (by simp)) fun M1 ω2 H2 hf p2 => ?_
  · by_cases hj : i = j
    · subst hj
      rw [List.getElem?_set_self hi] at ej
      cases ej
      exact ⟨.ref l, e1, hrep⟩
    · rw [List.getElem?_set_ne hj] at ej
      obtain ⟨u, e2, r2⟩ := R.rep j dj ej
      exact ⟨u, e2, r2.tr dropSub_calm fun a o s e w => ⟨e, dropSub_ne w (.inl (by simp; exact fun h => hj h.symm))⟩⟩
  · have r2 := hrep.post p2 (Src.fresh_ok (n := n) hf (Nat.lt_succ_self n))
    simp only [Rep] at r2
    obtain ⟨l', vs', e', hl2, rs'⟩ := r2
    cases e'
    have hc : coldL (frzL xs) = true := coldL_frz xs
    refine ⟨fun i hi => ?_, fun i hi => ?_, fun i d x H3 hd hy => ?_⟩
    · rw [rs'.length] at hi
      exact ⟨vs', vs'[i], hl2.sq, List.getElem?_eq_getElem hi⟩
    · rw [rs'.length] at hi
      exact ⟨vs', hl2.sq, hi⟩
    · obtain ⟨rfl, hx⟩ := hy
      obtain ⟨w, hw, rw'⟩ := rs'.get hd
      have := hx vs' hl2.sq
      rw [hw] at this
      cases this
      exact ⟨ω2, fun _ => Post.refl _ _ _ _, rw'.any (Calm.refl _ _) _ (coldL_mem hc d (List.mem_of_getElem? hd))⟩⟩
end
end VC

set_option Elab.async false
set_option linter.all false
set_option maxRecDepth 100000
/-! VCL: an argument that later arguments change: it is read behind them. -/
namespace VC
open PySem PySem.Spec PyProof.Rows L2
section
variable {X : Cx} {a : Expr} {es : List Expr} {Mb : List Nat} {fr : AF}
def lateA (i : Nat) (fr : AF) : AF := fun env => (env.get i).bind fun d0 => if d0.imm = false then (fr env).bind fun q => (q.2.get i).bind fun d => if d.imm = false then some ((d, .at i []) :: q.1, q.2) else none
  else none
theorem ca_late {i : Nat} (ha : CE X a [] (varE i)) (hr : CA X es Mb fr) (hs : starEach (a :: es) X.env = (false, eval a X.env) :: starEach es X.env := by rfl) : CA X (a :: es) Mb (lateA i fr) := fun n => pa_of (pa_cons (ha n) (hr (n + 1)) hs) fun σ H Q h => by
  obtain ⟨fx, env, ω, as, env', R, e, k⟩ := h
  unfold lateA at e
  obtain ⟨d0, e0, h⟩ := Option.bind_eq_some_iff.mp e
  split at h
  case isFalse => cases h
  case isTrue hi0 =>
  obtain ⟨⟨as', env2⟩, e2, h⟩ := Option.bind_eq_some_iff.mp h
  obtain ⟨d, e3, h⟩ := Option.bind_eq_some_iff.mp h
  split at h
  case isFalse => cases h
  case isTrue hi =>
  cases h
  refine ⟨fx, env, ω, d0, .at i [], env, R, by unfold varE; rw [e0]; simp [hi0], fun v H1 ω1 R1 r1 p1 => ⟨fx, env, ω1, as', env2, R1, e2, fun vs H2 ω2 R2 r2 p2 => ?_⟩⟩
  obtain ⟨v', e4, r4⟩ := R2.rep i _ (Env.get_some e3)
  have hv : σ[i]? = some (some v) := r1.2
  rw [hv] at e4
  cases e4
  exact k _ H2 ω2 R2 (.cons ⟨r4, hv⟩ r2) ((p1.mono (fun i hi => by cases hi) (Nat.le_refl _)).trans (p2.mono (fun i hi => hi) (Nat.le_succ n)))
end
end VC

/-! printed by gen.py from the linked text: what its defs compute, and that they compute it. -/
set_option Elab.async false
set_option linter.all false
set_option maxRecDepth 100000
namespace KL
open PySem PySem.Spec PyProof.Rows L2 VC
def k_SIGNS : Str := "0123456789abcdefghijklmnopqrstuvwxyzABCDEFGHIJKLMNOPQRSTUVWXYZ-\"(),. /:+\n"
noncomputable def b_sums_1 : SF :=
  (seqS (asgS 4 [] [] (op2E gAdd [] (varE 2) (constE (.int 1))))
  (seqS (asgS 1 [] [] (lstE [] (consA [] (op2E gMod [] (op2E gAdd [] (ixE [] (varE 1) (constE (.int 0))) (varE 3)) (constE (.int 97))) (consA [] (op2E gMod [] (op2E gAdd [] (ixE [] (varE 1) (constE (.int 1))) (op2E gMul [] (varE 4) (varE 3))) (constE (.int 97))) (consA [] (op2E gAdd [] (ixE [] (varE 1) (constE (.int 2))) (op2E gMul [] (op2E gMul [] (varE 4) (varE 4)) (varE 3))) nilA)))))
  (seqS (setS [1] [] [] [] (op2E gMod [] (ixE [] (varE 1) (constE (.int 2))) (constE (.int 97))) (varE 1) (constE (.int 2)))
  skipS)))
noncomputable def l_sums_1 : SF := forS [1] (tupG 2 (consG (nameG 2 []) (consG (nameG 3 []) nilG))) (enumI (consA [] (varE 0) nilA)) b_sums_1
noncomputable def m_sums : SF :=
  (seqS (asgS 1 [] [] (lstE [] (consA [] (constE (.int 0)) (consA [] (constE (.int 0)) (consA [] (constE (.int 0)) nilA)))))
  (seqS l_sums_1
  (seqS (retS [] (varE 1))
  skipS)))
noncomputable def f_sums : FF := runF 1 5 [] m_sums
noncomputable def ct_inverse_1 : TF := (boolT (op2E gEq [] (op2E gMod [] (op2E gMul [] (varE 0) (varE 1)) (constE (.int 97))) (constE (.int 1))))
noncomputable def ce_inverse_1 : EF := (varE 1)
noncomputable def c_inverse_1 : EF := compE [1] [] [] (nameG 1 []) (range1I (consA [] (constE (.int 97)) nilA)) ct_inverse_1 ce_inverse_1
noncomputable def m_inverse : SF :=
  (seqS (retS [] (ixE [] c_inverse_1 (constE (.int 0))))
  skipS)
noncomputable def f_inverse : FF := runF 1 2 [] m_inverse
noncomputable def m_line_of : SF :=
  (seqS (asgS 2 [] [] (op2E gAdd [] (lstE [] (consA [] (op2E gFdiv [] (varE 0) (constE (.int 97))) (consA [] (op2E gMod [] (varE 0) (constE (.int 97))) nilA))) (varE 1)))
  (seqS (unpS (unlG 3 (consG (nameG 3 []) (consG (nameG 4 []) (consG (nameG 5 []) nilG)))) (fnE [] [] f_sums (consA [] (varE 2) nilA)))
  (seqS (asgS 6 [] [] (constE (.int 60)))
  (seqS (asgS 7 [] [] (fnE [] [] f_inverse (consA [] (constE (.int 2)) nilA)))
  (seqS (asgS 8 [] [] (op2E gMul [] (op2E gAdd [] (op2E gSub [] (varE 5) (op2E gMul [] (op2E gSub [] (op2E gMul [] (constE (.int 2)) (varE 6)) (constE (.int 3))) (varE 4))) (op2E gMul [] (op2E gMul [] (op2E gSub [] (varE 6) (constE (.int 2))) (op2E gSub [] (varE 6) (constE (.int 1)))) (varE 3))) (varE 7)))
  (seqS (asgS 9 [] [] (op2E gAdd [] (op2E gSub [] (varE 5) (op2E gMul [] (op2E gSub [] (op2E gMul [] (constE (.int 2)) (varE 6)) (constE (.int 2))) (varE 4))) (op2E gMul [] (op2E gMul [] (varE 6) (op2E gSub [] (varE 6) (constE (.int 2)))) (varE 3))))
  (seqS (asgS 10 [] [] (op2E gMul [] (op2E gAdd [] (op2E gSub [] (varE 5) (op2E gMul [] (op2E gSub [] (op2E gMul [] (constE (.int 2)) (varE 6)) (constE (.int 1))) (varE 4))) (op2E gMul [] (op2E gMul [] (varE 6) (op2E gSub [] (varE 6) (constE (.int 1)))) (varE 3))) (varE 7)))
  (seqS (retS [] (op2E gAdd [] (varE 2) (lstE [] (consA [] (op2E gMod [] (op1E gNeg (varE 10)) (constE (.int 97))) (consA [] (op2E gMod [] (varE 9) (constE (.int 97))) (consA [] (op2E gMod [] (op1E gNeg (varE 8)) (constE (.int 97))) nilA))))))
  skipS))))))))
noncomputable def f_line_of : FF := runF 2 11 [] m_line_of
noncomputable def m_righted : SF :=
  (seqS (unpS (unlG 3 (consG (nameG 1 []) (consG (nameG 2 []) (consG (nameG 3 []) nilG)))) (fnE [] [] f_sums (consA [] (varE 0) nilA)))
  (seqS (ifS (boolT (op2E gEq [] (lstE [] (consA [] (varE 1) (consA [] (varE 2) (consA [] (varE 3) nilA)))) (lstE [] (consA [] (constE (.int 0)) (consA [] (constE (.int 0)) (consA [] (constE (.int 0)) nilA))))))
  (seqS (retS [] (callE gList (consA [] (varE 0) nilA)))
  skipS)
  skipS)
  (seqS (ifS (boolT (op2E gEq [] (varE 1) (constE (.int 0))))
  (seqS (retS [] (constE .non))
  skipS)
  skipS)
  (seqS (asgS 4 [] [] (op2E gMod [] (op2E gMul [] (varE 2) (fnE [] [] f_inverse (consA [] (varE 1) nilA))) (constE (.int 97))))
  (seqS (ifS (orT (notT (boolT (chainE gLe gLe [] [] (constE (.int 1)) (varE 4) (constE (.int 60))))) (boolT (op2E gNe [] (varE 3) (op2E gMod [] (op2E gMul [] (varE 4) (varE 2)) (constE (.int 97))))))
  (seqS (retS [] (constE .non))
  skipS)
  skipS)
  (seqS (asgS 5 [] [] (callE gList (consA [] (varE 0) nilA)))
  (seqS (setS [5] [] [] [] (op2E gMod [] (op2E gSub [] (ixE [] (varE 5) (op2E gSub [] (varE 4) (constE (.int 1)))) (varE 1)) (constE (.int 97))) (varE 5) (op2E gSub [] (varE 4) (constE (.int 1))))
  (seqS (retS [] (varE 5))
  skipS))))))))
noncomputable def f_righted : FF := runF 1 6 [] m_righted
noncomputable def ce_written_1 : EF := (op2E gAdd [] (callE gStr (consA [] (op2E gFdiv [] (varE 1) (constE (.int 10))) nilA)) (callE gStr (consA [] (op2E gMod [] (varE 1) (constE (.int 10))) nilA)))
noncomputable def c_written_1 : EF := compE [1] [] [] (nameG 1 []) (seqI (varE 0)) yesT ce_written_1
noncomputable def m_written : SF :=
  (seqS (retS [] (methE "str" gJoin [] (constE (.str "")) (consA [] c_written_1 nilA)))
  skipS)
noncomputable def f_written : FF := runF 1 2 [] m_written
noncomputable def ce_numbers_in_1 : EF := (callE gInt (consA [] (sliceE gSl [] (varE 0) (partO (varE 3)) (partO (op2E gAdd [] (varE 3) (constE (.int 2))))) nilA))
noncomputable def c_numbers_in_1 : EF := compE [3] [] [] (nameG 3 []) (range3I (consA [] (constE (.int 0)) (consA [] (op2E gMul [] (constE (.int 2)) (constE (.int 60))) (consA [] (constE (.int 2)) nilA)))) yesT ce_numbers_in_1
noncomputable def ce_numbers_in_2 : EF := (op2E gIn [] (varE 2) (constE (.str "0123456789")))
noncomputable def c_numbers_in_2 : EF := compE [2] [] [] (nameG 2 []) (seqI (varE 0)) yesT ce_numbers_in_2
noncomputable def m_numbers_in : SF :=
  (seqS (ifS (orT (notT (testT (isiE "str" (varE 0)))) (orT (boolT (op2E gNe [] (callE gLen (consA [] (varE 0) nilA)) (op2E gMul [] (constE (.int 2)) (constE (.int 60))))) (notT (testT (callE gAll (consA [] c_numbers_in_2 nilA))))))
  (seqS (retS [] (constE .non))
  skipS)
  skipS)
  (seqS (asgS 1 [] [] c_numbers_in_1)
  (seqS (retS [] (ifE (boolT (op2E gLt [] (callE gMax (consA [] (varE 1) nilA)) (constE (.int 97)))) (varE 1) (constE .non)))
  skipS)))
noncomputable def f_numbers_in : FF := runF 1 4 [] m_numbers_in
noncomputable def ce_lines_of_1 : EF := (fnE [] [] f_written (consA [] (fnE [] [] f_line_of (consA [] (op2E gAdd [] (varE 4) (constE (.int 1))) (consA [] (sliceE gSl [] (varE 1) (partO (op2E gMul [] (varE 4) (constE (.int 55)))) (partO (op2E gMul [] (op2E gAdd [] (varE 4) (constE (.int 1))) (constE (.int 55))))) nilA))) nilA))
noncomputable def c_lines_of_1 : EF := compE [4] [] [] (nameG 4 []) (range1I (consA [] (varE 2) nilA)) yesT ce_lines_of_1
noncomputable def ce_lines_of_2 : EF := (op2E gAdd [] (methE "str" gSIndex [] (constE (.str k_SIGNS)) (consA [] (varE 3) nilA)) (constE (.int 1)))
noncomputable def c_lines_of_2 : EF := compE [3] [] [] (nameG 3 []) (seqI (varE 0)) yesT ce_lines_of_2
noncomputable def m_lines_of : SF :=
  (seqS (asgS 1 [] [] (op2E gAdd [] c_lines_of_2 (lstE [] (consA [] (constE (.int 74)) nilA))))
  (seqS (asgS 2 [] [] (op1E gNeg (op2E gFdiv [] (op1E gNeg (callE gLen (consA [] (varE 1) nilA))) (constE (.int 55)))))
  (seqS (asgS 1 [] [] (op2E gAdd [] (varE 1) (op2E gMul [] (lstE [] (consA [] (constE (.int 0)) nilA)) (op2E gSub [] (op2E gMul [] (varE 2) (constE (.int 55))) (callE gLen (consA [] (varE 1) nilA))))))
  (seqS (retS [] c_lines_of_1)
  skipS))))
noncomputable def f_lines_of : FF := runF 1 5 [] m_lines_of
noncomputable def m_signs_in : SF :=
  (seqS (asgS 2 [] [] (fnE [] [] f_numbers_in (consA [] (varE 0) nilA)))
  (seqS (asgS 3 [] [] (ifE (boolT (op2E gNotN [] (varE 2) (constE .non))) (fnE [] [] f_righted (consA [] (varE 2) nilA)) (constE .non)))
  (seqS (ifS (orT (boolT (op2E gIsN [] (varE 3) (constE .non))) (boolT (op2E gNe [] (op2E gAdd [] (op2E gMul [] (constE (.int 97)) (ixE [] (varE 3) (constE (.int 0)))) (ixE [] (varE 3) (constE (.int 1)))) (varE 1))))
  (seqS (retS [] (constE .non))
  skipS)
  skipS)
  (seqS (retS [] (sliceE gSl [] (varE 3) (partO (constE (.int 2))) (partO (op2E gAdd [] (constE (.int 2)) (constE (.int 55))))))
  skipS))))
noncomputable def f_signs_in : FF := runF 2 4 [] m_signs_in
noncomputable def ce_are_of_text_1 : EF := (chainE gLt gLe [] [] (constE (.int 0)) (varE 2) (callE gLen (consA [] (constE (.str k_SIGNS)) nilA)))
noncomputable def c_are_of_text_1 : EF := compE [2] [] [] (nameG 2 []) (seqI (sliceE gSl [] (varE 0) noO (partO (varE 1)))) yesT ce_are_of_text_1
noncomputable def m_are_of_text : SF :=
  (seqS (asgS 1 [] [] (ifE (boolT (op2E gIn [] (constE (.int 74)) (varE 0))) (methE "list" gLIndex [] (varE 0) (consA [] (constE (.int 74)) nilA)) (callE gLen (consA [] (varE 0) nilA))))
  (seqS (retS [] (andE (callE gAll (consA [] c_are_of_text_1 nilA)) (notE (callE gAny (consA [] (sliceE gSl [] (varE 0) (partO (op2E gAdd [] (varE 1) (constE (.int 1)))) noO) nilA)))))
  skipS))
noncomputable def f_are_of_text : FF := runF 1 3 [] m_are_of_text
noncomputable def ce_text_of_1 : EF := (ixE [] (constE (.str k_SIGNS)) (op2E gSub [] (varE 6) (constE (.int 1))))
noncomputable def c_text_of_1 : EF := compE [6] [] [] (nameG 6 []) (seqI (sliceE gSl [] (varE 1) noO (partO (varE 5)))) yesT ce_text_of_1
noncomputable def b_text_of_1 : SF :=
  (seqS (asgS 4 [] [] (fnE [] [] f_signs_in (consA [] (varE 3) (consA [] (op2E gAdd [] (varE 2) (constE (.int 1))) nilA))))
  (seqS (ifS (orT (boolT (op2E gIsN [] (varE 4) (constE .non))) (orT (boolT (op2E gIn [] (constE (.int 74)) (varE 1))) (notT (testT (fnE [] [] f_are_of_text (consA [] (varE 4) nilA))))))
  (seqS (retS [] (tupE [] (consA [] (constE (.str "line")) (consA [] (op2E gAdd [] (varE 2) (constE (.int 1))) nilA))))
  skipS)
  skipS)
  (seqS (asgS 1 [] [] (op2E gAdd [] (varE 1) (varE 4)))
  skipS)))
noncomputable def l_text_of_1 : SF := forS [] (tupG 2 (consG (nameG 2 []) (consG (nameG 3 []) nilG))) (enumI (consA [] (varE 0) nilA)) b_text_of_1
noncomputable def m_text_of : SF :=
  (seqS (asgS 1 [] [] (lstE [] nilA))
  (seqS l_text_of_1
  (seqS (ifS (boolT (op2E gNotIn [] (constE (.int 74)) (varE 1)))
  (seqS (retS [] (tupE [] (consA [] (constE (.str "line")) (consA [] (op2E gAdd [] (callE gLen (consA [] (varE 0) nilA)) (constE (.int 1))) nilA))))
  skipS)
  skipS)
  (seqS (asgS 5 [] [] (methE "list" gLIndex [] (varE 1) (consA [] (constE (.int 74)) nilA)))
  (seqS (retS [] (tupE [] (consA [] (constE (.str "text")) (consA [] (methE "str" gJoin [] (constE (.str "")) (consA [] c_text_of_1 nilA)) nilA))))
  skipS)))))
noncomputable def f_text_of : FF := runF 1 7 [] m_text_of
noncomputable def m_law_mixed : SF :=
  (seqS (asgS 1 [] [] (constE (.int 2305843009213693951)))
  (seqS (asgS 2 [] [] (op2E gMod [] (callE gInt (consA [] (op2E gAdd [] (op2E gMul [] (varE 0) (constE (.int 6364136223846793005))) (constE (.int 1442695040888963407))) nilA)) (varE 1)))
  (seqS (asgS 3 [] [] (op2E gMod [] (callE gInt (consA [] (op2E gAdd [] (op2E gAdd [] (op2E gMul [] (varE 2) (varE 2)) (op2E gMul [] (constE (.int 48271)) (varE 2))) (constE (.int 11))) nilA)) (varE 1)))
  (seqS (retS [] (op2E gMod [] (callE gInt (consA [] (op2E gAdd [] (op2E gAdd [] (op2E gMul [] (varE 3) (constE (.int 3935559000370003845))) (op2E gMul [] (varE 2) (constE (.int 40692)))) (constE (.int 7))) nilA)) (varE 1)))
  skipS))))
noncomputable def f_law_mixed : FF := runF 1 4 [] m_law_mixed
noncomputable def b_law_stream_1 : SF :=
  (seqS (ifS (orT (boolT (op2E gGe [] (varE 1) (callE gLen (consA [] (varE 0) nilA)))) (boolT (op2E gEq [] (varE 3) (varE 1))))
  (seqS (asgS 2 [] [] (fnE [] [] f_law_mixed (consA [] (op2E gAdd [] (varE 2) (callE gInt (consA [] (ixE [] (varE 0) (varE 3)) nilA))) nilA)))
  skipS)
  skipS)
  skipS)
noncomputable def l_law_stream_1 : SF := forS [] (nameG 3 []) (range1I (consA [] (callE gMin (consA [] (constE (.int 63)) (consA [] (callE gLen (consA [] (varE 0) nilA)) nilA))) nilA)) b_law_stream_1
noncomputable def m_law_stream : SF :=
  (seqS (ifS (andT (boolT (op2E gLt [] (varE 1) (callE gLen (consA [] (varE 0) nilA)))) (boolT (op2E gGe [] (ixE [] (varE 0) (varE 1)) (constE (.int 1000000000000000000)))))
  (seqS (retS [] (lstE [] (consA [] (callE gInt (consA [] (ixE [] (varE 0) (varE 1)) nilA)) (consA [] (op2E gAdd [] (op2E gMul [] (constE (.int 3)) (varE 1)) (constE (.int 1))) nilA))))
  skipS)
  skipS)
  (seqS (asgS 2 [] [] (fnE [] [] f_law_mixed (consA [] (op2E gAdd [] (op2E gMul [] (constE (.int 7)) (varE 1)) (constE (.int 5))) nilA)))
  (seqS l_law_stream_1
  (seqS (retS [] (lstE [] (consA [] (op2E gAdd [] (op2E gMul [] (varE 2) (constE (.int 2305843009213693951))) (fnE [] [] f_law_mixed (consA [] (varE 2) nilA))) (consA [] (varE 2) nilA))))
  skipS))))
noncomputable def f_law_stream : FF := runF 2 4 [] m_law_stream
noncomputable def m_law_digit : SF :=
  (seqS (ifS (boolT (op2E gLt [] (ixE [] (varE 0) (constE (.int 0))) (constE (.int 2))))
  (seqS (setS [0] [] [] [] (fnE [] [] f_law_mixed (consA [] (op2E gAdd [] (ixE [] (varE 0) (constE (.int 1))) (constE (.int 1))) nilA)) (varE 0) (constE (.int 1)))
  (seqS (setS [0] [] [] [] (op2E gAdd [] (op2E gMul [] (ixE [] (varE 0) (constE (.int 1))) (constE (.int 2305843009213693951))) (fnE [] [] f_law_mixed (consA [] (op2E gAdd [] (ixE [] (varE 0) (constE (.int 1))) (constE (.int 2))) nilA))) (varE 0) (constE (.int 0)))
  skipS))
  skipS)
  (seqS (asgS 2 [0] [] (op2E gMod [] (callE gInt (consA [] (ixE [] (varE 0) (constE (.int 0))) nilA)) (varE 1)))
  (seqS (setS [0] [] [] [] (op2E gFdiv [] (ixE [] (varE 0) (constE (.int 0))) (varE 1)) (varE 0) (constE (.int 0)))
  (seqS (retS [0] (varE 2))
  skipS))))
noncomputable def f_law_digit : FF := runF 2 3 [0] m_law_digit
noncomputable def m_law_pick : SF :=
  (seqS (retS [0] (ixE [0] (varE 1) (fnE [(0, 0)] [] f_law_digit (consA [] (varE 0) (consA [] (callE gLen (consA [] (varE 1) nilA)) nilA)))))
  skipS)
noncomputable def f_law_pick : FF := runF 2 2 [0] m_law_pick
noncomputable def m_law_signs : SF :=
  (seqS (retS [] (constE (.str "0123456789abcdefghijklmnopqrstuvwxyzABCDEFGHIJKLMNOPQRSTUVWXYZ-\"(),. /:+\n")))
  skipS)
noncomputable def f_law_signs : FF := runF 0 0 [] m_law_signs
noncomputable def b_law_totals_1 : SF :=
  (seqS (asgS 1 [] [] (op2E gAdd [] (varE 1) (ixE [] (varE 0) (varE 4))))
  (seqS (asgS 2 [] [] (op2E gAdd [] (varE 2) (op2E gMul [] (op2E gAdd [] (varE 4) (constE (.int 1))) (ixE [] (varE 0) (varE 4)))))
  (seqS (asgS 3 [] [] (op2E gAdd [] (varE 3) (op2E gMul [] (op2E gMul [] (op2E gAdd [] (varE 4) (constE (.int 1))) (op2E gAdd [] (varE 4) (constE (.int 1)))) (ixE [] (varE 0) (varE 4)))))
  skipS)))
noncomputable def l_law_totals_1 : SF := forS [] (nameG 4 []) (range1I (consA [] (callE gLen (consA [] (varE 0) nilA)) nilA)) b_law_totals_1
noncomputable def m_law_totals : SF :=
  (seqS (asgS 1 [] [] (constE (.int 0)))
  (seqS (asgS 2 [] [] (constE (.int 0)))
  (seqS (asgS 3 [] [] (constE (.int 0)))
  (seqS l_law_totals_1
  (seqS (retS [] (lstE [] (consA [] (op2E gMod [] (callE gInt (consA [] (varE 1) nilA)) (constE (.int 97))) (consA [] (op2E gMod [] (callE gInt (consA [] (varE 2) nilA)) (constE (.int 97))) (consA [] (op2E gMod [] (callE gInt (consA [] (varE 3) nilA)) (constE (.int 97))) nilA)))))
  skipS)))))
noncomputable def f_law_totals : FF := runF 1 5 [] m_law_totals
noncomputable def b_law_line_1 : SF :=
  (seqS (unpS (unlG 3 (consG (nameG 4 []) (consG (nameG 5 []) (consG (nameG 6 []) nilG)))) (fnE [] [] f_law_totals (consA [] (op2E gAdd [] (varE 2) (lstE [] (consA [] (varE 3) (consA [] (constE (.int 0)) (consA [] (constE (.int 0)) nilA))))) nilA)))
  (seqS (asgS 7 [] [] (op2E gMod [] (callE gInt (consA [] (op2E gSub [] (op2E gMul [] (constE (.int 59)) (varE 4)) (varE 5)) nilA)) (constE (.int 97))))
  (seqS (asgS 8 [] [] (op2E gMod [] (callE gInt (consA [] (op2E gSub [] (op2E gSub [] (constE (.int 0)) (varE 4)) (varE 7)) nilA)) (constE (.int 97))))
  (seqS (asgS 9 [] [] (op2E gAdd [] (varE 2) (lstE [] (consA [] (varE 3) (consA [] (varE 8) (consA [] (varE 7) nilA))))))
  (seqS (ifS (boolT (op2E gEq [] (fnE [] [] f_law_totals (consA [] (varE 9) nilA)) (lstE [] (consA [] (constE (.int 0)) (consA [] (constE (.int 0)) (consA [] (constE (.int 0)) nilA))))))
  (seqS (retS [] (varE 9))
  skipS)
  skipS)
  skipS)))))
noncomputable def l_law_line_1 : SF := forS [] (nameG 3 []) (range1I (consA [] (constE (.int 97)) nilA)) b_law_line_1
noncomputable def m_law_line : SF :=
  (seqS (asgS 2 [] [] (op2E gAdd [] (lstE [] (consA [] (op2E gFdiv [] (varE 0) (constE (.int 97))) (consA [] (op2E gMod [] (callE gInt (consA [] (varE 0) nilA)) (constE (.int 97))) nilA))) (varE 1)))
  (seqS l_law_line_1
  (seqS (retS [] (constE .non))
  skipS)))
noncomputable def f_law_line : FF := runF 2 10 [] m_law_line
noncomputable def b_law_righted_1 : SF :=
  (seqS (asgS 3 [] [] (op2E gMod [] (callE gInt (consA [] (op2E gSub [] (ixE [] (varE 0) (varE 2)) (ixE [] (varE 1) (constE (.int 0)))) nilA)) (constE (.int 97))))
  (seqS (asgS 4 [] [] (op2E gAdd [] (op2E gAdd [] (sliceE gSl [] (varE 0) noO (partO (varE 2))) (lstE [] (consA [] (varE 3) nilA))) (sliceE gSl [] (varE 0) (partO (op2E gAdd [] (varE 2) (constE (.int 1)))) noO)))
  (seqS (ifS (boolT (op2E gEq [] (fnE [] [] f_law_totals (consA [] (varE 4) nilA)) (lstE [] (consA [] (constE (.int 0)) (consA [] (constE (.int 0)) (consA [] (constE (.int 0)) nilA))))))
  (seqS (retS [] (varE 4))
  skipS)
  skipS)
  skipS)))
noncomputable def l_law_righted_1 : SF := forS [] (nameG 2 []) (range1I (consA [] (constE (.int 60)) nilA)) b_law_righted_1
noncomputable def m_law_righted : SF :=
  (seqS (ifS (boolT (op2E gEq [] (fnE [] [] f_law_totals (consA [] (varE 0) nilA)) (lstE [] (consA [] (constE (.int 0)) (consA [] (constE (.int 0)) (consA [] (constE (.int 0)) nilA))))))
  (seqS (retS [] (callE gList (consA [] (varE 0) nilA)))
  skipS)
  skipS)
  (seqS (asgS 1 [] [] (fnE [] [] f_law_totals (consA [] (varE 0) nilA)))
  (seqS l_law_righted_1
  (seqS (retS [] (constE .non))
  skipS))))
noncomputable def f_law_righted : FF := runF 1 5 [] m_law_righted
noncomputable def ce_law_written_1 : EF := (sliceE gSl [] (callE gStr (consA [] (op2E gAdd [] (constE (.int 100)) (varE 1)) nilA)) (partO (constE (.int 1))) noO)
noncomputable def c_law_written_1 : EF := compE [1] [] [] (nameG 1 []) (seqI (varE 0)) yesT ce_law_written_1
noncomputable def m_law_written : SF :=
  (seqS (retS [] (methE "str" gJoin [] (constE (.str "")) (consA [] c_law_written_1 nilA)))
  skipS)
noncomputable def f_law_written : FF := runF 1 2 [] m_law_written
noncomputable def b_law_text_lines_1 : SF :=
  (seqS (asgS 4 [] [] (sliceE gSl [] (varE 1) (partO (varE 3)) (partO (op2E gAdd [] (varE 3) (constE (.int 55))))))
  (seqS (exprS (appE [2] [] [] (varE 2) (consA [] (fnE [] [] f_law_line (consA [] (op2E gAdd [] (op2E gFdiv [] (varE 3) (constE (.int 55))) (constE (.int 1))) (consA [] (op2E gAdd [] (varE 4) (op2E gMul [] (lstE [] (consA [] (constE (.int 0)) nilA)) (op2E gSub [] (constE (.int 55)) (callE gLen (consA [] (varE 4) nilA))))) nilA))) nilA)))
  skipS))
noncomputable def l_law_text_lines_1 : SF := forS [2] (nameG 3 []) (range3I (consA [] (constE (.int 0)) (consA [] (callE gLen (consA [] (varE 1) nilA)) (consA [] (constE (.int 55)) nilA)))) b_law_text_lines_1
noncomputable def ce_law_text_lines_1 : EF := (op2E gAdd [] (methE "str" gSIndex [] (fnE [] [] f_law_signs nilA) (consA [] (varE 5) nilA)) (constE (.int 1)))
noncomputable def c_law_text_lines_1 : EF := compE [5] [] [] (nameG 5 []) (seqI (varE 0)) yesT ce_law_text_lines_1
noncomputable def m_law_text_lines : SF :=
  (seqS (asgS 1 [] [] (op2E gAdd [] c_law_text_lines_1 (lstE [] (consA [] (constE (.int 74)) nilA))))
  (seqS (asgS 2 [] [] (lstE [] nilA))
  (seqS l_law_text_lines_1
  (seqS (retS [] (varE 2))
  skipS))))
noncomputable def f_law_text_lines : FF := runF 1 6 [] m_law_text_lines
noncomputable def ce_law_numbers_1 : EF := (callE gInt (consA [] (sliceE gSl [] (varE 0) (partO (varE 3)) (partO (op2E gAdd [] (varE 3) (constE (.int 2))))) nilA))
noncomputable def c_law_numbers_1 : EF := compE [3] [] [] (nameG 3 []) (range3I (consA [] (constE (.int 0)) (consA [] (constE (.int 120)) (consA [] (constE (.int 2)) nilA)))) yesT ce_law_numbers_1
noncomputable def ct_law_numbers_2 : TF := (boolT (op2E gNotIn [] (varE 2) (constE (.str "0123456789"))))
noncomputable def ce_law_numbers_2 : EF := (varE 2)
noncomputable def c_law_numbers_2 : EF := compE [2] [] [] (nameG 2 []) (seqI (varE 0)) ct_law_numbers_2 ce_law_numbers_2
noncomputable def m_law_numbers : SF :=
  (seqS (ifS (orT (boolT (op2E gNe [] (callE gLen (consA [] (varE 0) nilA)) (constE (.int 120)))) (boolT (op2E gGt [] (callE gLen (consA [] c_law_numbers_2 nilA)) (constE (.int 0)))))
  (seqS (retS [] (constE .non))
  skipS)
  skipS)
  (seqS (asgS 1 [] [] c_law_numbers_1)
  (seqS (retS [] (ifE (boolT (op2E gGt [] (callE gMax (consA [] (varE 1) nilA)) (constE (.int 96)))) (constE .non) (fnE [] [] f_law_righted (consA [] (varE 1) nilA))))
  skipS)))
noncomputable def f_law_numbers : FF := runF 1 4 [] m_law_numbers
noncomputable def b_law_told_1 : SF :=
  (seqS (ifS (ifT (testT (varE 2)) (boolT (op2E gGt [] (varE 5) (constE (.int 0)))) (orT (boolT (op2E gEq [] (varE 5) (constE (.int 0)))) (boolT (op2E gGt [] (varE 5) (constE (.int 74))))))
  (seqS (retS [] (tupE [] (consA [] (constE (.str "line")) (consA [] (op2E gAdd [] (varE 3) (constE (.int 1))) nilA))))
  skipS)
  skipS)
  (seqS (asgS 2 [] [] (orE (varE 2) (op2E gEq [] (varE 5) (constE (.int 74)))))
  (seqS (asgS 1 [] [] (op2E gAdd [] (varE 1) (ifE (testT (varE 2)) (constE (.str "")) (ixE [] (fnE [] [] f_law_signs nilA) (op2E gSub [] (varE 5) (constE (.int 1)))))))
  skipS)))
noncomputable def l_law_told_1 : SF := forS [] (nameG 5 []) (seqI (sliceE gSl [] (varE 4) (partO (constE (.int 2))) (partO (constE (.int 57))))) b_law_told_1
noncomputable def b_law_told_2 : SF :=
  (seqS (asgS 4 [] [] (fnE [] [] f_law_numbers (consA [] (ixE [] (varE 0) (varE 3)) nilA)))
  (seqS (ifS (orT (boolT (op2E gIsN [] (varE 4) (constE .non))) (orT (boolT (op2E gNe [] (op2E gAdd [] (op2E gMul [] (constE (.int 97)) (ixE [] (varE 4) (constE (.int 0)))) (ixE [] (varE 4) (constE (.int 1)))) (op2E gAdd [] (varE 3) (constE (.int 1))))) (testT (varE 2))))
  (seqS (retS [] (tupE [] (consA [] (constE (.str "line")) (consA [] (op2E gAdd [] (varE 3) (constE (.int 1))) nilA))))
  skipS)
  skipS)
  (seqS l_law_told_1
  skipS)))
noncomputable def l_law_told_2 : SF := forS [] (nameG 3 []) (range1I (consA [] (callE gLen (consA [] (varE 0) nilA)) nilA)) b_law_told_2
noncomputable def m_law_told : SF :=
  (seqS (asgS 1 [] [] (constE (.str "")))
  (seqS (asgS 2 [] [] (constE (.bl false)))
  (seqS l_law_told_2
  (seqS (retS [] (ifE (testT (varE 2)) (tupE [] (consA [] (constE (.str "text")) (consA [] (varE 1) nilA))) (tupE [] (consA [] (constE (.str "line")) (consA [] (op2E gAdd [] (callE gLen (consA [] (varE 0) nilA)) (constE (.int 1))) nilA)))))
  skipS))))
noncomputable def f_law_told : FF := runF 1 6 [] m_law_told
noncomputable def ce_law_changed_1 : EF := (fnE [] [] f_law_written (consA [] (varE 8) nilA))
noncomputable def c_law_changed_1 : EF := compE [8] [] [] (nameG 8 []) (seqKI 1) yesT ce_law_changed_1
noncomputable def b_law_changed_1 : SF :=
  (seqS (asgS 3 [0] [] (fnE [(0, 0)] [] f_law_digit (consA [] (varE 0) (consA [] (callE gLen (consA [] (varE 1) nilA)) nilA))))
  (seqS (setS [1] [] [] [0] (fnE [(0, 0)] [] f_law_digit (consA [] (varE 0) (consA [] (constE (.int 97)) nilA))) (ixE [] (varE 1) (varE 3)) (fnE [(0, 0)] [] f_law_digit (consA [] (varE 0) (consA [] (constE (.int 60)) nilA))))
  skipS))
noncomputable def l_law_changed_1 : SF := forS [0, 0, 0, 1] (nameG 2 [0]) (range1I (consA [] (fnE [(0, 0)] [] f_law_digit (consA [] (varE 0) (consA [] (constE (.int 4)) nilA))) nilA)) b_law_changed_1
noncomputable def ce_law_changed_2 : EF := (callE gList (consA [] (varE 8) nilA))
noncomputable def c_law_changed_2 : EF := compE [8] [] [] (nameG 8 []) (seqI (varE 1)) yesT ce_law_changed_2
noncomputable def m_law_changed : SF :=
  (seqS (asgS 1 [0] [] c_law_changed_2)
  (seqS l_law_changed_1
  (seqS (asgS 4 [0] [] c_law_changed_1)
  (seqS (asgS 3 [0] [] (fnE [(0, 0)] [] f_law_digit (consA [] (varE 0) (consA [] (callE gLen (consA [] (varE 4) nilA)) nilA))))
  (seqS (asgS 5 [0] [] (fnE [(0, 0)] [] f_law_digit (consA [] (varE 0) (consA [] (constE (.int 9)) nilA))))
  (seqS (ifS (boolT (op2E gEq [] (varE 5) (constE (.int 0))))
  (seqS (exprS (mutE gPopAt [4] [] (varE 4) (consA [] (varE 3) nilA)))
  skipS)
  (seqS (ifS (boolT (op2E gEq [] (varE 5) (constE (.int 1))))
  (seqS (exprS (mutE gInsert [4] [0] (varE 4) (consA [0] (varE 3) (consA [] (ixE [0] (varE 4) (fnE [(0, 0)] [] f_law_digit (consA [] (varE 0) (consA [] (callE gLen (consA [] (varE 4) nilA)) nilA)))) nilA))))
  skipS)
  (seqS (ifS (boolT (op2E gEq [] (varE 5) (constE (.int 2))))
  (seqS (asgS 6 [0] [] (fnE [(0, 0)] [] f_law_digit (consA [] (varE 0) (consA [] (callE gLen (consA [] (varE 4) nilA)) nilA))))
  (seqS (swapS [4] [] [4] [] (varE 4) (varE 3) (varE 4) (varE 6) (tupE [] (consA [] (ixE [] (varE 4) (varE 6)) (consA [] (ixE [] (varE 4) (varE 3)) nilA))))
  skipS))
  (seqS (ifS (boolT (op2E gEq [] (varE 5) (constE (.int 3))))
  (seqS (setS [4] [] [] [] (op2E gAdd [] (op2E gAdd [] (sliceE gSl [0] (ixE [] (varE 4) (varE 3)) noO (partO (fnE [(0, 0)] [] f_law_digit (consA [] (varE 0) (consA [] (constE (.int 120)) nilA))))) (constE (.str "x"))) (sliceE gSl [] (ixE [] (varE 4) (varE 3)) noO (partO (constE (.int 50))))) (varE 4) (varE 3))
  skipS)
  (seqS (ifS (boolT (op2E gEq [] (varE 5) (constE (.int 4))))
  (seqS (asgS 7 [0] [] (op2E gMul [0] (constE (.int 2)) (fnE [(0, 0)] [] f_law_digit (consA [] (varE 0) (consA [] (constE (.int 60)) nilA)))))
  (seqS (setS [4] [] [] [] (op2E gAdd [] (op2E gAdd [0] (sliceE gSl [] (ixE [] (varE 4) (varE 3)) noO (partO (varE 7))) (fnE [(0, 0)] [] f_law_pick (consA [] (varE 0) (consA [] (tupE [] (consA [] (constE (.str "97")) (consA [] (constE (.str "99")) (consA [] (constE (.str "-1")) (consA [] (constE (.str "a0")) (consA [] (constE (.str "1")) nilA)))))) nilA)))) (sliceE gSl [] (ixE [] (varE 4) (varE 3)) (partO (op2E gAdd [] (varE 7) (constE (.int 2)))) noO)) (varE 4) (varE 3))
  skipS))
  skipS)
  skipS))
  skipS))
  skipS))
  skipS))
  (seqS (retS [0] (varE 4))
  skipS)))))))
noncomputable def f_law_changed : FF := runF 2 9 [0] m_law_changed
noncomputable def ce_law_odd_line_1 : EF := (op2E gAdd [0] (constE (.int 1)) (fnE [(0, 0)] [] f_law_digit (consA [] (varE 0) (consA [] (constE (.int 73)) nilA))))
noncomputable def c_law_odd_line_1 : EF := compE [4] [0] [] (nameG 4 []) (range1I (consA [] (constE (.int 55)) nilA)) yesT ce_law_odd_line_1
noncomputable def m_law_odd_line : SF :=
  (seqS (asgS 2 [0] [] c_law_odd_line_1)
  (seqS (asgS 3 [0] [] (fnE [(0, 0)] [] f_law_digit (consA [] (varE 0) (consA [] (constE (.int 55)) nilA))))
  (seqS (setS [2] [] [] [] (fnE [(0, 0)] [] f_law_pick (consA [] (varE 0) (consA [] (tupE [] (consA [] (constE (.int 74)) (consA [] (constE (.int 0)) (consA [] (constE (.int 75)) (consA [] (constE (.int 96)) nilA))))) nilA))) (varE 2) (varE 3))
  (seqS (ifS (boolT (op2E gEq [] (fnE [(0, 0)] [] f_law_digit (consA [] (varE 0) (consA [] (constE (.int 2)) nilA))) (constE (.int 0))))
  (seqS (asgS 2 [0] [] (op2E gAdd [] (sliceE gSl [] (varE 2) noO (partO (op2E gAdd [] (varE 3) (constE (.int 1))))) (op2E gMul [] (lstE [] (consA [] (constE (.int 0)) nilA)) (op2E gSub [] (constE (.int 54)) (varE 3)))))
  skipS)
  skipS)
  (seqS (retS [0] (fnE [] [] f_law_line (consA [] (varE 1) (consA [] (varE 2) nilA))))
  skipS)))))
noncomputable def f_law_odd_line : FF := runF 2 5 [0] m_law_odd_line
noncomputable def b_law_1 : SF :=
  (seqS (asgS 12 [] [] (fnE [(0, 2)] [] f_law_changed (consA [] (varE 2) (consA [] (varE 11) nilA))))
  (seqS (ifS (boolT (op2E gNe [] (fnE [] [] f_text_of (consA [] (callE gList (consA [] (varE 12) nilA)) nilA)) (fnE [] [] f_law_told (consA [] (varE 12) nilA))))
  (seqS (retS [] (constE (.bl false)))
  skipS)
  skipS)
  skipS))
noncomputable def l_law_1 : SF := forS [2] (nameG 3 []) (range1I (consA [] (constE (.int 4)) nilA)) b_law_1
noncomputable def ce_law_1 : EF := (fnE [] [] f_law_written (consA [] (varE 13) nilA))
noncomputable def c_law_1 : EF := compE [13] [] [] (nameG 13 []) (seqKI 11) yesT ce_law_1
noncomputable def ce_law_2 : EF := (fnE [(0, 2)] [] f_law_pick (consA [] (varE 2) (consA [] (fnE [] [] f_law_signs nilA) nilA)))
noncomputable def c_law_2 : EF := compE [7] [2] [] (nameG 7 []) (range1I (consA [] (varE 9) nilA)) yesT ce_law_2
noncomputable def b_law_2 : SF :=
  (seqS (setS [6] [] [] [2] (fnE [(0, 2)] [] f_law_digit (consA [] (varE 2) (consA [] (constE (.int 97)) nilA))) (varE 6) (fnE [(0, 2)] [] f_law_digit (consA [] (varE 2) (consA [] (constE (.int 60)) nilA))))
  skipS)
noncomputable def l_law_2 : SF := forS [2, 2, 6] (nameG 7 []) (range1I (consA [] (fnE [(0, 2)] [] f_law_pick (consA [] (varE 2) (consA [] (tupE [] (consA [] (constE (.int 0)) (consA [] (constE (.int 1)) (consA [] (constE (.int 1)) (consA [] (constE (.int 2)) (consA [] (constE (.int 3)) (consA [] (constE (.int 60)) nilA))))))) nilA))) nilA)) b_law_2
noncomputable def ce_law_3 : EF := (fnE [(0, 2)] [] f_law_digit (consA [] (varE 2) (consA [] (constE (.int 97)) nilA)))
noncomputable def c_law_3 : EF := compE [7] [2] [] (nameG 7 []) (range1I (consA [] (constE (.int 55)) nilA)) yesT ce_law_3
noncomputable def b_law_3 : SF :=
  (seqS (asgS 4 [] [] (fnE [(0, 2)] [] f_law_pick (lateA 2 (consA [] (tupE [] (consA [2] (constE (.int 1)) (consA [2] (constE (.int 2)) (consA [2] (constE (.int 97)) (consA [2] (constE (.int 98)) (consA [2] (constE (.int 9408)) (consA [] (op2E gAdd [2] (constE (.int 1)) (fnE [(0, 2)] [] f_law_digit (consA [] (varE 2) (consA [] (constE (.int 9408)) nilA)))) nilA))))))) nilA))))
  (seqS (asgS 5 [] [] c_law_3)
  (seqS (asgS 6 [] [] (fnE [] [] f_law_line (consA [] (varE 4) (consA [] (varE 5) nilA))))
  (seqS (ifS (boolT (op2E gNe [] (fnE [] [] f_line_of (consA [] (varE 4) (consA [] (callE gList (consA [] (varE 5) nilA)) nilA))) (varE 6)))
  (seqS (retS [] (constE (.bl false)))
  skipS)
  skipS)
  (seqS l_law_2
  (seqS (asgS 8 [] [] (callE gList (consA [] (varE 6) nilA)))
  (seqS (ifS (orT (boolT (op2E gNe [] (fnE [] [] f_righted (consA [] (varE 6) nilA)) (fnE [] [] f_law_righted (consA [] (varE 8) nilA)))) (boolT (op2E gNe [] (varE 6) (varE 8))))
  (seqS (retS [] (constE (.bl false)))
  skipS)
  skipS)
  skipS)))))))
noncomputable def l_law_3 : SF := forS [2, 2, 2, 2, 2, 2, 6] (nameG 3 []) (range1I (consA [] (constE (.int 4)) nilA)) b_law_3
noncomputable def b_law_4 : SF :=
  (seqS (asgS 2 [] [] (fnE [] [] f_law_stream (consA [] (varE 0) (consA [] (varE 1) nilA))))
  (seqS l_law_3
  (seqS (asgS 9 [] [] (fnE [(0, 2)] [] f_law_pick (lateA 2 (consA [] (tupE [] (consA [2] (constE (.int 0)) (consA [2] (constE (.int 54)) (consA [2] (constE (.int 55)) (consA [2] (constE (.int 109)) (consA [] (fnE [(0, 2)] [] f_law_digit (consA [] (varE 2) (consA [] (constE (.int 160)) nilA))) nilA)))))) nilA))))
  (seqS (asgS 10 [] [] (methE "str" gJoin [2] (constE (.str "")) (consA [] c_law_2 nilA)))
  (seqS (asgS 11 [] [] (fnE [] [] f_law_text_lines (consA [] (varE 10) nilA)))
  (seqS (ifS (boolT (op2E gNe [11] (fnE [] [] f_lines_of (consA [] (varE 10) nilA)) c_law_1))
  (seqS (retS [] (constE (.bl false)))
  skipS)
  skipS)
  (seqS (ifS (boolT (op2E gEq [] (fnE [(0, 2)] [] f_law_digit (consA [] (varE 2) (consA [] (constE (.int 3)) nilA))) (constE (.int 0))))
  (seqS (setS [11] [] [] [] (fnE [(0, 2)] [] f_law_odd_line (consA [] (varE 2) (consA [] (callE gLen (consA [] (varE 11) nilA)) nilA))) (varE 11) (op1E gNeg (constE (.int 1))))
  skipS)
  skipS)
  (seqS l_law_1
  skipS))))))))
noncomputable def l_law_4 : SF := forS [2, 2, 2, 2, 2, 2, 6, 2, 2, 2, 11, 2, 2, 11, 2] (nameG 1 []) (range1I (consA [] (constE (.int 3)) nilA)) b_law_4
noncomputable def m_law : SF :=
  (seqS l_law_4
  (seqS (retS [] (constE (.bl true)))
  skipS))
noncomputable def f_law : FF := runF 1 14 [] m_law
end KL

set_option Elab.async false
set_option linter.all false
set_option maxRecDepth 100000
/-! VCD: lemmas for running mirrors. -/
namespace VC
open PySem
abbrev dI (xs : List Int) : List D := xs.map D.int
abbrev dS (xs : List Str) : List D := xs.map D.str
theorem coldL_ints (xs : List Int) : coldL (xs.map D.int) = true := coldL_of fun d hd => by
  obtain ⟨i, _, rfl⟩ := List.mem_map.mp hd; rfl
theorem hotL_ints (xs : List Int) : hotL (xs.map D.int) = true := by
  induction xs with
  | nil => rfl
  | cons x xs ih => simp only [List.map_cons, hotL, D.hot, ih, Bool.and_self]
theorem frzL_ints (xs : List Int) : frzL (xs.map D.int) = xs.map D.int := frzL_cold (coldL_ints xs)
theorem coldL_strs (xs : List Str) : coldL (xs.map D.str) = true := coldL_of fun d hd => by
  obtain ⟨i, _, rfl⟩ := List.mem_map.mp hd; rfl
theorem hotL_strs (xs : List Str) : hotL (xs.map D.str) = true := by
  induction xs with
  | nil => rfl
  | cons x xs ih => simp only [List.map_cons, hotL, D.hot, ih, Bool.and_self]
theorem frzL_strs (xs : List Str) : frzL (xs.map D.str) = xs.map D.str := frzL_cold (coldL_strs xs)
theorem intsOf_ints (xs : List Int) : intsOf (xs.map D.int) = some xs := by
  induction xs with
  | nil => rfl
  | cons x xs ih => simp only [List.map_cons, intsOf, ih, Option.map_some]
theorem strsOf_strs (xs : List Str) : strsOf (xs.map D.str) = some xs := by
  induction xs with
  | nil => rfl
  | cons x xs ih => simp only [List.map_cons, strsOf, ih, Option.map_some]
theorem cutD_ints (xs : List Int) (lo hi : Option Int) : cutD (xs.map D.int) lo hi = ((xs.drop (HT.sIx xs.length 0 lo)).take (HT.sIx xs.length xs.length hi - HT.sIx xs.length 0 lo)).map D.int := by
  unfold cutD
  rw [List.length_map, ← List.map_drop, ← List.map_take]
theorem repL_ints (n : Nat) (x : Int) : repL n [.int x] = (List.replicate n x).map D.int := by
  unfold repL
  induction n with
  | zero => rfl
  | succ n ih =>
    rw [List.replicate_succ, List.flatten_cons, ih, List.replicate_succ, List.map_cons]; rfl
theorem rangeL_zero (lo c : Int) : rangeL lo c 0 = [] := rfl
theorem rangeL_succ (lo c : Int) (n : Nat) : rangeL lo c (n + 1) = .int lo :: rangeL (lo + c) c n := by
  unfold rangeL
  rw [List.range_succ_eq_map, List.map_cons, List.map_map]
  congr 1
  · simp
  · apply List.map_congr_left
    intro i _
    show D.int (lo + ((i + 1 : Nat) : Int) * c) = D.int (lo + c + (i : Nat) * c)
    congr 1
    rw [show ((i + 1 : Nat) : Int) = (i : Int) + 1 by omega, Int.add_mul]
    omega
theorem rangeL_ints (lo c : Int) (n : Nat) : rangeL lo c n = ((List.range n).map fun (i : Nat) => lo + (i : Int) * c).map D.int := by
  unfold rangeL; rw [List.map_map]; rfl
/-- a loop that goes through, by a word of what is left -/
theorem forL_go {bd : D → Env → Option Env} {body : SF} (I : List D → Env → Prop) (hs : ∀ d ds env, I (d :: ds) env → ∃ env1 e2, bd d env = some env1 ∧ (body env1 = some (.nx e2) ∨ body env1 = some (.ct e2)) ∧ I ds e2) : ∀ ds env, I ds env → ∃ e, forL bd body ds env = some (.nx e) ∧ I [] e
  | [], env, h => ⟨env, rfl, h⟩
  | d :: ds, env, h => by
    obtain ⟨env1, e2, h1, h2, h3⟩ := hs d ds env h
    obtain ⟨e, h4, h5⟩ := forL_go I hs ds e2 h3
    refine ⟨e, ?_, h5⟩
    unfold forL
    rw [h1]
    rcases h2 with h2 | h2 <;> simp only [Option.bind_some, h2, h4]
/-- .. that may return -/
theorem forL_rt {bd : D → Env → Option Env} {body : SF} (I : List D → Env → Prop) (R : D → Env → Prop) (hs : ∀ d ds env, I (d :: ds) env → (∃ env1 e2, bd d env = some env1 ∧ (body env1 = some (.nx e2) ∨ body env1 = some (.ct e2)) ∧ I ds e2) ∨ ∃ env1 r e2, bd d env = some env1 ∧ body env1 = some (.rt r e2) ∧ R r e2) :
    ∀ ds env, I ds env → (∃ e, forL bd body ds env = some (.nx e) ∧ I [] e) ∨ ∃ r e, forL bd body ds env = some (.rt r e) ∧ R r e
  | [], env, h => .inl ⟨env, rfl, h⟩
  | d :: ds, env, h => by
    rcases hs d ds env h with ⟨env1, e2, h1, h2, h3⟩ | ⟨env1, r, e2, h1, h2, h3⟩
    · rcases forL_rt I R hs ds e2 h3 with ⟨e, h4, h5⟩ | ⟨r, e, h4, h5⟩
      · refine .inl ⟨e, ?_, h5⟩
        unfold forL
        rw [h1]
        rcases h2 with h2 | h2 <;> simp only [Option.bind_some, h2, h4]
      · refine .inr ⟨r, e, ?_, h5⟩
        unfold forL
        rw [h1]
        rcases h2 with h2 | h2 <;> simp only [Option.bind_some, h2, h4]
    · refine .inr ⟨r, e2, ?_, h3⟩
      unfold forL
      rw [h1]
      simp only [Option.bind_some, h2]
/-- a comprehension that changes nothing -/
theorem compL_pure {vs Mc : List Nat} {bd : D → Env → Option Env} {tc : TF} {fe : EF} {env : Env} (c : D → Bool) (g : D → D) : ∀ {ds : List D}, (∀ d ∈ ds, ∃ e1, bd d env = some e1 ∧ tc e1 = some (c d, e1) ∧ (c d = true → fe e1 = some (g d, .tmp, e1)) ∧ e1.wipe vs = env) → compL vs Mc bd tc fe ds env = some ((ds.filter c).map g, env)
  | [], _ => rfl
  | d :: ds, h => by
    obtain ⟨e1, h1, h2, h3, h4⟩ := h d (by simp)
    have ih := compL_pure (vs := vs) (Mc := Mc) (bd := bd) (tc := tc) (fe := fe) (env := env) c g (ds := ds) fun d hd => h d (by simp [hd])
    unfold compL
    rw [h1]
    simp only [Option.bind_some, h2]
    cases hc : c d with
    | false => simp only [Bool.false_eq_true, if_false, h4, ih, List.filter_cons, hc]
    | true => simp only [if_true, h3 hc, Option.bind_some, take1, h4, ih, Option.map_some, List.filter_cons, hc, List.map_cons]
theorem compL_map {vs Mc : List Nat} {bd : D → Env → Option Env} {fe : EF} {env : Env} (g : D → D) {ds : List D} (h : ∀ d ∈ ds, ∃ e1, bd d env = some e1 ∧ fe e1 = some (g d, .tmp, e1) ∧ e1.wipe vs = env) : compL vs Mc bd yesT fe ds env = some (ds.map g, env) := by
  have := compL_pure (vs := vs) (Mc := Mc) (bd := bd) (tc := yesT) (fe := fe) (env := env) (fun _ => true) g (ds := ds) fun d hd => by
    obtain ⟨e1, h1, h2, h3⟩ := h d hd
    exact ⟨e1, h1, rfl, fun _ => h2, h3⟩
  rw [this, List.filter_eq_self.mpr (fun _ _ => rfl)]
/-- a comprehension that changes what it draws from -/
theorem compL_inv {vs Mc : List Nat} {bd : D → Env → Option Env} {fe : EF} (I : Env → Prop) (R : D → Prop) : ∀ {ds : List D} {env : Env}, (∀ d ∈ ds, ∀ env, I env → ∃ e1 y e3, bd d env = some e1 ∧ fe e1 = some (y, .tmp, e3) ∧ R y ∧ I (e3.wipe vs)) → I env →
    ∃ ys e', compL vs Mc bd yesT fe ds env = some (ys, e') ∧ I e' ∧ ys.length = ds.length ∧ ∀ y ∈ ys, R y
  | [], env, _, h => ⟨[], env, rfl, h, rfl, by simp⟩
  | d :: ds, env, hs, h => by
    obtain ⟨e1, y, e3, h1, h2, h3, h4⟩ := hs d (by simp) env h
    obtain ⟨ys, e', h5, h6, h7, h8⟩ := compL_inv (vs := vs) (Mc := Mc) (bd := bd) (fe := fe) I R (ds := ds) (fun d hd => hs d (by simp [hd])) h4
    refine ⟨y :: ys, e', ?_, h6, by simp [h7], fun z hz => ?_⟩
    · unfold compL
      rw [h1]
      simp only [Option.bind_some, yesT, if_true, h2, take1, h5, Option.map_some]
    · rcases List.mem_cons.mp hz with rfl | hz
      · exact h3
      · exact h8 z hz
theorem forL_nx {bd : D → Env → Option Env} {body : SF} {d : D} {ds : List D} {env env1 e2 : Env} (h1 : bd d env = some env1) (h2 : body env1 = some (.nx e2)) : forL bd body (d :: ds) env = forL bd body ds e2 := by
  conv => lhs; unfold forL
  rw [h1]
  simp only [Option.bind_some, h2]
theorem forL_ret {bd : D → Env → Option Env} {body : SF} {d r : D} {ds : List D} {env env1 e2 : Env} (h1 : bd d env = some env1) (h2 : body env1 = some (.rt r e2)) : forL bd body (d :: ds) env = some (.rt r e2) := by
  conv => lhs; unfold forL
  rw [h1]
  simp only [Option.bind_some, h2]
theorem seq_nx {f g : SF} {env e1 : Env} (h : f env = some (.nx e1)) : seqS f g env = g e1 := by
  unfold seqS; rw [h]
theorem seq_rt {f g : SF} {env e1 : Env} {d : D} (h : f env = some (.rt d e1)) : seqS f g env = some (.rt d e1) := by
  unfold seqS; rw [h]
theorem gAdd_int (i j : Int) : gAdd (.int i) (.int j) = some (.int (i + j)) := rfl
theorem gAdd_str (a b : Str) (h : a.length + b.length ≤ sizeLine) : gAdd (.str a) (.str b) = some (.str (a ++ b)) := by
  unfold gAdd; exact if_pos h
theorem gAdd_lst (z y : Z) (xs ys : List D) (h1 : z ≠ .fix) (h2 : y ≠ .fix) (h3 : coldL xs = true) (h4 : coldL ys = true) (h5 : xs.length + ys.length ≤ sizeLine) : gAdd (.lst z xs) (.lst y ys) = some (.lst .own (xs ++ ys)) := by
  unfold gAdd; exact if_pos ⟨h1, h2, h3, h4, h5⟩
theorem gSub_int (i j : Int) : gSub (.int i) (.int j) = some (.int (i - j)) := rfl
theorem gMul_int (i j : Int) (h : small64 i = true ∨ small64 j = true) : gMul (.int i) (.int j) = some (.int (i * j)) := by
  unfold gMul; exact if_pos h
theorem gMul_lst (z : Z) (xs : List D) (k : Int) (h1 : z ≠ .fix) (h2 : coldL xs = true) (h3 : small63 k = true) (h5 : xs.length * k.toNat ≤ sizeLine) : gMul (.lst z xs) (.int k) = some (.lst .own (repL k.toNat xs)) := by
  unfold gMul; exact if_pos ⟨h1, h2, h3, h5⟩
theorem gFdiv_int (i j : Int) (h : j ≠ 0) (h2 : j.natAbs < 1073741824) : gFdiv (.int i) (.int j) = some (.int (i.fdiv j)) := by
  unfold gFdiv; exact if_pos ⟨h, h2⟩
theorem gMod_int (i j : Int) (h : j ≠ 0) : gMod (.int i) (.int j) = some (.int (i.fmod j)) := by
  unfold gMod; exact if_pos h
theorem gNeg_int (i : Int) : gNeg (.int i) = some (.int (-i)) := rfl
theorem gLt_int (i j : Int) : gLt (.int i) (.int j) = some (.bl (decide (i < j))) := rfl
theorem gLe_int (i j : Int) : gLe (.int i) (.int j) = some (.bl (decide (i ≤ j))) := rfl
theorem gGt_int (i j : Int) : gGt (.int i) (.int j) = some (.bl (decide (j < i))) := rfl
theorem gGe_int (i j : Int) : gGe (.int i) (.int j) = some (.bl (decide (j ≤ i))) := rfl
theorem gIsN_eq (d : D) : gIsN d .non = some (.bl (isNon d)) := rfl
theorem gNotN_eq (d : D) : gNotN d .non = some (.bl (!isNon d)) := rfl
theorem gInt_int (i : Int) : gInt [.int i] = some (.int i) := rfl
theorem gInt_str (s : Str) (n : Int) (h : s.length ≤ 640) (h2 : PySem.intText? s = some n) : gInt [.str s] = some (.int n) := by
  unfold gInt
  simp only [if_pos h, h2, Option.map_some]
theorem gLen_str (s : Str) (h : s.length ≤ sizeLine) : gLen [.str s] = some (.int (s.length : Nat)) := by
  unfold gLen; exact if_pos h
theorem gLen_lst (z : Z) (xs : List D) : gLen [.lst z xs] = some (.int (xs.length : Nat)) := rfl
theorem gLen_tup (xs : List D) : gLen [.tup xs] = some (.int (xs.length : Nat)) := rfl
theorem gStr_int (i : Int) (h : i.natAbs.log2 < 1920) : gStr [.int i] = some (.str (toString i)) := by
  unfold gStr; exact if_pos h
theorem gList_lst (z : Z) (xs : List D) (h : coldL xs = true) : gList [.lst z xs] = some (.lst .own xs) := by
  unfold gList; exact if_pos h
theorem gSl_lst (z : Z) (xs : List D) (lo hi : Option Int) (h : coldL xs = true) : gSl (.lst z xs) lo hi = some (.lst .own (cutD xs lo hi)) := by
  unfold gSl; exact if_pos h
theorem gSl_str (s : Str) (lo hi : Option Int) (h : s.length ≤ sizeLine) : gSl (.str s) lo hi = some (.str (L2.cutS s lo hi)) := by
  unfold gSl; exact if_pos h
theorem gTru_bl (b : Bool) : gTru (.bl b) = some b := rfl
theorem gEq_eq (a b : D) (h1 : shp a = true) (h2 : shp b = true) : gEq a b = some (.bl (deq a b)) := by
  unfold gEq; exact if_pos ⟨h1, h2⟩
theorem gNe_eq (a b : D) (h1 : shp a = true) (h2 : shp b = true) : gNe a b = some (.bl (!deq a b)) := by
  unfold gNe; exact if_pos ⟨h1, h2⟩
end VC

set_option Elab.async false
set_option linter.all false
set_option maxRecDepth 100000
/-! VCE: equality and size lemmas for running mirrors. -/
namespace VC
open PySem
theorem frost_own : Z.frost .own = .frz := rfl
theorem frost_frz : Z.frost .frz = .frz := rfl
theorem frost_fix : Z.frost .fix = .fix := rfl
theorem le_size {n : Nat} (h : n ≤ 100000) : (n ≤ sizeLine) = True := eq_true (Nat.le_trans h (by decide))
theorem lt_size {n : Nat} (h : n ≤ 100000) : (n < sizeLine) = True := eq_true (Nat.lt_of_le_of_lt h (by decide))
theorem deq_int (a b : Int) : deq (.int a) (.int b) = decide (a = b) := id rfl
theorem deq_str (a b : Str) : deq (.str a) (.str b) = decide (a = b) := by
  show (a == b) = _
  by_cases h : a = b <;> simp [h]
theorem eqvAll_ints : ∀ xs ys : List Int, PyData.eqvAll (pyL (dI xs)) (pyL (dI ys)) = decide (xs = ys)
  | [], [] => rfl
  | [], _ :: _ => by simp [pyL, PyData.eqvAll]
  | _ :: _, [] => by simp [pyL, PyData.eqvAll]
  | x :: xs, y :: ys => by
    have ih := eqvAll_ints xs ys
    simp only [List.map_cons, pyL, PyData.eqvAll, D.py, PyData.eqv] at ih ⊢
    rw [ih]
    by_cases h : x = y <;> by_cases h2 : xs = ys <;> simp [h, h2]
theorem eqvAll_strs : ∀ xs ys : List Str, PyData.eqvAll (pyL (dS xs)) (pyL (dS ys)) = decide (xs = ys)
  | [], [] => rfl
  | [], _ :: _ => by simp [pyL, PyData.eqvAll]
  | _ :: _, [] => by simp [pyL, PyData.eqvAll]
  | x :: xs, y :: ys => by
    have ih := eqvAll_strs xs ys
    simp only [List.map_cons, pyL, PyData.eqvAll, D.py, PyData.eqv] at ih ⊢
    rw [ih]
    by_cases h : x = y <;> by_cases h2 : xs = ys <;> simp [h, h2]
theorem deq_ints (z y : Z) (xs ys : List Int) : deq (.lst z (dI xs)) (.lst y (dI ys)) = decide (xs = ys) := eqvAll_ints xs ys
theorem deq_strs (z y : Z) (xs ys : List Str) : deq (.lst z (dS xs)) (.lst y (dS ys)) = decide (xs = ys) := eqvAll_strs xs ys
theorem shp_int (i : Int) : shp (.int i) = true := id rfl
theorem shp_str {s : Str} (h : PyData.strOk s = true) : shp (.str s) = true := by
  unfold shp SeqAt.shaped
  simp [D.py, PyData.canLay0, h, PyData.depth]
theorem shp_non : shp .non = true := id rfl
theorem shp_bl (b : Bool) : shp (.bl b) = true := id rfl
theorem lay_ints : ∀ xs : List Int, PyData.canLayAll0 (pyL (xs.map D.int)) = true ∧ PyData.depthAll (pyL (xs.map D.int)) ≤ 0
  | [] => ⟨rfl, by decide⟩
  | x :: xs => by
    have ih := lay_ints xs
    simp only [List.map_cons, pyL, D.py, PyData.canLayAll0, PyData.canLay0, PyData.depthAll, PyData.depth]
    exact ⟨by simpa using ih.1, by have := ih.2; omega⟩
theorem lay_strs : ∀ xs : List Str, (∀ x ∈ xs, PyData.strOk x = true) → PyData.canLayAll0 (pyL (xs.map D.str)) = true ∧ PyData.depthAll (pyL (xs.map D.str)) ≤ 0
  | [], _ => ⟨rfl, by decide⟩
  | x :: xs, h => by
    have ih := lay_strs xs fun y hy => h y (by simp [hy])
    simp only [List.map_cons, pyL, D.py, PyData.canLayAll0, PyData.canLay0, PyData.depthAll, PyData.depth]
    exact ⟨by simpa [h x (by simp)] using ih.1, by have := ih.2; omega⟩
theorem shp_ints (z : Z) (xs : List Int) : shp (.lst z (xs.map D.int)) = true := by
  have h := lay_ints xs
  unfold shp SeqAt.shaped
  have h2 := h.2
  simp only [D.py, PyData.canLay0, PyData.depth, h.1, Bool.true_and, decide_eq_true_eq]
  exact Nat.le_trans (Nat.add_le_add_right h2 1) (by decide)
theorem shp_strs (z : Z) (xs : List Str) (h : ∀ x ∈ xs, PyData.strOk x = true) : shp (.lst z (xs.map D.str)) = true := by
  have h := lay_strs xs h
  unfold shp SeqAt.shaped
  have h2 := h.2
  simp only [D.py, PyData.canLay0, PyData.depth, h.1, Bool.true_and, decide_eq_true_eq]
  exact Nat.le_trans (Nat.add_le_add_right h2 1) (by decide)
theorem shp_three (z : Z) (a b c : Int) : shp (.lst z [.int a, .int b, .int c]) = true := shp_ints z [a, b, c]
theorem deq_three (z y : Z) (a b c a' b' c' : Int) : deq (.lst z [.int a, .int b, .int c]) (.lst y [.int a', .int b', .int c']) = (decide (a = a') && decide (b = b') && decide (c = c')) := by
  rw [show (D.lst z [.int a, .int b, .int c]) = .lst z (dI [a, b, c]) from rfl, show (D.lst y [.int a', .int b', .int c']) = .lst y (dI [a', b', c']) from rfl, deq_ints]
  by_cases h1 : a = a' <;> by_cases h2 : b = b' <;> by_cases h3 : c = c' <;> simp [h1, h2, h3]
theorem shp_strint {a : Str} (i : Int) (h : PyData.strOk a = true) : shp (.tup [.str a, .int i]) = true := by
  unfold shp SeqAt.shaped
  simp [D.py, pyL, PyData.canLay0, PyData.canLayAll0, h, PyData.depth, PyData.depthAll]
theorem shp_strstr {a i : Str} (h : PyData.strOk a = true) (h2 : PyData.strOk i = true) : shp (.tup [.str a, .str i]) = true := by
  unfold shp SeqAt.shaped
  simp [D.py, pyL, PyData.canLay0, PyData.canLayAll0, h, h2, PyData.depth, PyData.depthAll]
theorem deq_refl_ints (z y : Z) (xs : List Int) : deq (.lst z (dI xs)) (.lst y (dI xs)) = true := by rw [deq_ints]; simp
end VC

set_option linter.all false
set_option maxRecDepth 100000
/-! sums modulo 97, lines. -/
namespace KN
/-- Σ (p + i)^j x_i -/
def W (j : Nat) : Int → List Int → Int
  | _, [] => 0
  | p, x :: xs => p ^ j * x + W j (p + 1) xs
theorem W_append (j : Nat) : ∀ (p : Int) (xs ys : List Int), W j p (xs ++ ys) = W j p xs + W j (p + xs.length) ys
  | p, [], ys => by simp [W]
  | p, x :: xs, ys => by
    simp only [List.cons_append, W, W_append j (p + 1) xs ys, List.length_cons]
    rw [show p + 1 + (xs.length : Int) = p + ((xs.length + 1 : Nat) : Int) by omega]
    omega
theorem W_set (j : Nat) : ∀ (p : Int) (xs : List Int) (k : Nat) (x y : Int), xs[k]? = some x → W j p (xs.set k y) = W j p xs + (p + k) ^ j * (y - x)
  | p, [], k, x, y, h => by simp at h
  | p, a :: xs, 0, x, y, h => by
    simp at h
    subst h
    simp only [List.set_cons_zero, W]
    simp only [Int.mul_sub]
    simp
    omega
  | p, a :: xs, k + 1, x, y, h => by
    simp only [List.set_cons_succ, W, W_set j (p + 1) xs k x y (by simpa using h)]
    rw [show p + 1 + (k : Int) = p + ((k + 1 : Nat) : Int) by omega]
    omega
def t0 (xs : List Int) : Int := W 0 1 xs % 97
def t1 (xs : List Int) : Int := W 1 1 xs % 97
def t2 (xs : List Int) : Int := W 2 1 xs % 97
def zeroT (xs : List Int) : Bool := t0 xs == 0 && t1 xs == 0 && t2 xs == 0

/-! ### the line's end -/
def endA (A0 A1 A2 : Int) : Int := (-((A2 - 117 * A1 + 3422 * A0) * 49)) % 97
theorem solve (A0 A1 A2 : Int) (n : Nat) : True := trivial
/-- for the place 58, 59, 60 -/
theorem W3 (j : Nat) (told : List Int) (a b c : Int) (h : told.length = 57) : W j 1 (told ++ [a, b, c]) = W j 1 told + (58 ^ j * a + (59 ^ j * b + (60 ^ j * c + 0))) := by
  rw [W_append]
  simp only [h, W]
  rfl
theorem zeroT3 (told : List Int) (a b c : Int) (h : told.length = 57) : zeroT (told ++ [a, b, c]) = true ↔
    (W 0 1 told + (a + b + c)) % 97 = 0 ∧ (W 1 1 told + (58 * a + 59 * b + 60 * c)) % 97 = 0 ∧ (W 2 1 told + (3364 * a + 3481 * b + 3600 * c)) % 97 = 0 := by
  unfold zeroT t0 t1 t2
  simp only [Bool.and_eq_true, beq_iff_eq, W3 _ told a b c h, and_assoc]
  simp only [Int.pow_zero, Int.one_mul, Int.pow_one, Int.reducePow, Int.add_zero]
  constructor <;> rintro ⟨h1, h2, h3⟩ <;> refine ⟨?_, ?_, ?_⟩ <;> omega
/-- the law's own: c and b by a -/
def lawC (A0 A1 a : Int) : Int := (59 * (A0 + a) - (A1 + 58 * a)) % 97
def lawB (A0 A1 a : Int) : Int := (0 - (A0 + a) - lawC A0 A1 a) % 97
/-- the program's own, of the reduced sums z o w -/
def prA (z o w : Int) : Int := (-((w - 119 * o + 3540 * z) * 49)) % 97
def prB (z o w : Int) : Int := (w - 118 * o + 3480 * z) % 97
def prC (z o w : Int) : Int := (-((w - 117 * o + 3422 * z) * 49)) % 97
theorem line_unique (A0 A1 A2 a : Int) (ha : 0 ≤ a ∧ a < 97) :
    ((A0 + (a + lawB A0 A1 a + lawC A0 A1 a)) % 97 = 0 ∧ (A1 + (58 * a + 59 * lawB A0 A1 a + 60 * lawC A0 A1 a)) % 97 = 0 ∧ (A2 + (3364 * a + 3481 * lawB A0 A1 a + 3600 * lawC A0 A1 a)) % 97 = 0) ↔ a = prA (A0 % 97) (A1 % 97) (A2 % 97) := by
  unfold lawB lawC prA
  constructor
  · rintro ⟨h1, h2, h3⟩; omega
  · intro h; refine ⟨?_, ?_, ?_⟩ <;> omega
theorem lawB_pr (A0 A1 A2 : Int) : lawB A0 A1 (prA (A0 % 97) (A1 % 97) (A2 % 97)) = prB (A0 % 97) (A1 % 97) (A2 % 97) := by
  unfold lawB lawC prA prB; omega
theorem lawC_pr (A0 A1 A2 : Int) : lawC A0 A1 (prA (A0 % 97) (A1 % 97) (A2 % 97)) = prC (A0 % 97) (A1 % 97) (A2 % 97) := by
  unfold lawC prA prC; omega

/-! ### one number put right -/
def inv97 (z : Int) : Int := (((List.range 97).map fun (i : Nat) => (i : Int)).find? fun y => z * y % 97 == 1).getD 0
theorem inv97_ok (z : Int) (h : 0 < z ∧ z < 97) : z * inv97 z % 97 = 1 := by
  have : ∀ i : Fin 97, (i : Int) ≠ 0 → ((i : Int) * inv97 (i : Int) % 97 = 1) := by decide +kernel
  have h2 := this ⟨z.toNat, by omega⟩
  simp only at h2
  rw [show ((z.toNat : Nat) : Int) = z by omega] at h2
  exact h2 (by omega)
def fixAt (xs : List Int) (k : Nat) : List Int := xs.set k ((xs.getD k 0 - t0 xs) % 97)
theorem fix_mod (A d z r y x : Int) (hA : A % 97 = r) (hy : y = (x - z) % 97) (hd : d % 97 = d % 97) : (A + d * (y - x)) % 97 = (r - d * z) % 97 := by
  have h1 : ∃ q, y - x = -z + 97 * q := ⟨(y - x + z) / 97, by omega⟩
  have h2 : ∃ u, A = r + 97 * u := ⟨A / 97, by omega⟩
  obtain ⟨q, hq⟩ := h1
  obtain ⟨u, hu⟩ := h2
  rw [hq, hu]
  have : r + 97 * u + d * (-z + 97 * q) = (r - d * z) + 97 * (u + d * q) := by grind
  rw [this]
  omega
theorem fix_zero (xs : List Int) (k : Nat) (hk : k < xs.length) : zeroT (fixAt xs k) = true ↔ (t1 xs - ((k : Int) + 1) * t0 xs) % 97 = 0 ∧ (t2 xs - ((k : Int) + 1) ^ 2 * t0 xs) % 97 = 0 := by
  have hx : xs[k]? = some xs[k] := List.getElem?_eq_getElem hk
  have hg : xs.getD k 0 = xs[k] := by simp [List.getD, hx]
  have e : ∀ j, W j 1 (fixAt xs k) = W j 1 xs + (1 + (k : Int)) ^ j * ((xs[k] - t0 xs) % 97 - xs[k]) := fun j => by
    unfold fixAt
    rw [W_set j 1 xs k _ _ hx, hg]
  have m : ∀ j r, W j 1 xs % 97 = r → W j 1 (fixAt xs k) % 97 = (r - (1 + (k : Int)) ^ j * t0 xs) % 97 := fun j r hr => by
    rw [e j]
    exact fix_mod _ _ _ _ _ _ hr rfl rfl
  have m0 := m 0 (t0 xs) rfl
  have m1 := m 1 (t1 xs) rfl
  have m2 := m 2 (t2 xs) rfl
  unfold zeroT
  simp only [Bool.and_eq_true, beq_iff_eq]
  show (W 0 1 (fixAt xs k) % 97 = 0 ∧ W 1 1 (fixAt xs k) % 97 = 0) ∧ W 2 1 (fixAt xs k) % 97 = 0 ↔ _
  rw [m0, m1, m2]
  rw [show (1 + (k : Int)) = (k : Int) + 1 by omega]
  simp only [Int.pow_zero, Int.one_mul, Int.pow_one, Int.sub_self, Int.zero_emod, true_and]
theorem place_iff (p z o w iz : Int) (hz : z * iz % 97 = 1) (hp : 1 ≤ p ∧ p ≤ 60) (ho : 0 ≤ o ∧ o < 97) (hw : 0 ≤ w ∧ w < 97) :
    ((o - p * z) % 97 = 0 ∧ (w - p ^ 2 * z) % 97 = 0) ↔ (p = o * iz % 97 ∧ w = p * o % 97) := by
  obtain ⟨v, hv⟩ : ∃ v, z * iz - 1 = 97 * v := ⟨(z * iz) / 97, by omega⟩
  constructor
  · rintro ⟨h1, h2⟩
    obtain ⟨u, hu⟩ : ∃ u, o - p * z = 97 * u := ⟨(o - p * z) / 97, by omega⟩
    obtain ⟨t, ht⟩ : ∃ t, w - p ^ 2 * z = 97 * t := ⟨(w - p ^ 2 * z) / 97, by omega⟩
    have e1 : o * iz - p = (o - p * z) * iz + p * (z * iz - 1) := by grind
    have e2 : w - p * o = (w - p ^ 2 * z) - p * (o - p * z) := by grind
    rw [hu, hv] at e1
    rw [hu, ht] at e2
    have e1' : o * iz - p = 97 * (u * iz + p * v) := by grind
    have e2' : w - p * o = 97 * (t - p * u) := by grind
    exact ⟨by omega, by omega⟩
  · rintro ⟨h1, h2⟩
    obtain ⟨u, hu⟩ : ∃ u, o * iz - p = 97 * u := ⟨(o * iz) / 97, by omega⟩
    obtain ⟨t, ht⟩ : ∃ t, p * o - w = 97 * t := ⟨(p * o) / 97, by omega⟩
    have e1 : o - p * z = z * (o * iz - p) - o * (z * iz - 1) := by grind
    rw [hu, hv] at e1
    have e1' : o - p * z = 97 * (z * u - o * v) := by grind
    have e2 : w - p ^ 2 * z = p * (o - p * z) - (p * o - w) := by grind
    rw [e1', ht] at e2
    have e2' : w - p ^ 2 * z = 97 * (p * (z * u - o * v) - t) := by grind
    exact ⟨by omega, by omega⟩
def lawR (xs : List Int) : Option (List Int) := if zeroT xs = true then some xs else (List.range 60).findSome? fun k => if zeroT (fixAt xs k) = true then some (fixAt xs k) else none
def prP (xs : List Int) : Int := t1 xs * inv97 (t0 xs) % 97
def prR (xs : List Int) : Option (List Int) := if zeroT xs = true then some xs else if t0 xs = 0 then none else
  if 1 ≤ prP xs ∧ prP xs ≤ 60 ∧ t2 xs = prP xs * t1 xs % 97 then some (fixAt xs (prP xs - 1).toNat) else none
theorem lawR_prR (xs : List Int) (hl : xs.length = 60) : lawR xs = prR xs := by
  unfold lawR prR
  by_cases hz : zeroT xs = true
  · rw [if_pos hz, if_pos hz]
  rw [if_neg hz, if_neg hz]
  have r0 : 0 ≤ t0 xs ∧ t0 xs < 97 := by unfold t0; omega
  have r1 : 0 ≤ t1 xs ∧ t1 xs < 97 := by unfold t1; omega
  have r2 : 0 ≤ t2 xs ∧ t2 xs < 97 := by unfold t2; omega
  by_cases h0 : t0 xs = 0
  · rw [if_pos h0, List.findSome?_eq_none_iff]
    intro k hk
    rw [List.mem_range] at hk
    rw [if_neg]
    rw [fix_zero xs k (by omega), h0]
    rintro ⟨a, b⟩
    apply hz
    unfold zeroT
    simp only [Int.mul_zero, Int.sub_zero] at a b
    simp only [Bool.and_eq_true, beq_iff_eq]
    omega
  · rw [if_neg h0]
    have hi := inv97_ok (t0 xs) (by omega)
    have key : ∀ k : Nat, k < 60 → (zeroT (fixAt xs k) = true ↔ ((k : Int) + 1 = prP xs ∧ t2 xs = ((k : Int) + 1) * t1 xs % 97)) := fun k hk => by
      rw [fix_zero xs k (by omega)]
      exact place_iff ((k : Int) + 1) (t0 xs) (t1 xs) (t2 xs) (inv97 (t0 xs)) hi (by omega) r1 r2
    by_cases hc : 1 ≤ prP xs ∧ prP xs ≤ 60 ∧ t2 xs = prP xs * t1 xs % 97
    · rw [if_pos hc]
      have hk : (prP xs - 1).toNat < 60 := by omega
      have hkk : (((prP xs - 1).toNat : Nat) : Int) + 1 = prP xs := by omega
      rw [List.findSome?_eq_some_iff]
      refine ⟨List.range (prP xs - 1).toNat, (prP xs - 1).toNat, (List.range' ((prP xs - 1).toNat + 1) (60 - ((prP xs - 1).toNat + 1))), ?_, ?_, ?_⟩
      · rw [List.range_eq_range', List.range_eq_range']
        have h1 : List.range' 0 60 = List.range' 0 (prP xs - 1).toNat ++ List.range' (prP xs - 1).toNat (60 - (prP xs - 1).toNat) := by
          have := List.range'_append (s := 0) (m := (prP xs - 1).toNat) (n := 60 - (prP xs - 1).toNat) (step := 1)
          simp only [Nat.one_mul, Nat.zero_add] at this
          rw [this]
          congr 1
          omega
        rw [h1, show 60 - (prP xs - 1).toNat = (60 - ((prP xs - 1).toNat + 1)) + 1 by omega, List.range'_succ]
      · rw [if_pos ((key _ hk).mpr ⟨hkk, by rw [hkk]; exact hc.2.2⟩)]
      · intro k hk'
        rw [List.mem_range] at hk'
        rw [if_neg]
        rw [key k (by omega)]
        rintro ⟨a, _⟩
        omega
    · rw [if_neg hc, List.findSome?_eq_none_iff]
      intro k hk
      rw [List.mem_range] at hk
      rw [if_neg]
      rw [key k hk]
      rintro ⟨a, b⟩
      apply hc
      rw [a] at b
      exact ⟨by omega, by omega, b⟩
end KN

set_option Elab.async false
set_option linter.all false
set_option maxRecDepth 100000
set_option maxHeartbeats 4000000
namespace KL
open PySem VC KN
theorem ixN_nat {n j : Nat} (h : j < n) : L2.ixN n (j : Int) = some j := by
  unfold L2.ixN
  rw [if_pos (by omega), if_pos (by omega)]
  simp
theorem get_dI {xs : List Int} {j : Nat} {x : Int} (h : xs[j]? = some x) : (xs.map D.int)[j]? = some (.int x) := by rw [List.getElem?_map, h]; rfl
theorem small64_of {i : Int} (h : -1000000 < i ∧ i < 1000000) : small64 i = true := grd_iff.mpr ⟨by omega, by omega⟩
theorem small62_of {i : Int} (h : -1000000000000 < i ∧ i < 1000000000000) : small62 i = true := grd_iff.mpr ⟨by omega, by omega⟩
theorem small64_of' {i : Int} (h : -1000000000000 < i ∧ i < 1000000000000) : small64 i = true := grd_iff.mpr ⟨by omega, by omega⟩
theorem sq_small {i : Int} (h : 0 ≤ i ∧ i < 1001) : -1000000000 < i * i ∧ i * i < 1000000000 := by
  have h1 : i * i ≤ 1001 * i := Int.mul_le_mul_of_nonneg_right (by omega) h.1
  have h2 : 0 ≤ i * i := Int.mul_nonneg h.1 h.1
  omega
theorem fmod97 (x : Int) : x.fmod 97 = x % 97 := Int.fmod_eq_emod_of_nonneg _ (by decide)
theorem fdiv_pos (x : Int) {y : Int} (h : 0 < y) : x.fdiv y = x / y := Int.fdiv_eq_ediv_of_nonneg _ (by omega)
/-! ### sums of the law -/
theorem totals_body (z : Z) (xs : List Int) (hl : xs.length ≤ 1000) (j : Nat) (x a b c : Int) (hg : xs[j]? = some x) :
    b_law_totals_1 [some (.lst z (dI xs)), some (.int a), some (.int b), some (.int c), some (.int j)] = some (.nx [some (.lst z (dI xs)), some (.int (a + x)), some (.int (b + ((j : Int) + 1) * x)), some (.int (c + ((j : Int) + 1) * ((j : Int) + 1) * x)), some (.int (j : Nat))]) := by
  have hlen : j < xs.length := (List.getElem?_eq_some_iff.mp hg).1
  have hix : L2.ixN xs.length (j : Int) = some j := ixN_nat hlen
  have hs1 : small64 ((j : Int) + 1) = true := small64_of (by omega)
  have hs2 : small64 (((j : Int) + 1) * ((j : Int) + 1)) = true := by
    have := sq_small (i := (j : Int) + 1) (by omega)
    exact small64_of' (by omega)
  simp [-List.map_map, seqS, ifS, skipS, exprS, asgS, setS, retS, unpS, boolT, testT, notT, andT, orT, ifT, yesT, op2E, op1E, ixE, varE, constE, callE, fnE, consA, nilA, lateA, lstE, tupE, ifE, andE, orE, notE, chainE, methE, sliceE, partO, noO, takeL, take1, taken, srcSlots, Env.get, Env.putAt, Env.cools_nil, D.put, D.imm, immL, D.cold, coldL, D.hot, hotL, Z.cold, Z.hot, Src.fresh, gAdd_int, gSub_int, gMul_int, gFdiv_int, gMod_int, gNeg_int, gLt_int, gLe_int, gGt_int, gGe_int, gIsN_eq, gNotN_eq, isNon, gInt_int, gLen_lst, gLen_tup, gTru_bl, argsD, lentOf, iosOk, putOuts, allHot, outsOf, D.frz, frzL, frost_own, frost_frz, frost_fix, nameG, consG, nilG, tupG, unlG, tyD, le_size, lt_size, gEq_eq, gNe_eq, deq_int, deq_ints, deq_three, shp_int, shp_ints, shp_three, shp_non, shp_bl, Env.wipe, Env.back, coldL_ints, hotL_ints, frzL_ints, coldL_strs, hotL_strs, frzL_strs, hix, hg, hs1, hs2, b_law_totals_1]
theorem totals_loop (z : Z) (xs : List Int) (hl : xs.length ≤ 1000) (suf : List Int) : ∀ (pre : List Int), xs = pre ++ suf → ∀ (a b c : Int) (o : Option D), ∃ o', forL (nameG 4 []) b_law_totals_1 (rangeL (pre.length : Nat) 1 suf.length) [some (.lst z (dI xs)), some (.int a), some (.int b), some (.int c), o] =
      some (.nx [some (.lst z (dI xs)), some (.int (a + W 0 (pre.length + 1) suf)), some (.int (b + W 1 (pre.length + 1) suf)), some (.int (c + W 2 (pre.length + 1) suf)), o']) := by
  induction suf with
  | nil => intro pre h a b c o; exact ⟨o, by simp [rangeL_zero, forL, W]⟩
  | cons x r ih =>
    intro pre h a b c o
    obtain ⟨o', ih⟩ := ih (pre ++ [x]) (by simp [h]) (a + x) (b + ((pre.length : Int) + 1) * x) (c + ((pre.length : Int) + 1) * ((pre.length : Int) + 1) * x) (some (.int (pre.length : Nat)))
    refine ⟨o', ?_⟩
    have hg : xs[pre.length]? = some x := by rw [h]; simp
    rw [List.length_cons, rangeL_succ, forL_nx (env1 := [some (.lst z (dI xs)), some (.int a), some (.int b), some (.int c), some (.int (pre.length : Nat))]) (by simp [-List.map_map, seqS, ifS, skipS, exprS, asgS, setS, retS, unpS, boolT, testT, notT, andT, orT, ifT, yesT, op2E, op1E, ixE, varE, constE, callE, fnE, consA, nilA, lateA, lstE, tupE, ifE, andE, orE, notE, chainE, methE, sliceE, partO, noO, takeL, take1, taken, srcSlots, Env.get, Env.putAt, Env.cools_nil, D.put, D.imm, immL, D.cold, coldL, D.hot, hotL, Z.cold, Z.hot, Src.fresh, gAdd_int, gSub_int, gMul_int, gFdiv_int, gMod_int, gNeg_int, gLt_int, gLe_int, gGt_int, gGe_int, gIsN_eq, gNotN_eq, isNon, gInt_int, gLen_lst, gLen_tup, gTru_bl, argsD, lentOf, iosOk, putOuts, allHot, outsOf, D.frz, frzL, frost_own, frost_frz, frost_fix, nameG, consG, nilG, tupG, unlG, tyD, le_size, lt_size, gEq_eq, gNe_eq, deq_int, deq_ints, deq_three, shp_int, shp_ints, shp_three, shp_non, shp_bl, Env.wipe, Env.back, coldL_ints, hotL_ints, frzL_ints, coldL_strs, hotL_strs, frzL_strs]) (totals_body z xs hl pre.length x a b c hg)]
    rw [List.length_append, List.length_singleton, show (((pre.length + 1 : Nat)) : Int) = (pre.length : Int) + 1 by omega] at ih
    rw [ih]
    simp only [W]
    rw [Int.pow_zero, Int.one_mul, Int.pow_one, show ((pre.length : Int) + 1) ^ 2 = ((pre.length : Int) + 1) * ((pre.length : Int) + 1) by rw [Int.pow_succ, Int.pow_one]]
    simp only [Int.add_assoc]
theorem totals_ok (z : Z) (xs : List Int) (hl : xs.length ≤ 1000) : f_law_totals [.lst z (dI xs)] = some (.lst .own [.int (t0 xs), .int (t1 xs), .int (t2 xs)], []) := by
  obtain ⟨o', h⟩ := totals_loop z xs hl xs [] rfl 0 0 0 none
  have hs : small62 (xs.length : Int) = true := small62_of (by omega)
  simp only [List.length_nil, Int.zero_add, Int.ofNat_zero] at h
  unfold f_law_totals runF m_law_totals l_law_totals_1 forS range1I
  simp [-List.map_map, seqS, ifS, skipS, exprS, asgS, setS, retS, unpS, boolT, testT, notT, andT, orT, ifT, yesT, op2E, op1E, ixE, varE, constE, callE, fnE, consA, nilA, lateA, lstE, tupE, ifE, andE, orE, notE, chainE, methE, sliceE, partO, noO, takeL, take1, taken, srcSlots, Env.get, Env.putAt, Env.cools_nil, D.put, D.imm, immL, D.cold, coldL, D.hot, hotL, Z.cold, Z.hot, Src.fresh, gAdd_int, gSub_int, gMul_int, gFdiv_int, gMod_int, gNeg_int, gLt_int, gLe_int, gGt_int, gGe_int, gIsN_eq, gNotN_eq, isNon, gInt_int, gLen_lst, gLen_tup, gTru_bl, argsD, lentOf, iosOk, putOuts, allHot, outsOf, D.frz, frzL, frost_own, frost_frz, frost_fix, nameG, consG, nilG, tupG, unlG, tyD, le_size, lt_size, gEq_eq, gNe_eq, deq_int, deq_ints, deq_three, shp_int, shp_ints, shp_three, shp_non, shp_bl, Env.wipe, Env.back, coldL_ints, hotL_ints, frzL_ints, coldL_strs, hotL_strs, frzL_strs, hs, h, fmod97, t0, t1, t2]
theorem cs97 : small64 97 = true := small64_of (by omega)
theorem find_filter {α : Type} [Inhabited α] (p : α → Bool) (d : α) : ∀ l : List α, (l.find? p).isSome = true → (l.filter p)[0]? = some ((l.find? p).getD d)
  | [], h => by simp at h
  | x :: l, h => by
    by_cases hp : p x = true
    · simp [hp]
    · simp only [Bool.not_eq_true] at hp
      rw [List.find?_cons, hp] at h ⊢
      rw [List.filter_cons, hp]
      exact find_filter p d l h
theorem inverse_ok (z : Int) (h : 0 < z ∧ z < 97) : f_inverse [.int z] = some (.int (inv97 z), []) := by
  have hs : small62 97 = true := small62_of (by omega)
  have hc : c_inverse_1 [some (.int z), none] = some (.lst .own (dI ((((List.range 97).map fun (i : Nat) => (i : Int)).filter fun y => z * y % 97 == 1))), .tmp, [some (.int z), none]) := by
    unfold c_inverse_1 compE range1I
    have hL : rangeL 0 1 97 = dI ((List.range 97).map fun (i : Nat) => (i : Int)) := by rw [rangeL_ints]; simp
    have hk : compL [1] [] (nameG 1 []) ct_inverse_1 ce_inverse_1 (dI ((List.range 97).map fun (i : Nat) => (i : Int))) [some (.int z), none] = some (dI ((((List.range 97).map fun (i : Nat) => (i : Int)).filter fun y => z * y % 97 == 1)), [some (.int z), none]) := by
      rw [compL_pure (fun d => match d with | .int y => z * y % 97 == 1 | _ => false) (fun d => d)]
      · rw [List.filter_map, List.map_id']
        rfl
      · intro d hd
        obtain ⟨y, hy, rfl⟩ := List.mem_map.mp hd
        have hy2 : small64 y = true := by
          obtain ⟨i, hi, rfl⟩ := List.mem_map.mp hy
          have := List.mem_range.mp hi
          exact small64_of (by omega)
        refine ⟨[some (.int z), some (.int y)], ?_, ?_, ?_, ?_⟩
        · simp [-List.map_map, seqS, ifS, skipS, exprS, asgS, setS, retS, unpS, boolT, testT, notT, andT, orT, ifT, yesT, op2E, op1E, ixE, varE, constE, callE, fnE, consA, nilA, lateA, lstE, tupE, ifE, andE, orE, notE, chainE, methE, sliceE, partO, noO, takeL, take1, taken, srcSlots, Env.get, Env.putAt, Env.cools_nil, D.put, D.imm, immL, D.cold, coldL, D.hot, hotL, Z.cold, Z.hot, Src.fresh, gAdd_int, gSub_int, gMul_int, gFdiv_int, gMod_int, gNeg_int, gLt_int, gLe_int, gGt_int, gGe_int, gIsN_eq, gNotN_eq, isNon, gInt_int, gLen_lst, gLen_tup, gTru_bl, argsD, lentOf, iosOk, putOuts, allHot, outsOf, D.frz, frzL, frost_own, frost_frz, frost_fix, nameG, consG, nilG, tupG, unlG, tyD, le_size, lt_size, gEq_eq, gNe_eq, deq_int, deq_ints, deq_three, shp_int, shp_ints, shp_three, shp_non, shp_bl, Env.wipe, Env.back, coldL_ints, hotL_ints, frzL_ints, coldL_strs, hotL_strs, frzL_strs]
        · unfold ct_inverse_1
          simp [-List.map_map, seqS, ifS, skipS, exprS, asgS, setS, retS, unpS, boolT, testT, notT, andT, orT, ifT, yesT, op2E, op1E, ixE, varE, constE, callE, fnE, consA, nilA, lateA, lstE, tupE, ifE, andE, orE, notE, chainE, methE, sliceE, partO, noO, takeL, take1, taken, srcSlots, Env.get, Env.putAt, Env.cools_nil, D.put, D.imm, immL, D.cold, coldL, D.hot, hotL, Z.cold, Z.hot, Src.fresh, gAdd_int, gSub_int, gMul_int, gFdiv_int, gMod_int, gNeg_int, gLt_int, gLe_int, gGt_int, gGe_int, gIsN_eq, gNotN_eq, isNon, gInt_int, gLen_lst, gLen_tup, gTru_bl, argsD, lentOf, iosOk, putOuts, allHot, outsOf, D.frz, frzL, frost_own, frost_frz, frost_fix, nameG, consG, nilG, tupG, unlG, tyD, le_size, lt_size, gEq_eq, gNe_eq, deq_int, deq_ints, deq_three, shp_int, shp_ints, shp_three, shp_non, shp_bl, Env.wipe, Env.back, coldL_ints, hotL_ints, frzL_ints, coldL_strs, hotL_strs, frzL_strs, hy2, fmod97]

          by_cases hq : z * y % 97 = 1 <;> simp [hq]
        · intro _
          simp [-List.map_map, seqS, ifS, skipS, exprS, asgS, setS, retS, unpS, boolT, testT, notT, andT, orT, ifT, yesT, op2E, op1E, ixE, varE, constE, callE, fnE, consA, nilA, lateA, lstE, tupE, ifE, andE, orE, notE, chainE, methE, sliceE, partO, noO, takeL, take1, taken, srcSlots, Env.get, Env.putAt, Env.cools_nil, D.put, D.imm, immL, D.cold, coldL, D.hot, hotL, Z.cold, Z.hot, Src.fresh, gAdd_int, gSub_int, gMul_int, gFdiv_int, gMod_int, gNeg_int, gLt_int, gLe_int, gGt_int, gGe_int, gIsN_eq, gNotN_eq, isNon, gInt_int, gLen_lst, gLen_tup, gTru_bl, argsD, lentOf, iosOk, putOuts, allHot, outsOf, D.frz, frzL, frost_own, frost_frz, frost_fix, nameG, consG, nilG, tupG, unlG, tyD, le_size, lt_size, gEq_eq, gNe_eq, deq_int, deq_ints, deq_three, shp_int, shp_ints, shp_three, shp_non, shp_bl, Env.wipe, Env.back, coldL_ints, hotL_ints, frzL_ints, coldL_strs, hotL_strs, frzL_strs, ce_inverse_1]
        · simp [Env.wipe]
    simp [-List.map_map, seqS, ifS, skipS, exprS, asgS, setS, retS, unpS, boolT, testT, notT, andT, orT, ifT, yesT, op2E, op1E, ixE, varE, constE, callE, fnE, consA, nilA, lateA, lstE, tupE, ifE, andE, orE, notE, chainE, methE, sliceE, partO, noO, takeL, take1, taken, srcSlots, Env.get, Env.putAt, Env.cools_nil, D.put, D.imm, immL, D.cold, coldL, D.hot, hotL, Z.cold, Z.hot, Src.fresh, gAdd_int, gSub_int, gMul_int, gFdiv_int, gMod_int, gNeg_int, gLt_int, gLe_int, gGt_int, gGe_int, gIsN_eq, gNotN_eq, isNon, gInt_int, gLen_lst, gLen_tup, gTru_bl, argsD, lentOf, iosOk, putOuts, allHot, outsOf, D.frz, frzL, frost_own, frost_frz, frost_fix, nameG, consG, nilG, tupG, unlG, tyD, le_size, lt_size, gEq_eq, gNe_eq, deq_int, deq_ints, deq_three, shp_int, shp_ints, shp_three, shp_non, shp_bl, Env.wipe, Env.back, coldL_ints, hotL_ints, frzL_ints, coldL_strs, hotL_strs, frzL_strs, hs, hL, hk]
  have hp := inv97_ok z h
  have hf : (((((List.range 97).map fun (i : Nat) => (i : Int)).filter fun y => z * y % 97 == 1)))[0]? = some (inv97 z) := by
    unfold inv97
    refine find_filter _ _ _ ?_
    cases e : ((List.range 97).map fun (i : Nat) => (i : Int)).find? fun y => z * y % 97 == 1 with
    | some y => rfl
    | none =>
      unfold inv97 at hp
      rw [e] at hp
      simp at hp
  have hf2 := get_dI hf
  have hix : L2.ixN (((((List.range 97).map fun (i : Nat) => (i : Int)).filter fun y => z * y % 97 == 1))).length 0 = some 0 := ixN_nat (List.getElem?_eq_some_iff.mp hf).1
  unfold f_inverse runF m_inverse
  simp [-List.map_map, seqS, ifS, skipS, exprS, asgS, setS, retS, unpS, boolT, testT, notT, andT, orT, ifT, yesT, op2E, op1E, ixE, varE, constE, callE, fnE, consA, nilA, lateA, lstE, tupE, ifE, andE, orE, notE, chainE, methE, sliceE, partO, noO, takeL, take1, taken, srcSlots, Env.get, Env.putAt, Env.cools_nil, D.put, D.imm, immL, D.cold, coldL, D.hot, hotL, Z.cold, Z.hot, Src.fresh, gAdd_int, gSub_int, gMul_int, gFdiv_int, gMod_int, gNeg_int, gLt_int, gLe_int, gGt_int, gGe_int, gIsN_eq, gNotN_eq, isNon, gInt_int, gLen_lst, gLen_tup, gTru_bl, argsD, lentOf, iosOk, putOuts, allHot, outsOf, D.frz, frzL, frost_own, frost_frz, frost_fix, nameG, consG, nilG, tupG, unlG, tyD, le_size, lt_size, gEq_eq, gNe_eq, deq_int, deq_ints, deq_three, shp_int, shp_ints, shp_three, shp_non, shp_bl, Env.wipe, Env.back, coldL_ints, hotL_ints, frzL_ints, coldL_strs, hotL_strs, frzL_strs, hc, hix, hf]
/-! ### sums of the program -/
theorem sums_body (z : Z) (xs : List Int) (a b c n : Int) (j : Nat) (o1 o2 : Option D) (x : Int) (hj : (j : Int) < 1000) (o3 o4 : Option D) :
    b_sums_1 [some (.lst z (dI xs)), some (.lst .own [.int a, .int b, .int c]), some (.int j), some (.int x), o4] = some (.nx [some (.lst z (dI xs)), some (.lst .own [.int ((a + x) % 97), .int ((b + ((j : Int) + 1) * x) % 97), .int ((c + ((j : Int) + 1) * ((j : Int) + 1) * x) % 97)]), some (.int j), some (.int x), some (.int ((j : Int) + 1))]) := by
  have hs1 : small64 ((j : Int) + 1) = true := small64_of (by omega)
  have hs2 : small64 (((j : Int) + 1) * ((j : Int) + 1)) = true := by
    have := sq_small (i := (j : Int) + 1) (by omega)
    exact small64_of' (by omega)
  have i0 : L2.ixN 3 0 = some 0 := rfl
  have i1 : L2.ixN 3 1 = some 1 := rfl
  have i2 : L2.ixN 3 2 = some 2 := rfl
  simp [-List.map_map, seqS, ifS, skipS, exprS, asgS, setS, retS, unpS, boolT, testT, notT, andT, orT, ifT, yesT, op2E, op1E, ixE, varE, constE, callE, fnE, consA, nilA, lateA, lstE, tupE, ifE, andE, orE, notE, chainE, methE, sliceE, partO, noO, takeL, take1, taken, srcSlots, Env.get, Env.putAt, Env.cools_nil, D.put, D.imm, immL, D.cold, coldL, D.hot, hotL, Z.cold, Z.hot, Src.fresh, gAdd_int, gSub_int, gMul_int, gFdiv_int, gMod_int, gNeg_int, gLt_int, gLe_int, gGt_int, gGe_int, gIsN_eq, gNotN_eq, isNon, gInt_int, gLen_lst, gLen_tup, gTru_bl, argsD, lentOf, iosOk, putOuts, allHot, outsOf, D.frz, frzL, frost_own, frost_frz, frost_fix, nameG, consG, nilG, tupG, unlG, tyD, le_size, lt_size, gEq_eq, gNe_eq, deq_int, deq_ints, deq_three, shp_int, shp_ints, shp_three, shp_non, shp_bl, Env.wipe, Env.back, coldL_ints, hotL_ints, frzL_ints, coldL_strs, hotL_strs, frzL_strs, hs1, hs2, b_sums_1, i0, i1, i2, fmod97]
end KL

set_option Elab.async false
set_option linter.all false
set_option maxRecDepth 100000
set_option maxHeartbeats 4000000
namespace KL
open PySem VC KN
theorem sums_loop (z : Z) (xs : List Int) : ∀ (suf : List Int) (k : Nat), k + suf.length ≤ 999 → ∀ (a b c : Int) (o2 o3 o4 : Option D), ∃ o2' o3' o4', forL (tupG 2 (consG (nameG 2 []) (consG (nameG 3 []) nilG))) b_sums_1 (enumL k (dI suf)) [some (.lst z (dI xs)), some (.lst .own [.int (a % 97), .int (b % 97), .int (c % 97)]), o2, o3, o4] =
      some (.nx [some (.lst z (dI xs)), some (.lst .own [.int ((a + W 0 (k + 1) suf) % 97), .int ((b + W 1 (k + 1) suf) % 97), .int ((c + W 2 (k + 1) suf) % 97)]), o2', o3', o4']) := by
  intro suf
  induction suf with
  | nil => intro k h a b c o2 o3 o4; exact ⟨o2, o3, o4, by simp [enumL, forL, W]⟩
  | cons x r ih =>
    intro k h a b c o2 o3 o4
    simp only [List.length_cons] at h
    obtain ⟨o2', o3', o4', ih⟩ := ih (k + 1) (by omega) (a + x) (b + ((k : Int) + 1) * x) (c + ((k : Int) + 1) * ((k : Int) + 1) * x) (some (.int (k : Nat))) (some (.int x)) (some (.int ((k : Int) + 1)))
    refine ⟨o2', o3', o4', ?_⟩
    rw [show enumL k (dI (x :: r)) = .tup [.int (k : Nat), .int x] :: enumL (k + 1) (dI r) from rfl]
    rw [forL_nx (env1 := [some (.lst z (dI xs)), some (.lst .own [.int (a % 97), .int (b % 97), .int (c % 97)]), some (.int (k : Nat)), some (.int x), o4]) (by simp [-List.map_map, seqS, ifS, skipS, exprS, asgS, setS, retS, unpS, boolT, testT, notT, andT, orT, ifT, yesT, op2E, op1E, ixE, varE, constE, callE, fnE, consA, nilA, lateA, lstE, tupE, ifE, andE, orE, notE, chainE, methE, sliceE, partO, noO, takeL, take1, taken, srcSlots, Env.get, Env.putAt, Env.cools_nil, D.put, D.imm, immL, D.cold, coldL, D.hot, hotL, Z.cold, Z.hot, Src.fresh, gAdd_int, gSub_int, gMul_int, gFdiv_int, gMod_int, gNeg_int, gLt_int, gLe_int, gGt_int, gGe_int, gIsN_eq, gNotN_eq, isNon, gInt_int, gLen_lst, gLen_tup, gTru_bl, argsD, lentOf, iosOk, putOuts, allHot, outsOf, D.frz, frzL, frost_own, frost_frz, frost_fix, nameG, consG, nilG, tupG, unlG, tyD, le_size, lt_size, gEq_eq, gNe_eq, deq_int, deq_ints, deq_three, shp_int, shp_ints, shp_three, shp_non, shp_bl, Env.wipe, Env.back, coldL_ints, hotL_ints, frzL_ints, coldL_strs, hotL_strs, frzL_strs]) (sums_body z xs (a % 97) (b % 97) (c % 97) 0 k none none x (by omega) none o4)]
    rw [show (((k + 1 : Nat)) : Int) = (k : Int) + 1 by omega] at ih
    simp only [Int.emod_add_emod]
    rw [ih]
    simp only [W]
    rw [Int.pow_zero, Int.one_mul, Int.pow_one, show ((k : Int) + 1) ^ 2 = ((k : Int) + 1) * ((k : Int) + 1) by rw [Int.pow_succ, Int.pow_one]]
    simp only [Int.add_assoc]
theorem sums_ok (z : Z) (xs : List Int) (hl : xs.length ≤ 999) : f_sums [.lst z (dI xs)] = some (.lst .own [.int (t0 xs), .int (t1 xs), .int (t2 xs)], []) := by
  obtain ⟨o2', o3', o4', h⟩ := sums_loop z xs xs 0 (by omega) 0 0 0 none none none
  simp only [Int.zero_add, Int.ofNat_zero, Int.zero_emod, Int.natCast_zero] at h
  unfold f_sums runF m_sums l_sums_1 forS enumI
  simp [-List.map_map, seqS, ifS, skipS, exprS, asgS, setS, retS, unpS, boolT, testT, notT, andT, orT, ifT, yesT, op2E, op1E, ixE, varE, constE, callE, fnE, consA, nilA, lateA, lstE, tupE, ifE, andE, orE, notE, chainE, methE, sliceE, partO, noO, takeL, take1, taken, srcSlots, Env.get, Env.putAt, Env.cools_nil, D.put, D.imm, immL, D.cold, coldL, D.hot, hotL, Z.cold, Z.hot, Src.fresh, gAdd_int, gSub_int, gMul_int, gFdiv_int, gMod_int, gNeg_int, gLt_int, gLe_int, gGt_int, gGe_int, gIsN_eq, gNotN_eq, isNon, gInt_int, gLen_lst, gLen_tup, gTru_bl, argsD, lentOf, iosOk, putOuts, allHot, outsOf, D.frz, frzL, frost_own, frost_frz, frost_fix, nameG, consG, nilG, tupG, unlG, tyD, le_size, lt_size, gEq_eq, gNe_eq, deq_int, deq_ints, deq_three, shp_int, shp_ints, shp_three, shp_non, shp_bl, Env.wipe, Env.back, coldL_ints, hotL_ints, frzL_ints, coldL_strs, hotL_strs, frzL_strs, h, t0, t1, t2]
theorem le_sz {n : Nat} (h : n ≤ 100000) : n ≤ sizeLine := of_eq_true (le_size h)
theorem add2 {z : Z} (a b : Int) (xs : List Int) (hz : z ≠ .fix) (h : xs.length ≤ 1000) : gAdd (.lst .own [.int a, .int b]) (.lst z (dI xs)) = some (.lst .own (dI (a :: b :: xs))) := by
  rw [gAdd_lst _ _ _ _ (by decide) hz rfl (coldL_ints xs) (le_sz (by simp; omega))]; rfl
theorem add3 {z : Z} (a b c : Int) (xs : List Int) (hz : z ≠ .fix) (h : xs.length ≤ 1000) : gAdd (.lst z (dI xs)) (.lst .own [.int a, .int b, .int c]) = some (.lst .own (dI (xs ++ [a, b, c]))) := by
  rw [gAdd_lst _ _ _ _ hz (by decide) (coldL_ints xs) rfl (le_sz (by simp; omega))]; simp
theorem add1 {z : Z} (a : Int) (xs : List Int) (hz : z ≠ .fix) (h : xs.length ≤ 1000) : gAdd (.lst z (dI xs)) (.lst .own [.int a]) = some (.lst .own (dI (xs ++ [a]))) := by
  rw [gAdd_lst _ _ _ _ hz (by decide) (coldL_ints xs) rfl (le_sz (by simp; omega))]; simp
theorem addL {z y : Z} (xs ys : List Int) (hz : z ≠ .fix) (hy : y ≠ .fix) (h : xs.length + ys.length ≤ 100000) : gAdd (.lst z (dI xs)) (.lst y (dI ys)) = some (.lst .own (dI (xs ++ ys))) := by
  rw [gAdd_lst _ _ _ _ hz hy (coldL_ints xs) (coldL_ints ys) (le_sz (by simpa using h))]; simp
theorem hotD (z : Z) (xs : List Int) : True := trivial
def told (n : Int) (sg : List Int) : List Int := (n / 97) :: (n % 97) :: sg
def lineOf (n : Int) (sg : List Int) : List Int := told n sg ++ [prA (t0 (told n sg)) (t1 (told n sg)) (t2 (told n sg)), prB (t0 (told n sg)) (t1 (told n sg)) (t2 (told n sg)), prC (t0 (told n sg)) (t1 (told n sg)) (t2 (told n sg))]
theorem inv2 : inv97 2 = 49 := by decide
theorem told_len (n : Int) (sg : List Int) : (told n sg).length = sg.length + 2 := rfl
theorem line_of_ok (z : Z) (hz : z ≠ .fix) (n : Int) (sg : List Int) (hl : sg.length ≤ 500) : f_line_of [.int n, .lst z (dI sg)] = some (.lst .own (dI (lineOf n sg)), []) := by
  have e1 : gAdd (.lst .own [.int (n / 97), .int (n % 97)]) (.lst z (dI sg)) = some (.lst .own (dI (told n sg))) := add2 (z := z) (n / 97) (n % 97) sg hz (by omega)
  have e2 := sums_ok .frz (told n sg) (by rw [told_len]; omega)
  have e3 := inverse_ok 2 (by omega)
  rw [inv2] at e3
  have hm : ∀ i : Int, (-1000000 < i ∧ i < 1000000) → small64 i = true := fun i h => small64_of h
  have e4 := add3 (z := .own) (prA (t0 (told n sg)) (t1 (told n sg)) (t2 (told n sg))) (prB (t0 (told n sg)) (t1 (told n sg)) (t2 (told n sg))) (prC (t0 (told n sg)) (t1 (told n sg)) (t2 (told n sg))) (told n sg) (by decide) (by rw [told_len]; omega)
  rw [show told n sg ++ _ = lineOf n sg from rfl] at e4
  have q1 : small64 2 = true := hm _ (by omega)
  have q2 : small64 60 = true := hm _ (by omega)
  have q3 : small64 117 = true := hm _ (by omega)
  have q4 : small64 118 = true := hm _ (by omega)
  have q5 : small64 119 = true := hm _ (by omega)
  have q6 : small64 58 = true := hm _ (by omega)
  have q7 : small64 49 = true := hm _ (by omega)
  have q8 : small64 3422 = true := hm _ (by omega)
  have q9 : small64 3480 = true := hm _ (by omega)
  have q10 : small64 3540 = true := hm _ (by omega)
  unfold f_line_of runF m_line_of
  unfold prA prB prC at e4
  simp [-List.map_map, seqS, ifS, skipS, exprS, asgS, setS, retS, unpS, boolT, testT, notT, andT, orT, ifT, yesT, op2E, op1E, ixE, varE, constE, callE, fnE, consA, nilA, lateA, lstE, tupE, ifE, andE, orE, notE, chainE, methE, sliceE, partO, noO, takeL, take1, taken, srcSlots, Env.get, Env.putAt, Env.cools_nil, D.put, D.imm, immL, D.cold, coldL, D.hot, hotL, Z.cold, Z.hot, Src.fresh, gAdd_int, gSub_int, gMul_int, gFdiv_int, gMod_int, gNeg_int, gLt_int, gLe_int, gGt_int, gGe_int, gIsN_eq, gNotN_eq, isNon, gInt_int, gLen_lst, gLen_tup, gTru_bl, argsD, lentOf, iosOk, putOuts, allHot, outsOf, D.frz, frzL, frost_own, frost_frz, frost_fix, nameG, consG, nilG, tupG, unlG, tyD, le_size, lt_size, gEq_eq, gNe_eq, deq_int, deq_ints, deq_three, shp_int, shp_ints, shp_three, shp_non, shp_bl, Env.wipe, Env.back, coldL_ints, hotL_ints, frzL_ints, coldL_strs, hotL_strs, frzL_strs, e1, e2, e3, e4, q1, q2, q3, q4, q5, q6, q7, q8, q9, q10, fmod97, fdiv_pos]
/-! ### righted -/
def rD : Option (List Int) → D
  | none => .non
  | some xs => .lst .own (dI xs)
theorem righted_ok (z : Z) (xs : List Int) (hl : xs.length = 60) : f_righted [.lst z (dI xs)] = some (rD (prR xs), []) := by
  have e1 := sums_ok z.frost xs (by omega)
  have e1' := sums_ok z xs (by omega)
  have q1 : small64 97 = true := small64_of (by omega)
  unfold f_righted runF m_righted
  unfold prR
  by_cases hz : zeroT xs = true
  · have hz' := hz
    unfold zeroT at hz'
    simp only [Bool.and_eq_true, beq_iff_eq] at hz'
    simp [-List.map_map, seqS, ifS, skipS, exprS, asgS, setS, retS, unpS, boolT, testT, notT, andT, orT, ifT, yesT, op2E, op1E, ixE, varE, constE, callE, fnE, consA, nilA, lateA, lstE, tupE, ifE, andE, orE, notE, chainE, methE, sliceE, partO, noO, takeL, take1, taken, srcSlots, Env.get, Env.putAt, Env.cools_nil, D.put, D.imm, immL, D.cold, coldL, D.hot, hotL, Z.cold, Z.hot, Src.fresh, gAdd_int, gSub_int, gMul_int, gFdiv_int, gMod_int, gNeg_int, gLt_int, gLe_int, gGt_int, gGe_int, gIsN_eq, gNotN_eq, isNon, gInt_int, gLen_lst, gLen_tup, gTru_bl, argsD, lentOf, iosOk, putOuts, allHot, outsOf, D.frz, frzL, frost_own, frost_frz, frost_fix, nameG, consG, nilG, tupG, unlG, tyD, le_size, lt_size, gEq_eq, gNe_eq, deq_int, deq_ints, deq_three, shp_int, shp_ints, shp_three, shp_non, shp_bl, Env.wipe, Env.back, coldL_ints, hotL_ints, frzL_ints, coldL_strs, hotL_strs, frzL_strs, e1, hz, hz'.1.1, hz'.1.2, hz'.2, gList_lst, rD]
  · have hne : ¬ ((t0 xs = 0 ∧ t1 xs = 0) ∧ t2 xs = 0) := by
      unfold zeroT at hz
      simpa only [Bool.and_eq_true, beq_iff_eq] using hz
    have hzf : zeroT xs = false := by simpa using hz
    by_cases h0 : t0 xs = 0
    · have h12 : (decide (t1 xs = 0) && decide (t2 xs = 0)) = false := by
        cases e : (decide (t1 xs = 0) && decide (t2 xs = 0)) with
        | false => rfl
        | true => 
          simp only [Bool.and_eq_true, decide_eq_true_eq] at e
          exact absurd ⟨⟨h0, e.1⟩, e.2⟩ hne
      simp [-List.map_map, seqS, ifS, skipS, exprS, asgS, setS, retS, unpS, boolT, testT, notT, andT, orT, ifT, yesT, op2E, op1E, ixE, varE, constE, callE, fnE, consA, nilA, lateA, lstE, tupE, ifE, andE, orE, notE, chainE, methE, sliceE, partO, noO, takeL, take1, taken, srcSlots, Env.get, Env.putAt, Env.cools_nil, D.put, D.imm, immL, D.cold, coldL, D.hot, hotL, Z.cold, Z.hot, Src.fresh, gAdd_int, gSub_int, gMul_int, gFdiv_int, gMod_int, gNeg_int, gLt_int, gLe_int, gGt_int, gGe_int, gIsN_eq, gNotN_eq, isNon, gInt_int, gLen_lst, gLen_tup, gTru_bl, argsD, lentOf, iosOk, putOuts, allHot, outsOf, D.frz, frzL, frost_own, frost_frz, frost_fix, nameG, consG, nilG, tupG, unlG, tyD, le_size, lt_size, gEq_eq, gNe_eq, deq_int, deq_ints, deq_three, shp_int, shp_ints, shp_three, shp_non, shp_bl, Env.wipe, Env.back, coldL_ints, hotL_ints, frzL_ints, coldL_strs, hotL_strs, frzL_strs, e1, hzf, h0, h12, rD]
    · have b0 : 0 ≤ t0 xs ∧ t0 xs < 97 := ⟨Int.emod_nonneg _ (by decide), Int.emod_lt_of_pos _ (by decide)⟩
      have b1 : 0 ≤ t1 xs ∧ t1 xs < 97 := ⟨Int.emod_nonneg _ (by decide), Int.emod_lt_of_pos _ (by decide)⟩
      have e3 := inverse_ok (t0 xs) (by omega)
      have q2 : small64 (t1 xs) = true := small64_of (by omega)
      have hp : t1 xs * inv97 (t0 xs) % 97 = prP xs := rfl
      have h13 : (decide (t0 xs = 0)) = false := by simp [h0]
      have dz : (decide (t0 xs = 0) && decide (t1 xs = 0) && decide (t2 xs = 0)) = false := by rw [h13]; rfl
      by_cases c1 : 1 ≤ prP xs
      · by_cases c2 : prP xs ≤ 60
        · by_cases c3 : t2 xs = prP xs * t1 xs % 97
          · obtain ⟨p, hp'⟩ : ∃ p, (prP xs - 1).toNat = p := ⟨_, rfl⟩
            rw [hp']
            obtain ⟨x, hx⟩ : ∃ x, xs[p]? = some x := ⟨_, List.getElem?_eq_getElem (by omega)⟩
            have hi : L2.ixN 60 (prP xs - 1) = some p := by
              have := ixN_nat (n := 60) (j := p) (by omega)
              rwa [show ((p : Nat) : Int) = prP xs - 1 by omega] at this
            have hf : fixAt xs p = xs.set p ((x - t0 xs) % 97) := by
              unfold fixAt
              rw [List.getD_eq_getElem?_getD, hx]; rfl
            have q3 : small64 (prP xs) = true := small64_of (by omega)
            simp [-List.map_map, seqS, ifS, skipS, exprS, asgS, setS, retS, unpS, boolT, testT, notT, andT, orT, ifT, yesT, op2E, op1E, ixE, varE, constE, callE, fnE, consA, nilA, lateA, lstE, tupE, ifE, andE, orE, notE, chainE, methE, sliceE, partO, noO, takeL, take1, taken, srcSlots, Env.get, Env.putAt, Env.cools_nil, D.put, D.imm, immL, D.cold, coldL, D.hot, hotL, Z.cold, Z.hot, Src.fresh, gAdd_int, gSub_int, gMul_int, gFdiv_int, gMod_int, gNeg_int, gLt_int, gLe_int, gGt_int, gGe_int, gIsN_eq, gNotN_eq, isNon, gInt_int, gLen_lst, gLen_tup, gTru_bl, argsD, lentOf, iosOk, putOuts, allHot, outsOf, D.frz, frzL, frost_own, frost_frz, frost_fix, nameG, consG, nilG, tupG, unlG, tyD, le_size, lt_size, gEq_eq, gNe_eq, deq_int, deq_ints, deq_three, shp_int, shp_ints, shp_three, shp_non, shp_bl, Env.wipe, Env.back, coldL_ints, hotL_ints, frzL_ints, coldL_strs, hotL_strs, frzL_strs, e1, hzf, h13, dz, e3, q2, q3, fmod97, rD, gList_lst, hp, c1, c2, ← c3, hi, hx, hf, hl, List.map_set]
            simp [h0]

          · have q3 : small64 (prP xs) = true := small64_of (by omega)
            simp [-List.map_map, seqS, ifS, skipS, exprS, asgS, setS, retS, unpS, boolT, testT, notT, andT, orT, ifT, yesT, op2E, op1E, ixE, varE, constE, callE, fnE, consA, nilA, lateA, lstE, tupE, ifE, andE, orE, notE, chainE, methE, sliceE, partO, noO, takeL, take1, taken, srcSlots, Env.get, Env.putAt, Env.cools_nil, D.put, D.imm, immL, D.cold, coldL, D.hot, hotL, Z.cold, Z.hot, Src.fresh, gAdd_int, gSub_int, gMul_int, gFdiv_int, gMod_int, gNeg_int, gLt_int, gLe_int, gGt_int, gGe_int, gIsN_eq, gNotN_eq, isNon, gInt_int, gLen_lst, gLen_tup, gTru_bl, argsD, lentOf, iosOk, putOuts, allHot, outsOf, D.frz, frzL, frost_own, frost_frz, frost_fix, nameG, consG, nilG, tupG, unlG, tyD, le_size, lt_size, gEq_eq, gNe_eq, deq_int, deq_ints, deq_three, shp_int, shp_ints, shp_three, shp_non, shp_bl, Env.wipe, Env.back, coldL_ints, hotL_ints, frzL_ints, coldL_strs, hotL_strs, frzL_strs, e1, hzf, h13, dz, e3, q2, q3, fmod97, rD, gList_lst, hp, c1, c2, c3]
        · simp [-List.map_map, seqS, ifS, skipS, exprS, asgS, setS, retS, unpS, boolT, testT, notT, andT, orT, ifT, yesT, op2E, op1E, ixE, varE, constE, callE, fnE, consA, nilA, lateA, lstE, tupE, ifE, andE, orE, notE, chainE, methE, sliceE, partO, noO, takeL, take1, taken, srcSlots, Env.get, Env.putAt, Env.cools_nil, D.put, D.imm, immL, D.cold, coldL, D.hot, hotL, Z.cold, Z.hot, Src.fresh, gAdd_int, gSub_int, gMul_int, gFdiv_int, gMod_int, gNeg_int, gLt_int, gLe_int, gGt_int, gGe_int, gIsN_eq, gNotN_eq, isNon, gInt_int, gLen_lst, gLen_tup, gTru_bl, argsD, lentOf, iosOk, putOuts, allHot, outsOf, D.frz, frzL, frost_own, frost_frz, frost_fix, nameG, consG, nilG, tupG, unlG, tyD, le_size, lt_size, gEq_eq, gNe_eq, deq_int, deq_ints, deq_three, shp_int, shp_ints, shp_three, shp_non, shp_bl, Env.wipe, Env.back, coldL_ints, hotL_ints, frzL_ints, coldL_strs, hotL_strs, frzL_strs, e1, hzf, h13, dz, e3, q2, fmod97, rD, gList_lst, hp, c1, c2]
      · simp [-List.map_map, seqS, ifS, skipS, exprS, asgS, setS, retS, unpS, boolT, testT, notT, andT, orT, ifT, yesT, op2E, op1E, ixE, varE, constE, callE, fnE, consA, nilA, lateA, lstE, tupE, ifE, andE, orE, notE, chainE, methE, sliceE, partO, noO, takeL, take1, taken, srcSlots, Env.get, Env.putAt, Env.cools_nil, D.put, D.imm, immL, D.cold, coldL, D.hot, hotL, Z.cold, Z.hot, Src.fresh, gAdd_int, gSub_int, gMul_int, gFdiv_int, gMod_int, gNeg_int, gLt_int, gLe_int, gGt_int, gGe_int, gIsN_eq, gNotN_eq, isNon, gInt_int, gLen_lst, gLen_tup, gTru_bl, argsD, lentOf, iosOk, putOuts, allHot, outsOf, D.frz, frzL, frost_own, frost_frz, frost_fix, nameG, consG, nilG, tupG, unlG, tyD, le_size, lt_size, gEq_eq, gNe_eq, deq_int, deq_ints, deq_three, shp_int, shp_ints, shp_three, shp_non, shp_bl, Env.wipe, Env.back, coldL_ints, hotL_ints, frzL_ints, coldL_strs, hotL_strs, frzL_strs, e1, hzf, h13, dz, e3, q2, fmod97, rD, gList_lst, hp, c1]
end KL

set_option Elab.async false
set_option linter.all false
set_option maxRecDepth 100000
set_option maxHeartbeats 4000000
namespace KL
open PySem VC KN
theorem sl_to {z : Z} {xs : List Int} {k : Int} (h : 0 ≤ k ∧ k ≤ xs.length) : gSl (.lst z (dI xs)) none (some k) = some (.lst .own (dI (xs.take k.toNat))) := by
  rw [gSl_lst _ _ _ _ (coldL_ints xs), cutD_ints]
  obtain ⟨n, rfl⟩ := Int.eq_ofNat_of_zero_le h.1
  simp [HT.sIx_nat, HT.sIx_none]
theorem sl_from {z : Z} {xs : List Int} {k : Int} (h : 0 ≤ k ∧ k ≤ xs.length) : gSl (.lst z (dI xs)) (some k) none = some (.lst .own (dI (xs.drop k.toNat))) := by
  rw [gSl_lst _ _ _ _ (coldL_ints xs), cutD_ints]
  obtain ⟨n, rfl⟩ := Int.eq_ofNat_of_zero_le h.1
  simp only [HT.sIx_nat, HT.sIx_none]
  rw [Nat.min_eq_left (by omega), List.take_of_length_le (by simp)]
  simp
theorem sl_mid {z : Z} {xs : List Int} {i k : Int} (h : 0 ≤ i ∧ 0 ≤ k) : gSl (.lst z (dI xs)) (some i) (some k) = some (.lst .own (dI ((xs.drop i.toNat).take (k - i).toNat))) := by
  rw [gSl_lst _ _ _ _ (coldL_ints xs), cutD_ints]
  obtain ⟨n, rfl⟩ := Int.eq_ofNat_of_zero_le h.1
  obtain ⟨m, rfl⟩ := Int.eq_ofNat_of_zero_le h.2
  simp only [HT.sIx_nat, Int.toNat_natCast]
  congr 3
  rw [show ((m : Int) - (n : Int)).toNat = m - n by omega]
  apply List.ext_getElem?
  intro j
  simp only [List.getElem?_take, List.getElem?_drop]
  by_cases h3 : n + j < xs.length
  · rw [Nat.min_eq_left (by omega : n ≤ xs.length)]
    by_cases h4 : j < m - n
    · rw [if_pos (by omega), if_pos h4]
    · rw [if_neg (by omega), if_neg h4]
  · rw [List.getElem?_eq_none (l := xs) (i := n + j) (by omega)]
    by_cases h5 : j < min m xs.length - min n xs.length
    · omega
    · rw [if_neg h5]; simp
theorem zt (xs : List Int) : (decide (t0 xs = 0) && decide (t1 xs = 0) && decide (t2 xs = 0)) = zeroT xs := by
  unfold zeroT
  by_cases h1 : t0 xs = 0 <;> by_cases h2 : t1 xs = 0 <;> by_cases h3 : t2 xs = 0 <;> simp [h1, h2, h3]
theorem deq_zero (z y : Z) (xs : List Int) : deq (.lst z [.int (t0 xs), .int (t1 xs), .int (t2 xs)]) (.lst y [.int 0, .int 0, .int 0]) = zeroT xs := by
  rw [deq_three, zt]
/-! ### the line of the law -/
theorem law_body_line (n a : Int) (z : Z) (sg : List Int) (hl : sg.length = 55) (ha : 0 ≤ a ∧ a < 97) (o4 o5 o6 o7 o8 o9 : Option D) : ∃ e, b_law_line_1 [some (.int n), some (.lst z (dI sg)), some (.lst .own (dI (told n sg))), some (.int a), o4, o5, o6, o7, o8, o9] =
    some (if a = prA (t0 (told n sg)) (t1 (told n sg)) (t2 (told n sg)) then .rt (.lst .own (dI (lineOf n sg))) e else .nx e) ∧ ∃ o4 o5 o6 o7 o8 o9, e = [some (.int n), some (.lst z (dI sg)), some (.lst .own (dI (told n sg))), some (.int a), o4, o5, o6, o7, o8, o9] := by
  have hl2 : (told n sg).length = 57 := by rw [told_len, hl]
  generalize htd : told n sg = td at *
  have e1 := add3 (z := .own) a 0 0 td (by decide) (by omega)
  have e2 := totals_ok .frz (td ++ [a, 0, 0]) (by simp; omega)
  have q1 : small64 59 = true := small64_of (by omega)
  have hc : (59 * t0 (td ++ [a, 0, 0]) - t1 (td ++ [a, 0, 0])) % 97 = lawC (W 0 1 td) (W 1 1 td) a := by
    unfold t0 t1 lawC
    rw [W3 0 _ _ _ _ hl2, W3 1 _ _ _ _ hl2]
    simp only [Int.pow_zero, Int.pow_one]
    omega
  have hb : (0 - t0 (td ++ [a, 0, 0]) - lawC (W 0 1 td) (W 1 1 td) a) % 97 = lawB (W 0 1 td) (W 1 1 td) a := by
    unfold t0 lawB
    rw [W3 0 _ _ _ _ hl2]
    simp only [Int.pow_zero, Int.pow_one]
    omega
  rw [Int.zero_sub] at hb
  have e3 := add3 (z := .own) a (lawB (W 0 1 td) (W 1 1 td) a) (lawC (W 0 1 td) (W 1 1 td) a) td (by decide) (by omega)
  have e4 := totals_ok .frz (td ++ [a, lawB (W 0 1 td) (W 1 1 td) a, lawC (W 0 1 td) (W 1 1 td) a]) (by simp; omega)
  have hz : zeroT (td ++ [a, lawB (W 0 1 td) (W 1 1 td) a, lawC (W 0 1 td) (W 1 1 td) a]) = decide (a = prA (t0 td) (t1 td) (t2 td)) := by
    have := (zeroT3 td a (lawB (W 0 1 td) (W 1 1 td) a) (lawC (W 0 1 td) (W 1 1 td) a) hl2).trans (line_unique (W 0 1 td) (W 1 1 td) (W 2 1 td) a ha)
    cases e : zeroT (td ++ [a, lawB (W 0 1 td) (W 1 1 td) a, lawC (W 0 1 td) (W 1 1 td) a]) with
    | true => exact (decide_eq_true (this.mp e)).symm
    | false =>
      refine (decide_eq_false fun h => ?_).symm
      rw [this.mpr h] at e
      cases e
  have hlo : a = prA (t0 td) (t1 td) (t2 td) → td ++ [a, lawB (W 0 1 td) (W 1 1 td) a, lawC (W 0 1 td) (W 1 1 td) a] = lineOf n sg := by
    intro h
    unfold lineOf
    rw [htd, h]
    have h1 := lawB_pr (W 0 1 td) (W 1 1 td) (W 2 1 td)
    have h2 := lawC_pr (W 0 1 td) (W 1 1 td) (W 2 1 td)
    rw [show W 0 1 td % 97 = t0 td from rfl, show W 1 1 td % 97 = t1 td from rfl, show W 2 1 td % 97 = t2 td from rfl] at h1 h2
    rw [h1, h2]
  generalize hfd : td ++ [a, lawB (W 0 1 td) (W 1 1 td) a, lawC (W 0 1 td) (W 1 1 td) a] = fd at *
  generalize htd2 : td ++ [a, 0, 0] = tz at *
  by_cases hp : a = prA (t0 td) (t1 td) (t2 td)
  · refine ⟨[some (.int n), some (.lst z (dI sg)), some (.lst .own (dI td)), some (.int a), some (.int (t0 tz)), some (.int (t1 tz)), some (.int (t2 tz)), some (.int (lawC (W 0 1 td) (W 1 1 td) a)), some (.int (lawB (W 0 1 td) (W 1 1 td) a)), some (.lst .own (dI fd))], ?_, _, _, _, _, _, _, rfl⟩
    rw [if_pos hp, ← hlo hp]
    rw [decide_eq_true hp] at hz
    unfold b_law_line_1
    simp [-List.map_map, seqS, ifS, skipS, exprS, asgS, setS, retS, unpS, boolT, testT, notT, andT, orT, ifT, yesT, op2E, op1E, ixE, varE, constE, callE, fnE, consA, nilA, lateA, lstE, tupE, ifE, andE, orE, notE, chainE, methE, sliceE, partO, noO, takeL, take1, taken, srcSlots, Env.get, Env.putAt, Env.cools_nil, D.put, D.imm, immL, D.cold, coldL, D.hot, hotL, Z.cold, Z.hot, Src.fresh, gAdd_int, gSub_int, gMul_int, gFdiv_int, gMod_int, gNeg_int, gLt_int, gLe_int, gGt_int, gGe_int, gIsN_eq, gNotN_eq, isNon, gInt_int, gLen_lst, gLen_tup, gTru_bl, argsD, lentOf, iosOk, putOuts, allHot, outsOf, D.frz, frzL, frost_own, frost_frz, frost_fix, nameG, consG, nilG, tupG, unlG, tyD, le_size, lt_size, gEq_eq, gNe_eq, deq_int, deq_ints, deq_three, shp_int, shp_ints, shp_three, shp_non, shp_bl, Env.wipe, Env.back, coldL_ints, hotL_ints, frzL_ints, coldL_strs, hotL_strs, frzL_strs, -deq_three, deq_zero, e1, e2, e3, e4, q1, hz, hc, hb, fmod97]
  · refine ⟨[some (.int n), some (.lst z (dI sg)), some (.lst .own (dI td)), some (.int a), some (.int (t0 tz)), some (.int (t1 tz)), some (.int (t2 tz)), some (.int (lawC (W 0 1 td) (W 1 1 td) a)), some (.int (lawB (W 0 1 td) (W 1 1 td) a)), some (.lst .own (dI fd))], ?_, _, _, _, _, _, _, rfl⟩
    rw [if_neg hp]
    rw [decide_eq_false hp] at hz
    unfold b_law_line_1
    simp [-List.map_map, seqS, ifS, skipS, exprS, asgS, setS, retS, unpS, boolT, testT, notT, andT, orT, ifT, yesT, op2E, op1E, ixE, varE, constE, callE, fnE, consA, nilA, lateA, lstE, tupE, ifE, andE, orE, notE, chainE, methE, sliceE, partO, noO, takeL, take1, taken, srcSlots, Env.get, Env.putAt, Env.cools_nil, D.put, D.imm, immL, D.cold, coldL, D.hot, hotL, Z.cold, Z.hot, Src.fresh, gAdd_int, gSub_int, gMul_int, gFdiv_int, gMod_int, gNeg_int, gLt_int, gLe_int, gGt_int, gGe_int, gIsN_eq, gNotN_eq, isNon, gInt_int, gLen_lst, gLen_tup, gTru_bl, argsD, lentOf, iosOk, putOuts, allHot, outsOf, D.frz, frzL, frost_own, frost_frz, frost_fix, nameG, consG, nilG, tupG, unlG, tyD, le_size, lt_size, gEq_eq, gNe_eq, deq_int, deq_ints, deq_three, shp_int, shp_ints, shp_three, shp_non, shp_bl, Env.wipe, Env.back, coldL_ints, hotL_ints, frzL_ints, coldL_strs, hotL_strs, frzL_strs, -deq_three, deq_zero, e1, e2, e3, e4, q1, hz, hc, hb, fmod97]
theorem law_line_loop (n : Int) (z : Z) (sg : List Int) (hl : sg.length = 55) : ∀ (cnt : Nat) (lo : Int), lo + cnt = 97 → 0 ≤ lo → lo ≤ prA (t0 (told n sg)) (t1 (told n sg)) (t2 (told n sg)) → ∀ (o3 o4 o5 o6 o7 o8 o9 : Option D),
    ∃ e, forL (nameG 3 []) b_law_line_1 (rangeL lo 1 cnt) [some (.int n), some (.lst z (dI sg)), some (.lst .own (dI (told n sg))), o3, o4, o5, o6, o7, o8, o9] = some (.rt (.lst .own (dI (lineOf n sg))) e) := by
  have hA : prA (t0 (told n sg)) (t1 (told n sg)) (t2 (told n sg)) < 97 := Int.emod_lt_of_pos _ (by decide)
  intro cnt
  induction cnt with
  | zero => intro lo h1 h2 h3; omega
  | succ cnt ih =>
    intro lo h1 h2 h3 o3 o4 o5 o6 o7 o8 o9
    obtain ⟨e, hb, p4, p5, p6, p7, p8, p9, he⟩ := law_body_line n lo z sg hl ⟨h2, by omega⟩ o4 o5 o6 o7 o8 o9
    rw [rangeL_succ]
    have hn : nameG 3 [] (.int lo) [some (.int n), some (.lst z (dI sg)), some (.lst .own (dI (told n sg))), o3, o4, o5, o6, o7, o8, o9] = some [some (.int n), some (.lst z (dI sg)), some (.lst .own (dI (told n sg))), some (.int lo), o4, o5, o6, o7, o8, o9] := by simp [-List.map_map, seqS, ifS, skipS, exprS, asgS, setS, retS, unpS, boolT, testT, notT, andT, orT, ifT, yesT, op2E, op1E, ixE, varE, constE, callE, fnE, consA, nilA, lateA, lstE, tupE, ifE, andE, orE, notE, chainE, methE, sliceE, partO, noO, takeL, take1, taken, srcSlots, Env.get, Env.putAt, Env.cools_nil, D.put, D.imm, immL, D.cold, coldL, D.hot, hotL, Z.cold, Z.hot, Src.fresh, gAdd_int, gSub_int, gMul_int, gFdiv_int, gMod_int, gNeg_int, gLt_int, gLe_int, gGt_int, gGe_int, gIsN_eq, gNotN_eq, isNon, gInt_int, gLen_lst, gLen_tup, gTru_bl, argsD, lentOf, iosOk, putOuts, allHot, outsOf, D.frz, frzL, frost_own, frost_frz, frost_fix, nameG, consG, nilG, tupG, unlG, tyD, le_size, lt_size, gEq_eq, gNe_eq, deq_int, deq_ints, deq_three, shp_int, shp_ints, shp_three, shp_non, shp_bl, Env.wipe, Env.back, coldL_ints, hotL_ints, frzL_ints, coldL_strs, hotL_strs, frzL_strs]
    by_cases hp : lo = prA (t0 (told n sg)) (t1 (told n sg)) (t2 (told n sg))
    · rw [if_pos hp] at hb
      exact ⟨e, forL_ret hn hb⟩
    · rw [if_neg hp] at hb
      obtain ⟨e', h⟩ := ih (lo + 1) (by omega) (by omega) (by omega) (some (.int lo)) p4 p5 p6 p7 p8 p9
      rw [he] at hb
      exact ⟨e', by rw [forL_nx hn hb, h]⟩
theorem law_line_ok (z : Z) (hz : z ≠ .fix) (n : Int) (sg : List Int) (hl : sg.length = 55) : f_law_line [.int n, .lst z (dI sg)] = some (.lst .own (dI (lineOf n sg)), []) := by
  have e1 : gAdd (.lst .own [.int (n / 97), .int (n % 97)]) (.lst z (dI sg)) = some (.lst .own (dI (told n sg))) := add2 (z := z) (n / 97) (n % 97) sg hz (by omega)
  have hs : small62 97 = true := small62_of (by omega)
  obtain ⟨e, h⟩ := law_line_loop n z sg hl 97 0 (by omega) (by omega) (Int.emod_nonneg _ (by decide)) none none none none none none none
  unfold f_law_line runF m_law_line l_law_line_1 forS range1I
  simp [-List.map_map, seqS, ifS, skipS, exprS, asgS, setS, retS, unpS, boolT, testT, notT, andT, orT, ifT, yesT, op2E, op1E, ixE, varE, constE, callE, fnE, consA, nilA, lateA, lstE, tupE, ifE, andE, orE, notE, chainE, methE, sliceE, partO, noO, takeL, take1, taken, srcSlots, Env.get, Env.putAt, Env.cools_nil, D.put, D.imm, immL, D.cold, coldL, D.hot, hotL, Z.cold, Z.hot, Src.fresh, gAdd_int, gSub_int, gMul_int, gFdiv_int, gMod_int, gNeg_int, gLt_int, gLe_int, gGt_int, gGe_int, gIsN_eq, gNotN_eq, isNon, gInt_int, gLen_lst, gLen_tup, gTru_bl, argsD, lentOf, iosOk, putOuts, allHot, outsOf, D.frz, frzL, frost_own, frost_frz, frost_fix, nameG, consG, nilG, tupG, unlG, tyD, le_size, lt_size, gEq_eq, gNe_eq, deq_int, deq_ints, deq_three, shp_int, shp_ints, shp_three, shp_non, shp_bl, Env.wipe, Env.back, coldL_ints, hotL_ints, frzL_ints, coldL_strs, hotL_strs, frzL_strs, e1, hs, h, fmod97, fdiv_pos]
/-! ### righted by trying all -/
theorem law_body_righted (z : Z) (xs : List Int) (hz : z ≠ .fix) (hl : xs.length = 60) (k : Nat) (hk : k < 60) (o3 o4 : Option D) : ∃ e, b_law_righted_1 [some (.lst z (dI xs)), some (.lst .own [.int (t0 xs), .int (t1 xs), .int (t2 xs)]), some (.int k), o3, o4] =
    some (if zeroT (fixAt xs k) = true then .rt (.lst .own (dI (fixAt xs k))) e else .nx e) ∧ ∃ o3 o4, e = [some (.lst z (dI xs)), some (.lst .own [.int (t0 xs), .int (t1 xs), .int (t2 xs)]), some (.int k), o3, o4] := by
  obtain ⟨x, hx⟩ : ∃ x, xs[k]? = some x := ⟨_, List.getElem?_eq_getElem (by omega)⟩
  have hf : xs.take k ++ [(x - t0 xs) % 97] ++ xs.drop (k + 1) = fixAt xs k := by
    unfold fixAt
    rw [List.getD_eq_getElem?_getD, hx, List.set_eq_take_append_cons_drop, if_pos (by omega)]
    simp
  have hi : L2.ixN 60 (k : Int) = some k := ixN_nat (by omega)
  have i0 : L2.ixN 3 0 = some 0 := rfl
  have e1 := sl_to (z := z) (xs := xs) (k := (k : Int)) (by omega)
  have e2 := sl_from (z := z) (xs := xs) (k := (k : Int) + 1) (by omega)
  rw [Int.toNat_natCast] at e1
  rw [show ((k : Int) + 1).toNat = k + 1 by omega] at e2
  have e3 := add1 (z := .own) ((x - t0 xs) % 97) (xs.take k) (by decide) (by simp; omega)
  have e4 := addL (z := .own) (y := .own) (xs.take k ++ [(x - t0 xs) % 97]) (xs.drop (k + 1)) (by decide) (by decide) (by simp; omega)
  rw [hf] at e4
  have e5 := totals_ok .frz (fixAt xs k) (by unfold fixAt; simp; omega)
  generalize hA : xs.take k ++ [(x - t0 xs) % 97] = A at *
  generalize hB : xs.take k = B at *
  generalize hC : xs.drop (k + 1) = C at *
  generalize hfd : fixAt xs k = fd at *
  refine ⟨[some (.lst z (dI xs)), some (.lst .own [.int (t0 xs), .int (t1 xs), .int (t2 xs)]), some (.int k), some (.int ((x - t0 xs) % 97)), some (.lst .own (dI fd))], ?_, _, _, rfl⟩
  unfold b_law_righted_1
  by_cases h : zeroT fd = true
  · simp [-List.map_map, seqS, ifS, skipS, exprS, asgS, setS, retS, unpS, boolT, testT, notT, andT, orT, ifT, yesT, op2E, op1E, ixE, varE, constE, callE, fnE, consA, nilA, lateA, lstE, tupE, ifE, andE, orE, notE, chainE, methE, sliceE, partO, noO, takeL, take1, taken, srcSlots, Env.get, Env.putAt, Env.cools_nil, D.put, D.imm, immL, D.cold, coldL, D.hot, hotL, Z.cold, Z.hot, Src.fresh, gAdd_int, gSub_int, gMul_int, gFdiv_int, gMod_int, gNeg_int, gLt_int, gLe_int, gGt_int, gGe_int, gIsN_eq, gNotN_eq, isNon, gInt_int, gLen_lst, gLen_tup, gTru_bl, argsD, lentOf, iosOk, putOuts, allHot, outsOf, D.frz, frzL, frost_own, frost_frz, frost_fix, nameG, consG, nilG, tupG, unlG, tyD, le_size, lt_size, gEq_eq, gNe_eq, deq_int, deq_ints, deq_three, shp_int, shp_ints, shp_three, shp_non, shp_bl, Env.wipe, Env.back, coldL_ints, hotL_ints, frzL_ints, coldL_strs, hotL_strs, frzL_strs, -deq_three, deq_zero, e1, e2, e3, e4, e5, hi, i0, hx, hl, h, fmod97]
  · simp only [Bool.not_eq_true] at h
    simp [-List.map_map, seqS, ifS, skipS, exprS, asgS, setS, retS, unpS, boolT, testT, notT, andT, orT, ifT, yesT, op2E, op1E, ixE, varE, constE, callE, fnE, consA, nilA, lateA, lstE, tupE, ifE, andE, orE, notE, chainE, methE, sliceE, partO, noO, takeL, take1, taken, srcSlots, Env.get, Env.putAt, Env.cools_nil, D.put, D.imm, immL, D.cold, coldL, D.hot, hotL, Z.cold, Z.hot, Src.fresh, gAdd_int, gSub_int, gMul_int, gFdiv_int, gMod_int, gNeg_int, gLt_int, gLe_int, gGt_int, gGe_int, gIsN_eq, gNotN_eq, isNon, gInt_int, gLen_lst, gLen_tup, gTru_bl, argsD, lentOf, iosOk, putOuts, allHot, outsOf, D.frz, frzL, frost_own, frost_frz, frost_fix, nameG, consG, nilG, tupG, unlG, tyD, le_size, lt_size, gEq_eq, gNe_eq, deq_int, deq_ints, deq_three, shp_int, shp_ints, shp_three, shp_non, shp_bl, Env.wipe, Env.back, coldL_ints, hotL_ints, frzL_ints, coldL_strs, hotL_strs, frzL_strs, -deq_three, deq_zero, e1, e2, e3, e4, e5, hi, i0, hx, hl, h, fmod97]
theorem law_righted_loop (z : Z) (hz : z ≠ .fix) (xs : List Int) (hl : xs.length = 60) : ∀ (cnt lo : Nat), lo + cnt = 60 → ∀ (o2 o3 o4 : Option D),
    ∃ e, forL (nameG 2 []) b_law_righted_1 (rangeL (lo : Int) 1 cnt) [some (.lst z (dI xs)), some (.lst .own [.int (t0 xs), .int (t1 xs), .int (t2 xs)]), o2, o3, o4] = some (match (List.range' lo cnt).findSome? (fun k => if zeroT (fixAt xs k) = true then some (fixAt xs k) else none) with
      | some r => .rt (.lst .own (dI r)) e
      | none => .nx e) := by
  intro cnt
  induction cnt with
  | zero => intro lo h1 o2 o3 o4; exact ⟨_, rfl⟩
  | succ cnt ih =>
    intro lo h1 o2 o3 o4
    obtain ⟨e, hb, p3, p4, he⟩ := law_body_righted z xs hz hl lo (by omega) o3 o4
    rw [rangeL_succ, List.range'_succ, List.findSome?_cons]
    have hn : nameG 2 [] (.int (lo : Int)) [some (.lst z (dI xs)), some (.lst .own [.int (t0 xs), .int (t1 xs), .int (t2 xs)]), o2, o3, o4] = some [some (.lst z (dI xs)), some (.lst .own [.int (t0 xs), .int (t1 xs), .int (t2 xs)]), some (.int (lo : Int)), o3, o4] := by simp [-List.map_map, seqS, ifS, skipS, exprS, asgS, setS, retS, unpS, boolT, testT, notT, andT, orT, ifT, yesT, op2E, op1E, ixE, varE, constE, callE, fnE, consA, nilA, lateA, lstE, tupE, ifE, andE, orE, notE, chainE, methE, sliceE, partO, noO, takeL, take1, taken, srcSlots, Env.get, Env.putAt, Env.cools_nil, D.put, D.imm, immL, D.cold, coldL, D.hot, hotL, Z.cold, Z.hot, Src.fresh, gAdd_int, gSub_int, gMul_int, gFdiv_int, gMod_int, gNeg_int, gLt_int, gLe_int, gGt_int, gGe_int, gIsN_eq, gNotN_eq, isNon, gInt_int, gLen_lst, gLen_tup, gTru_bl, argsD, lentOf, iosOk, putOuts, allHot, outsOf, D.frz, frzL, frost_own, frost_frz, frost_fix, nameG, consG, nilG, tupG, unlG, tyD, le_size, lt_size, gEq_eq, gNe_eq, deq_int, deq_ints, deq_three, shp_int, shp_ints, shp_three, shp_non, shp_bl, Env.wipe, Env.back, coldL_ints, hotL_ints, frzL_ints, coldL_strs, hotL_strs, frzL_strs]
    by_cases hp : zeroT (fixAt xs lo) = true
    · rw [if_pos hp] at hb ⊢
      exact ⟨e, forL_ret hn hb⟩
    · rw [if_neg hp] at hb ⊢
      obtain ⟨e', h⟩ := ih (lo + 1) (by omega) (some (.int lo)) p3 p4
      rw [he] at hb
      exact ⟨e', by rw [forL_nx hn hb]; exact h⟩
theorem law_righted_ok (z : Z) (hz : z ≠ .fix) (xs : List Int) (hl : xs.length = 60) : f_law_righted [.lst z (dI xs)] = some (rD (prR xs), []) := by
  have e1 := totals_ok z.frost xs (by omega)
  have hs : small62 60 = true := small62_of (by omega)
  obtain ⟨e, h⟩ := law_righted_loop z hz xs hl 60 0 (by omega) none none none
  rw [← lawR_prR xs hl]
  unfold lawR
  rw [List.range_eq_range']
  unfold f_law_righted runF m_law_righted l_law_righted_1 forS range1I
  by_cases h0 : zeroT xs = true
  · simp [-List.map_map, seqS, ifS, skipS, exprS, asgS, setS, retS, unpS, boolT, testT, notT, andT, orT, ifT, yesT, op2E, op1E, ixE, varE, constE, callE, fnE, consA, nilA, lateA, lstE, tupE, ifE, andE, orE, notE, chainE, methE, sliceE, partO, noO, takeL, take1, taken, srcSlots, Env.get, Env.putAt, Env.cools_nil, D.put, D.imm, immL, D.cold, coldL, D.hot, hotL, Z.cold, Z.hot, Src.fresh, gAdd_int, gSub_int, gMul_int, gFdiv_int, gMod_int, gNeg_int, gLt_int, gLe_int, gGt_int, gGe_int, gIsN_eq, gNotN_eq, isNon, gInt_int, gLen_lst, gLen_tup, gTru_bl, argsD, lentOf, iosOk, putOuts, allHot, outsOf, D.frz, frzL, frost_own, frost_frz, frost_fix, nameG, consG, nilG, tupG, unlG, tyD, le_size, lt_size, gEq_eq, gNe_eq, deq_int, deq_ints, deq_three, shp_int, shp_ints, shp_three, shp_non, shp_bl, Env.wipe, Env.back, coldL_ints, hotL_ints, frzL_ints, coldL_strs, hotL_strs, frzL_strs, -deq_three, deq_zero, e1, h0, gList_lst, rD]
  · rw [if_neg h0]
    simp only [Bool.not_eq_true] at h0
    cases hr : (List.range' 0 60).findSome? (fun k => if zeroT (fixAt xs k) = true then some (fixAt xs k) else none) with
    | none =>
      rw [hr, show ((0 : Nat) : Int) = 0 from rfl] at h
      dsimp only at h
      simp [-List.map_map, seqS, ifS, skipS, exprS, asgS, setS, retS, unpS, boolT, testT, notT, andT, orT, ifT, yesT, op2E, op1E, ixE, varE, constE, callE, fnE, consA, nilA, lateA, lstE, tupE, ifE, andE, orE, notE, chainE, methE, sliceE, partO, noO, takeL, take1, taken, srcSlots, Env.get, Env.putAt, Env.cools_nil, D.put, D.imm, immL, D.cold, coldL, D.hot, hotL, Z.cold, Z.hot, Src.fresh, gAdd_int, gSub_int, gMul_int, gFdiv_int, gMod_int, gNeg_int, gLt_int, gLe_int, gGt_int, gGe_int, gIsN_eq, gNotN_eq, isNon, gInt_int, gLen_lst, gLen_tup, gTru_bl, argsD, lentOf, iosOk, putOuts, allHot, outsOf, D.frz, frzL, frost_own, frost_frz, frost_fix, nameG, consG, nilG, tupG, unlG, tyD, le_size, lt_size, gEq_eq, gNe_eq, deq_int, deq_ints, deq_three, shp_int, shp_ints, shp_three, shp_non, shp_bl, Env.wipe, Env.back, coldL_ints, hotL_ints, frzL_ints, coldL_strs, hotL_strs, frzL_strs, -deq_three, deq_zero, e1, h0, hs, gList_lst, rD, h]
    | some r =>
      rw [hr, show ((0 : Nat) : Int) = 0 from rfl] at h
      dsimp only at h
      simp [-List.map_map, seqS, ifS, skipS, exprS, asgS, setS, retS, unpS, boolT, testT, notT, andT, orT, ifT, yesT, op2E, op1E, ixE, varE, constE, callE, fnE, consA, nilA, lateA, lstE, tupE, ifE, andE, orE, notE, chainE, methE, sliceE, partO, noO, takeL, take1, taken, srcSlots, Env.get, Env.putAt, Env.cools_nil, D.put, D.imm, immL, D.cold, coldL, D.hot, hotL, Z.cold, Z.hot, Src.fresh, gAdd_int, gSub_int, gMul_int, gFdiv_int, gMod_int, gNeg_int, gLt_int, gLe_int, gGt_int, gGe_int, gIsN_eq, gNotN_eq, isNon, gInt_int, gLen_lst, gLen_tup, gTru_bl, argsD, lentOf, iosOk, putOuts, allHot, outsOf, D.frz, frzL, frost_own, frost_frz, frost_fix, nameG, consG, nilG, tupG, unlG, tyD, le_size, lt_size, gEq_eq, gNe_eq, deq_int, deq_ints, deq_three, shp_int, shp_ints, shp_three, shp_non, shp_bl, Env.wipe, Env.back, coldL_ints, hotL_ints, frzL_ints, coldL_strs, hotL_strs, frzL_strs, -deq_three, deq_zero, e1, h0, hs, gList_lst, rD, h]
end KL

set_option Elab.async false
set_option linter.all false
set_option maxRecDepth 100000
set_option maxHeartbeats 4000000
namespace KL
open PySem VC KN
abbrev S (l : List Nat) : Str := SX.S l
def two (x : Int) : List Nat := [48 + (x / 10).toNat, 48 + (x % 10).toNat]
theorem str_digit : ∀ d : Fin 10, Str.ofString (toString ((d.val : Nat) : Int)) = SX.S [48 + d.val] := by decide
theorem str_hund : ∀ d : Fin 100, Str.ofString (toString ((100 + d.val : Nat) : Int)) = SX.S [49, 48 + d.val / 10, 48 + d.val % 10] := by decide
theorem gStr_digit (x : Int) (h : 0 ≤ x ∧ x < 10) : gStr [.int x] = some (.str (S [48 + x.toNat])) := by
  obtain ⟨n, rfl⟩ := Int.eq_ofNat_of_zero_le h.1
  rw [gStr_int _ (by
    rw [Int.natAbs_natCast]
    have : n ≤ 9 := by omega
    exact Nat.lt_of_le_of_lt (Nat.log2_le_self n) (by omega))]
  rw [str_digit ⟨n, by omega⟩]
  rfl
theorem gStr_hund (x : Int) (h : 0 ≤ x ∧ x < 100) : gStr [.int (100 + x)] = some (.str (S (49 :: two x))) := by
  obtain ⟨n, rfl⟩ := Int.eq_ofNat_of_zero_le h.1
  rw [gStr_int _ (by
    exact Nat.lt_of_le_of_lt (Nat.log2_le_self _) (by omega))]
  have := str_hund ⟨n, by omega⟩
  rw [show ((100 : Int) + (n : Int)) = ((100 + n : Nat) : Int) by omega, this]
  unfold two
  rw [show ((n : Int) / 10).toNat = n / 10 by omega, show ((n : Int) % 10).toNat = n % 10 by omega]
theorem emp : Str.ofString "" = S [] := rfl
theorem joinL_nil : ∀ ys : List (List Nat), TL.joinL [] ys = ys.flatten
  | [] => rfl
  | [p] => by simp [TL.joinL]
  | p :: q :: r => by
    have := joinL_nil (q :: r)
    simp only [TL.joinL, List.nil_append, this, List.flatten_cons]
theorem join_nil (z : Z) (ys : List (List Nat)) (h : ys.flatten.length ≤ 100000) : gJoin (.str (Str.ofString "")) [.lst z (dS (ys.map SX.S))] = some (.str (S ys.flatten)) := by
  show joinD _ _ = _
  unfold joinD
  rw [strsOf_strs]
  simp only [Option.bind_some]
  rw [SX.lens, emp, SX.join_S, joinL_nil, SX.S_len, if_pos]
  rw [List.length_flatten] at h
  simp only [List.length_nil, Nat.mul_zero, Nat.add_zero]
  exact Nat.le_trans h (by decide)
def twos (xs : List Int) : List Nat := (xs.map two).flatten
theorem twos_len (xs : List Int) : (twos xs).length = 2 * xs.length := by
  unfold twos
  induction xs with
  | nil => rfl
  | cons x xs ih => simp only [List.map_cons, List.flatten_cons, List.length_append, ih, two, List.length_cons, List.length_nil]; omega
def gTwo : D → D
  | .int x => .str (S (two x))
  | d => d
theorem map_gTwo (xs : List Int) : (dI xs).map gTwo = dS ((xs.map two).map SX.S) := by
  simp only [List.map_map]; rfl
theorem q10 : small64 10 = true := small64_of (by omega)
theorem written_ok (z : Z) (xs : List Int) (hl : xs.length ≤ 1000) (h : ∀ x ∈ xs, 0 ≤ x ∧ x < 97) : f_written [.lst z (dI xs)] = some (.str (S (twos xs)), []) := by
  have hk : compL [1] [] (nameG 1 []) yesT ce_written_1 (dI xs) [some (.lst z (dI xs)), none] = some (dS ((xs.map two).map SX.S), [some (.lst z (dI xs)), none]) := by
    rw [compL_map gTwo, map_gTwo]
    intro d hd
    obtain ⟨x, hx, rfl⟩ := List.mem_map.mp hd
    have hb := h x hx
    have e1 := gStr_digit (x / 10) (by omega)
    have e2 := gStr_digit (x % 10) (by omega)
    have e3 : gAdd (.str (S [48 + (x / 10).toNat])) (.str (S [48 + (x % 10).toNat])) = some (.str (S (two x))) := by
      rw [gAdd_str _ _ (by rw [SX.S_len, SX.S_len]; exact le_sz (by simp)), SX.S_cat]; rfl
    have e4 : x.fdiv 10 = x / 10 := fdiv_pos x (by omega)
    have e5 : x.fmod 10 = x % 10 := Int.fmod_eq_emod_of_nonneg _ (by decide)
    refine ⟨[some (.lst z (dI xs)), some (.int x)], by simp [-List.map_map, seqS, ifS, skipS, exprS, asgS, setS, retS, unpS, boolT, testT, notT, andT, orT, ifT, yesT, op2E, op1E, ixE, varE, constE, callE, fnE, consA, nilA, lateA, lstE, tupE, ifE, andE, orE, notE, chainE, methE, sliceE, partO, noO, takeL, take1, taken, srcSlots, Env.get, Env.putAt, Env.cools_nil, D.put, D.imm, immL, D.cold, coldL, D.hot, hotL, Z.cold, Z.hot, Src.fresh, gAdd_int, gSub_int, gMul_int, gFdiv_int, gMod_int, gNeg_int, gLt_int, gLe_int, gGt_int, gGe_int, gIsN_eq, gNotN_eq, isNon, gInt_int, gLen_lst, gLen_tup, gTru_bl, argsD, lentOf, iosOk, putOuts, allHot, outsOf, D.frz, frzL, frost_own, frost_frz, frost_fix, nameG, consG, nilG, tupG, unlG, tyD, le_size, lt_size, gEq_eq, gNe_eq, deq_int, deq_ints, deq_three, shp_int, shp_ints, shp_three, shp_non, shp_bl, Env.wipe, Env.back, coldL_ints, hotL_ints, frzL_ints, coldL_strs, hotL_strs, frzL_strs], ?_, by simp [Env.wipe]⟩
    unfold ce_written_1
    simp [-List.map_map, seqS, ifS, skipS, exprS, asgS, setS, retS, unpS, boolT, testT, notT, andT, orT, ifT, yesT, op2E, op1E, ixE, varE, constE, callE, fnE, consA, nilA, lateA, lstE, tupE, ifE, andE, orE, notE, chainE, methE, sliceE, partO, noO, takeL, take1, taken, srcSlots, Env.get, Env.putAt, Env.cools_nil, D.put, D.imm, immL, D.cold, coldL, D.hot, hotL, Z.cold, Z.hot, Src.fresh, gAdd_int, gSub_int, gMul_int, gFdiv_int, gMod_int, gNeg_int, gLt_int, gLe_int, gGt_int, gGe_int, gIsN_eq, gNotN_eq, isNon, gInt_int, gLen_lst, gLen_tup, gTru_bl, argsD, lentOf, iosOk, putOuts, allHot, outsOf, D.frz, frzL, frost_own, frost_frz, frost_fix, nameG, consG, nilG, tupG, unlG, tyD, le_size, lt_size, gEq_eq, gNe_eq, deq_int, deq_ints, deq_three, shp_int, shp_ints, shp_three, shp_non, shp_bl, Env.wipe, Env.back, coldL_ints, hotL_ints, frzL_ints, coldL_strs, hotL_strs, frzL_strs, e1, e2, e3, e4, e5, gTwo]
  have hj := join_nil .own (xs.map two) (by have := twos_len xs; unfold twos at this; omega)
  unfold f_written runF m_written c_written_1 compE seqI
  simp [-List.map_map, seqS, ifS, skipS, exprS, asgS, setS, retS, unpS, boolT, testT, notT, andT, orT, ifT, yesT, op2E, op1E, ixE, varE, constE, callE, fnE, consA, nilA, lateA, lstE, tupE, ifE, andE, orE, notE, chainE, methE, sliceE, partO, noO, takeL, take1, taken, srcSlots, Env.get, Env.putAt, Env.cools_nil, D.put, D.imm, immL, D.cold, coldL, D.hot, hotL, Z.cold, Z.hot, Src.fresh, gAdd_int, gSub_int, gMul_int, gFdiv_int, gMod_int, gNeg_int, gLt_int, gLe_int, gGt_int, gGe_int, gIsN_eq, gNotN_eq, isNon, gInt_int, gLen_lst, gLen_tup, gTru_bl, argsD, lentOf, iosOk, putOuts, allHot, outsOf, D.frz, frzL, frost_own, frost_frz, frost_fix, nameG, consG, nilG, tupG, unlG, tyD, le_size, lt_size, gEq_eq, gNe_eq, deq_int, deq_ints, deq_three, shp_int, shp_ints, shp_three, shp_non, shp_bl, Env.wipe, Env.back, coldL_ints, hotL_ints, frzL_ints, coldL_strs, hotL_strs, frzL_strs, hk, hj, lt_size (Nat.le_trans hl (by decide : 1000 ≤ 100000)), twos]
theorem law_written_ok (z : Z) (xs : List Int) (hl : xs.length ≤ 1000) (h : ∀ x ∈ xs, 0 ≤ x ∧ x < 97) : f_law_written [.lst z (dI xs)] = some (.str (S (twos xs)), []) := by
  have hk : compL [1] [] (nameG 1 []) yesT ce_law_written_1 (dI xs) [some (.lst z (dI xs)), none] = some (dS ((xs.map two).map SX.S), [some (.lst z (dI xs)), none]) := by
    rw [compL_map gTwo, map_gTwo]
    intro d hd
    obtain ⟨x, hx, rfl⟩ := List.mem_map.mp hd
    have hb := h x hx
    have e1 := gStr_hund x (by omega)
    have e3 : gSl (.str (S (49 :: two x))) (some 1) none = some (.str (S (two x))) := by
      rw [gSl_str _ _ _ (by rw [SX.S_len]; exact le_sz (by simp [two]))]; rfl
    refine ⟨[some (.lst z (dI xs)), some (.int x)], by simp [-List.map_map, seqS, ifS, skipS, exprS, asgS, setS, retS, unpS, boolT, testT, notT, andT, orT, ifT, yesT, op2E, op1E, ixE, varE, constE, callE, fnE, consA, nilA, lateA, lstE, tupE, ifE, andE, orE, notE, chainE, methE, sliceE, partO, noO, takeL, take1, taken, srcSlots, Env.get, Env.putAt, Env.cools_nil, D.put, D.imm, immL, D.cold, coldL, D.hot, hotL, Z.cold, Z.hot, Src.fresh, gAdd_int, gSub_int, gMul_int, gFdiv_int, gMod_int, gNeg_int, gLt_int, gLe_int, gGt_int, gGe_int, gIsN_eq, gNotN_eq, isNon, gInt_int, gLen_lst, gLen_tup, gTru_bl, argsD, lentOf, iosOk, putOuts, allHot, outsOf, D.frz, frzL, frost_own, frost_frz, frost_fix, nameG, consG, nilG, tupG, unlG, tyD, le_size, lt_size, gEq_eq, gNe_eq, deq_int, deq_ints, deq_three, shp_int, shp_ints, shp_three, shp_non, shp_bl, Env.wipe, Env.back, coldL_ints, hotL_ints, frzL_ints, coldL_strs, hotL_strs, frzL_strs], ?_, by simp [Env.wipe]⟩
    unfold ce_law_written_1
    simp [-List.map_map, seqS, ifS, skipS, exprS, asgS, setS, retS, unpS, boolT, testT, notT, andT, orT, ifT, yesT, op2E, op1E, ixE, varE, constE, callE, fnE, consA, nilA, lateA, lstE, tupE, ifE, andE, orE, notE, chainE, methE, sliceE, partO, noO, takeL, take1, taken, srcSlots, Env.get, Env.putAt, Env.cools_nil, D.put, D.imm, immL, D.cold, coldL, D.hot, hotL, Z.cold, Z.hot, Src.fresh, gAdd_int, gSub_int, gMul_int, gFdiv_int, gMod_int, gNeg_int, gLt_int, gLe_int, gGt_int, gGe_int, gIsN_eq, gNotN_eq, isNon, gInt_int, gLen_lst, gLen_tup, gTru_bl, argsD, lentOf, iosOk, putOuts, allHot, outsOf, D.frz, frzL, frost_own, frost_frz, frost_fix, nameG, consG, nilG, tupG, unlG, tyD, le_size, lt_size, gEq_eq, gNe_eq, deq_int, deq_ints, deq_three, shp_int, shp_ints, shp_three, shp_non, shp_bl, Env.wipe, Env.back, coldL_ints, hotL_ints, frzL_ints, coldL_strs, hotL_strs, frzL_strs, e1, e3, gTwo]
  have hj := join_nil .own (xs.map two) (by have := twos_len xs; unfold twos at this; omega)
  unfold f_law_written runF m_law_written c_law_written_1 compE seqI
  simp [-List.map_map, seqS, ifS, skipS, exprS, asgS, setS, retS, unpS, boolT, testT, notT, andT, orT, ifT, yesT, op2E, op1E, ixE, varE, constE, callE, fnE, consA, nilA, lateA, lstE, tupE, ifE, andE, orE, notE, chainE, methE, sliceE, partO, noO, takeL, take1, taken, srcSlots, Env.get, Env.putAt, Env.cools_nil, D.put, D.imm, immL, D.cold, coldL, D.hot, hotL, Z.cold, Z.hot, Src.fresh, gAdd_int, gSub_int, gMul_int, gFdiv_int, gMod_int, gNeg_int, gLt_int, gLe_int, gGt_int, gGe_int, gIsN_eq, gNotN_eq, isNon, gInt_int, gLen_lst, gLen_tup, gTru_bl, argsD, lentOf, iosOk, putOuts, allHot, outsOf, D.frz, frzL, frost_own, frost_frz, frost_fix, nameG, consG, nilG, tupG, unlG, tyD, le_size, lt_size, gEq_eq, gNe_eq, deq_int, deq_ints, deq_three, shp_int, shp_ints, shp_three, shp_non, shp_bl, Env.wipe, Env.back, coldL_ints, hotL_ints, frzL_ints, coldL_strs, hotL_strs, frzL_strs, hk, hj, lt_size (Nat.le_trans hl (by decide : 1000 ≤ 100000)), twos]
end KL

set_option Elab.async false
set_option linter.all false
set_option maxRecDepth 100000
set_option maxHeartbeats 4000000
namespace KL
open PySem VC KN
/-! ### numbers in a line -/
def isDg (c : Nat) : Bool := decide (48 ≤ c) && decide (c ≤ 57)
theorem dg10 : Str.ofString "0123456789" = S [48, 49, 50, 51, 52, 53, 54, 55, 56, 57] := by decide
theorem mem10 (c : Nat) : decide (c ∈ (S [48, 49, 50, 51, 52, 53, 54, 55, 56, 57]).cps.toList) = isDg c := by
  unfold isDg
  by_cases h : 48 ≤ c ∧ c ≤ 57
  · rw [decide_eq_true h.1, decide_eq_true h.2]
    refine decide_eq_true ?_
    simp only [List.mem_cons, List.not_mem_nil, or_false]
    omega
  · have : ¬ (c ∈ (S [48, 49, 50, 51, 52, 53, 54, 55, 56, 57]).cps.toList) := by
      simp only [List.mem_cons, List.not_mem_nil, or_false]
      omega
    rw [decide_eq_false this]
    symm
    simp only [Bool.and_eq_false_iff, decide_eq_false_iff_not]
    omega
def val (l : List Nat) (i : Nat) : Int := (((l.getD (2 * i) 0 - 48) * 10 + (l.getD (2 * i + 1) 0 - 48) : Nat) : Int)
def vals (l : List Nat) : List Int := (List.range 60).map (val l)
theorem vals_len (l : List Nat) : (vals l).length = 60 := by unfold vals; simp
theorem cut2 (l : List Nat) (hl : l.length = 120) (i : Nat) (hi : i < 60) : gSl (.str (S l)) (some ((i : Int) * 2)) (some ((i : Int) * 2 + 2)) = some (.str (S [l.getD (2 * i) 0, l.getD (2 * i + 1) 0])) := by
  rw [gSl_str _ _ _ (by rw [SX.S_len]; exact le_sz (by omega))]
  unfold L2.cutS
  rw [show ((i : Int) * 2) = ((2 * i : Nat) : Int) by omega, show (((2 * i : Nat) : Int) + 2) = ((2 * i + 2 : Nat) : Int) by omega]
  simp only [HT.sIx_nat, SX.S_len, hl]
  rw [Nat.min_eq_left (by omega), Nat.min_eq_left (by omega), show 2 * i + 2 - 2 * i = 2 by omega]
  refine congrArg (fun x : List Nat => some (D.str ⟨x.toArray⟩)) ?_
  apply List.ext_getElem?
  intro j
  rw [List.getElem?_take, List.getElem?_drop]
  rcases j with _ | _ | j
  · rw [if_pos (by omega)]
    simp [List.getD_eq_getElem?_getD]
    rw [List.getElem?_eq_getElem (by omega)]; rfl
  · rw [if_pos (by omega)]
    simp [List.getD_eq_getElem?_getD]
    rw [List.getElem?_eq_getElem (by omega)]; rfl
  · rw [if_neg (by omega)]; simp
theorem int2 (a b : Nat) (ha : isDg a = true) (hb : isDg b = true) : gInt [.str (S [a, b])] = some (.int (((a - 48) * 10 + (b - 48) : Nat) : Int)) := by
  refine gInt_str _ _ (by simp [SX.S_len]) ?_
  unfold isDg at ha hb
  rw [SX.int_S (by simp only [List.all_cons, List.all_nil, ha, hb, Bool.and_self]) (by simp) (by simp)]
  simp [NumText.digitsVal]
theorem getD_dg {l : List Nat} (h : l.all isDg = true) {i : Nat} (hi : i < l.length) : isDg (l.getD i 0) = true := by
  rw [List.getD_eq_getElem?_getD, List.getElem?_eq_getElem hi]
  exact List.all_eq_true.mp h _ (List.getElem_mem hi)
theorem range120 : grd (Builtin.Range.small 0 120 2 = true ∧ 0 ≤ Builtin.Range.rangeSize 0 120 2) = true := grd_iff.mpr ⟨by decide, by decide⟩
theorem size120 : (Builtin.Range.rangeSize 0 120 2).toNat = 60 := by decide
def chars (l : List Nat) : List D := l.map fun c => .str (S [c])
theorem allI_bools : ∀ bs : List Bool, allI (bs.map D.bl) = some (bs.all id)
  | [] => rfl
  | b :: bs => by simp [allI, truI, allI_bools bs]
theorem coldL_bools (bs : List Bool) : coldL (bs.map D.bl) = true := coldL_of fun d hd => by
  obtain ⟨i, _, rfl⟩ := List.mem_map.mp hd; rfl
theorem gAll_bools (z : Z) (bs : List Bool) : gAll [.lst z (bs.map D.bl)] = some (.bl (bs.all id)) := by
  show (allI _).map _ = _
  rw [allI_bools]; rfl
theorem gMax_ints (z : Z) (xs : List Int) (h : xs ≠ []) : gMax [.lst z (dI xs)] = some (.int (maxI xs)) := by
  unfold gMax gMax1
  simp [intsOf_ints, h]
theorem maxI_le {m : Int} : ∀ {xs : List Int}, xs ≠ [] → (maxI xs ≤ m ↔ ∀ x ∈ xs, x ≤ m)
  | [x], _ => by simp [maxI]
  | x :: y :: xs, _ => by
    have ih := maxI_le (m := m) (xs := y :: xs) (by simp)
    rw [show maxI (x :: y :: xs) = max x (maxI (y :: xs)) from rfl]
    have : max x (maxI (y :: xs)) ≤ m ↔ x ≤ m ∧ maxI (y :: xs) ≤ m := by omega
    rw [this, ih, List.forall_mem_cons (a := x)]
def nums (l : List Nat) : Option (List Int) := if l.length = 120 ∧ l.all isDg = true ∧ maxI (vals l) < 97 then some (vals l) else none
def gIsD : D → D
  | .str s => .bl ((s.cps.toList).all isDg)
  | d => d
theorem comp_digits (l : List Nat) (o1 : Option D) (o3 : Option D) : compL [2] [] (nameG 2 []) yesT ce_numbers_in_2 (chars l) [some (.str (S l)), o1, none, o3] = some ((l.map isDg).map D.bl, [some (.str (S l)), o1, none, o3]) := by
  rw [compL_map gIsD]
  · congr 2
    unfold chars
    simp only [List.map_map]
    apply List.map_congr_left
    intro c _
    simp [gIsD]
  · intro d hd
    obtain ⟨c, hc, rfl⟩ := List.mem_map.mp hd
    refine ⟨[some (.str (S l)), o1, some (.str (S [c])), o3], by simp [-List.map_map, seqS, ifS, skipS, exprS, asgS, setS, retS, unpS, boolT, testT, notT, andT, orT, ifT, yesT, op2E, op1E, ixE, varE, constE, callE, fnE, consA, nilA, lateA, lstE, tupE, ifE, andE, orE, notE, chainE, methE, sliceE, partO, noO, takeL, take1, taken, srcSlots, Env.get, Env.putAt, Env.cools_nil, D.put, D.imm, immL, D.cold, coldL, D.hot, hotL, Z.cold, Z.hot, Src.fresh, gAdd_int, gSub_int, gMul_int, gFdiv_int, gMod_int, gNeg_int, gLt_int, gLe_int, gGt_int, gGe_int, gIsN_eq, gNotN_eq, isNon, gInt_int, gLen_lst, gLen_tup, gTru_bl, argsD, lentOf, iosOk, putOuts, allHot, outsOf, D.frz, frzL, frost_own, frost_frz, frost_fix, nameG, consG, nilG, tupG, unlG, tyD, le_size, lt_size, gEq_eq, gNe_eq, deq_int, deq_ints, deq_three, shp_int, shp_ints, shp_three, shp_non, shp_bl, Env.wipe, Env.back, coldL_ints, hotL_ints, frzL_ints, coldL_strs, hotL_strs, frzL_strs], ?_, by simp [Env.wipe]⟩
    unfold ce_numbers_in_2
    have e1 : gIn (.str (S [c])) (.str (Str.ofString "0123456789")) = some (.bl (isDg c)) := by
      rw [dg10]
      unfold gIn signIn
      exact congrArg (fun b => some (D.bl b)) (mem10 c)
    simp [-List.map_map, seqS, ifS, skipS, exprS, asgS, setS, retS, unpS, boolT, testT, notT, andT, orT, ifT, yesT, op2E, op1E, ixE, varE, constE, callE, fnE, consA, nilA, lateA, lstE, tupE, ifE, andE, orE, notE, chainE, methE, sliceE, partO, noO, takeL, take1, taken, srcSlots, Env.get, Env.putAt, Env.cools_nil, D.put, D.imm, immL, D.cold, coldL, D.hot, hotL, Z.cold, Z.hot, Src.fresh, gAdd_int, gSub_int, gMul_int, gFdiv_int, gMod_int, gNeg_int, gLt_int, gLe_int, gGt_int, gGe_int, gIsN_eq, gNotN_eq, isNon, gInt_int, gLen_lst, gLen_tup, gTru_bl, argsD, lentOf, iosOk, putOuts, allHot, outsOf, D.frz, frzL, frost_own, frost_frz, frost_fix, nameG, consG, nilG, tupG, unlG, tyD, le_size, lt_size, gEq_eq, gNe_eq, deq_int, deq_ints, deq_three, shp_int, shp_ints, shp_three, shp_non, shp_bl, Env.wipe, Env.back, coldL_ints, hotL_ints, frzL_ints, coldL_strs, hotL_strs, frzL_strs, e1, gIsD]
theorem comp_vals (l : List Nat) (hl : l.length = 120) (hd : l.all isDg = true) (fe : EF) (hf : fe = ce_numbers_in_1 ∨ fe = ce_law_numbers_1) : compL [3] [] (nameG 3 []) yesT fe (rangeL 0 2 60) [some (.str (S l)), none, none, none] = some (dI (vals l), [some (.str (S l)), none, none, none]) := by
  rw [compL_map (fun d => match d with | .int x => .int (val l (x / 2).toNat) | d => d)]
  · refine congrArg (fun x => some (x, _)) ?_
    unfold rangeL vals
    simp only [List.map_map]
    apply List.map_congr_left
    intro i hi
    simp
  · intro d hd'
    unfold rangeL at hd'
    obtain ⟨i, hi, rfl⟩ := List.mem_map.mp hd'
    have hi2 := List.mem_range.mp hi
    rw [Int.zero_add]
    refine ⟨[some (.str (S l)), none, none, some (.int ((i : Int) * 2))], by simp [-List.map_map, seqS, ifS, skipS, exprS, asgS, setS, retS, unpS, boolT, testT, notT, andT, orT, ifT, yesT, op2E, op1E, ixE, varE, constE, callE, fnE, consA, nilA, lateA, lstE, tupE, ifE, andE, orE, notE, chainE, methE, sliceE, partO, noO, takeL, take1, taken, srcSlots, Env.get, Env.putAt, Env.cools_nil, D.put, D.imm, immL, D.cold, coldL, D.hot, hotL, Z.cold, Z.hot, Src.fresh, gAdd_int, gSub_int, gMul_int, gFdiv_int, gMod_int, gNeg_int, gLt_int, gLe_int, gGt_int, gGe_int, gIsN_eq, gNotN_eq, isNon, gInt_int, gLen_lst, gLen_tup, gTru_bl, argsD, lentOf, iosOk, putOuts, allHot, outsOf, D.frz, frzL, frost_own, frost_frz, frost_fix, nameG, consG, nilG, tupG, unlG, tyD, le_size, lt_size, gEq_eq, gNe_eq, deq_int, deq_ints, deq_three, shp_int, shp_ints, shp_three, shp_non, shp_bl, Env.wipe, Env.back, coldL_ints, hotL_ints, frzL_ints, coldL_strs, hotL_strs, frzL_strs], ?_, by simp [Env.wipe]⟩
    have e1 := cut2 l hl i hi2
    have e2 := int2 _ _ (getD_dg hd (i := 2 * i) (by omega)) (getD_dg hd (i := 2 * i + 1) (by omega))
    have e3 : ((i : Int) * 2 / 2).toNat = i := by omega
    rw [show ((((l.getD (2 * i) 0 - 48) * 10 + (l.getD (2 * i + 1) 0 - 48) : Nat)) : Int) = val l i from rfl] at e2
    generalize l.getD (2 * i) 0 = a at e1 e2
    generalize l.getD (2 * i + 1) 0 = b at e1 e2
    rcases hf with rfl | rfl
    · unfold ce_numbers_in_1
      simp [-List.map_map, seqS, ifS, skipS, exprS, asgS, setS, retS, unpS, boolT, testT, notT, andT, orT, ifT, yesT, op2E, op1E, ixE, varE, constE, callE, fnE, consA, nilA, lateA, lstE, tupE, ifE, andE, orE, notE, chainE, methE, sliceE, partO, noO, takeL, take1, taken, srcSlots, Env.get, Env.putAt, Env.cools_nil, D.put, D.imm, immL, D.cold, coldL, D.hot, hotL, Z.cold, Z.hot, Src.fresh, gAdd_int, gSub_int, gMul_int, gFdiv_int, gMod_int, gNeg_int, gLt_int, gLe_int, gGt_int, gGe_int, gIsN_eq, gNotN_eq, isNon, gInt_int, gLen_lst, gLen_tup, gTru_bl, argsD, lentOf, iosOk, putOuts, allHot, outsOf, D.frz, frzL, frost_own, frost_frz, frost_fix, nameG, consG, nilG, tupG, unlG, tyD, le_size, lt_size, gEq_eq, gNe_eq, deq_int, deq_ints, deq_three, shp_int, shp_ints, shp_three, shp_non, shp_bl, Env.wipe, Env.back, coldL_ints, hotL_ints, frzL_ints, coldL_strs, hotL_strs, frzL_strs, e1, e2, e3]
    · unfold ce_law_numbers_1
      simp [-List.map_map, seqS, ifS, skipS, exprS, asgS, setS, retS, unpS, boolT, testT, notT, andT, orT, ifT, yesT, op2E, op1E, ixE, varE, constE, callE, fnE, consA, nilA, lateA, lstE, tupE, ifE, andE, orE, notE, chainE, methE, sliceE, partO, noO, takeL, take1, taken, srcSlots, Env.get, Env.putAt, Env.cools_nil, D.put, D.imm, immL, D.cold, coldL, D.hot, hotL, Z.cold, Z.hot, Src.fresh, gAdd_int, gSub_int, gMul_int, gFdiv_int, gMod_int, gNeg_int, gLt_int, gLe_int, gGt_int, gGe_int, gIsN_eq, gNotN_eq, isNon, gInt_int, gLen_lst, gLen_tup, gTru_bl, argsD, lentOf, iosOk, putOuts, allHot, outsOf, D.frz, frzL, frost_own, frost_frz, frost_fix, nameG, consG, nilG, tupG, unlG, tyD, le_size, lt_size, gEq_eq, gNe_eq, deq_int, deq_ints, deq_three, shp_int, shp_ints, shp_three, shp_non, shp_bl, Env.wipe, Env.back, coldL_ints, hotL_ints, frzL_ints, coldL_strs, hotL_strs, frzL_strs, e1, e2, e3]
def nD : Option (List Int) → D
  | none => .non
  | some xs => .lst .own (dI xs)
theorem numbers_in_ok (l : List Nat) (hl : l.length ≤ 1000) : f_numbers_in [.str (S l)] = some (rD (nums l), []) := by
  have q2 : small64 2 = true := small64_of (by omega)
  have hL : gLen [.str (S l)] = some (.int (l.length : Nat)) := by rw [gLen_str _ (by rw [SX.S_len]; exact le_sz (by omega)), SX.S_len]
  have hk := comp_digits l none none
  have kb : ∀ s : Str, L2.kitB (tyName (D.str s)) "str" = some true := fun s => rfl
  have hkl : ((chars l).length < sizeLine) = True := lt_size (by unfold chars; simp; omega)
  have hks : List.map (fun c => D.str { cps := #[c] }) l = chars l := rfl
  have hb := gAll_bools .own (l.map isDg)
  have hba : (l.map isDg).all id = l.all isDg := by simp
  rw [hba] at hb
  unfold f_numbers_in runF m_numbers_in isiE c_numbers_in_2 compE seqI
  by_cases h1 : l.length = 120
  · have hu : (l.length : Int) = 120 := by omega
    by_cases h2 : l.all isDg = true
    · have hv := comp_vals l h1 h2 _ (.inl rfl)
      have hm := gMax_ints .own (vals l) (by intro h; have := vals_len l; rw [h] at this; simp at this)
      have hc : c_numbers_in_1 [some (.str (S l)), none, none, none] = some (.lst .own (dI (vals l)), .tmp, [some (.str (S l)), none, none, none]) := by
        unfold c_numbers_in_1 compE range3I
        simp [-List.map_map, seqS, ifS, skipS, exprS, asgS, setS, retS, unpS, boolT, testT, notT, andT, orT, ifT, yesT, op2E, op1E, ixE, varE, constE, callE, fnE, consA, nilA, lateA, lstE, tupE, ifE, andE, orE, notE, chainE, methE, sliceE, partO, noO, takeL, take1, taken, srcSlots, Env.get, Env.putAt, Env.cools_nil, D.put, D.imm, immL, D.cold, coldL, D.hot, hotL, Z.cold, Z.hot, Src.fresh, gAdd_int, gSub_int, gMul_int, gFdiv_int, gMod_int, gNeg_int, gLt_int, gLe_int, gGt_int, gGe_int, gIsN_eq, gNotN_eq, isNon, gInt_int, gLen_lst, gLen_tup, gTru_bl, argsD, lentOf, iosOk, putOuts, allHot, outsOf, D.frz, frzL, frost_own, frost_frz, frost_fix, nameG, consG, nilG, tupG, unlG, tyD, le_size, lt_size, gEq_eq, gNe_eq, deq_int, deq_ints, deq_three, shp_int, shp_ints, shp_three, shp_non, shp_bl, Env.wipe, Env.back, coldL_ints, hotL_ints, frzL_ints, coldL_strs, hotL_strs, frzL_strs, q2, range120, size120, hv, rangeL_length]
      rw [h2] at hb
      rw [hu] at hL
      by_cases h3 : maxI (vals l) < 97
      · simp [-List.map_map, seqS, ifS, skipS, exprS, asgS, setS, retS, unpS, boolT, testT, notT, andT, orT, ifT, yesT, op2E, op1E, ixE, varE, constE, callE, fnE, consA, nilA, lateA, lstE, tupE, ifE, andE, orE, notE, chainE, methE, sliceE, partO, noO, takeL, take1, taken, srcSlots, Env.get, Env.putAt, Env.cools_nil, D.put, D.imm, immL, D.cold, coldL, D.hot, hotL, Z.cold, Z.hot, Src.fresh, gAdd_int, gSub_int, gMul_int, gFdiv_int, gMod_int, gNeg_int, gLt_int, gLe_int, gGt_int, gGe_int, gIsN_eq, gNotN_eq, isNon, gInt_int, gLen_lst, gLen_tup, gTru_bl, argsD, lentOf, iosOk, putOuts, allHot, outsOf, D.frz, frzL, frost_own, frost_frz, frost_fix, nameG, consG, nilG, tupG, unlG, tyD, le_size, lt_size, gEq_eq, gNe_eq, deq_int, deq_ints, deq_three, shp_int, shp_ints, shp_three, shp_non, shp_bl, Env.wipe, Env.back, coldL_ints, hotL_ints, frzL_ints, coldL_strs, hotL_strs, frzL_strs, hL, hks, hk, hkl, hb, hc, hm, h1, h2, h3, q2, nums, rD, kb]
      · simp [-List.map_map, seqS, ifS, skipS, exprS, asgS, setS, retS, unpS, boolT, testT, notT, andT, orT, ifT, yesT, op2E, op1E, ixE, varE, constE, callE, fnE, consA, nilA, lateA, lstE, tupE, ifE, andE, orE, notE, chainE, methE, sliceE, partO, noO, takeL, take1, taken, srcSlots, Env.get, Env.putAt, Env.cools_nil, D.put, D.imm, immL, D.cold, coldL, D.hot, hotL, Z.cold, Z.hot, Src.fresh, gAdd_int, gSub_int, gMul_int, gFdiv_int, gMod_int, gNeg_int, gLt_int, gLe_int, gGt_int, gGe_int, gIsN_eq, gNotN_eq, isNon, gInt_int, gLen_lst, gLen_tup, gTru_bl, argsD, lentOf, iosOk, putOuts, allHot, outsOf, D.frz, frzL, frost_own, frost_frz, frost_fix, nameG, consG, nilG, tupG, unlG, tyD, le_size, lt_size, gEq_eq, gNe_eq, deq_int, deq_ints, deq_three, shp_int, shp_ints, shp_three, shp_non, shp_bl, Env.wipe, Env.back, coldL_ints, hotL_ints, frzL_ints, coldL_strs, hotL_strs, frzL_strs, hL, hks, hk, hkl, hb, hc, hm, h1, h2, h3, q2, nums, rD, kb]
    · simp only [Bool.not_eq_true] at h2
      rw [h2] at hb
      rw [hu] at hL
      simp [-List.map_map, seqS, ifS, skipS, exprS, asgS, setS, retS, unpS, boolT, testT, notT, andT, orT, ifT, yesT, op2E, op1E, ixE, varE, constE, callE, fnE, consA, nilA, lateA, lstE, tupE, ifE, andE, orE, notE, chainE, methE, sliceE, partO, noO, takeL, take1, taken, srcSlots, Env.get, Env.putAt, Env.cools_nil, D.put, D.imm, immL, D.cold, coldL, D.hot, hotL, Z.cold, Z.hot, Src.fresh, gAdd_int, gSub_int, gMul_int, gFdiv_int, gMod_int, gNeg_int, gLt_int, gLe_int, gGt_int, gGe_int, gIsN_eq, gNotN_eq, isNon, gInt_int, gLen_lst, gLen_tup, gTru_bl, argsD, lentOf, iosOk, putOuts, allHot, outsOf, D.frz, frzL, frost_own, frost_frz, frost_fix, nameG, consG, nilG, tupG, unlG, tyD, le_size, lt_size, gEq_eq, gNe_eq, deq_int, deq_ints, deq_three, shp_int, shp_ints, shp_three, shp_non, shp_bl, Env.wipe, Env.back, coldL_ints, hotL_ints, frzL_ints, coldL_strs, hotL_strs, frzL_strs, hL, hks, hk, hkl, hb, h1, h2, q2, nums, rD, kb]
  · have hu : ¬ ((l.length : Int) = 120) := by omega
    simp [-List.map_map, seqS, ifS, skipS, exprS, asgS, setS, retS, unpS, boolT, testT, notT, andT, orT, ifT, yesT, op2E, op1E, ixE, varE, constE, callE, fnE, consA, nilA, lateA, lstE, tupE, ifE, andE, orE, notE, chainE, methE, sliceE, partO, noO, takeL, take1, taken, srcSlots, Env.get, Env.putAt, Env.cools_nil, D.put, D.imm, immL, D.cold, coldL, D.hot, hotL, Z.cold, Z.hot, Src.fresh, gAdd_int, gSub_int, gMul_int, gFdiv_int, gMod_int, gNeg_int, gLt_int, gLe_int, gGt_int, gGe_int, gIsN_eq, gNotN_eq, isNon, gInt_int, gLen_lst, gLen_tup, gTru_bl, argsD, lentOf, iosOk, putOuts, allHot, outsOf, D.frz, frzL, frost_own, frost_frz, frost_fix, nameG, consG, nilG, tupG, unlG, tyD, le_size, lt_size, gEq_eq, gNe_eq, deq_int, deq_ints, deq_three, shp_int, shp_ints, shp_three, shp_non, shp_bl, Env.wipe, Env.back, coldL_ints, hotL_ints, frzL_ints, coldL_strs, hotL_strs, frzL_strs, hL, hks, hk, hkl, hb, h1, hu, q2, nums, rD, kb]
theorem comp_nondigits (l : List Nat) (o1 : Option D) (o3 : Option D) : compL [2] [] (nameG 2 []) ct_law_numbers_2 ce_law_numbers_2 (chars l) [some (.str (S l)), o1, none, o3] = some (chars (l.filter fun c => !isDg c), [some (.str (S l)), o1, none, o3]) := by
  rw [compL_pure (fun d => match d with | .str s => !(s.cps.toList).all isDg | _ => true) (fun d => d)]
  · congr 2
    unfold chars
    rw [List.filter_map, List.map_id']
    congr 1
    apply List.filter_congr
    intro c _
    simp
  · intro d hd
    obtain ⟨c, hc, rfl⟩ := List.mem_map.mp hd
    refine ⟨[some (.str (S l)), o1, some (.str (S [c])), o3], by simp [-List.map_map, seqS, ifS, skipS, exprS, asgS, setS, retS, unpS, boolT, testT, notT, andT, orT, ifT, yesT, op2E, op1E, ixE, varE, constE, callE, fnE, consA, nilA, lateA, lstE, tupE, ifE, andE, orE, notE, chainE, methE, sliceE, partO, noO, takeL, take1, taken, srcSlots, Env.get, Env.putAt, Env.cools_nil, D.put, D.imm, immL, D.cold, coldL, D.hot, hotL, Z.cold, Z.hot, Src.fresh, gAdd_int, gSub_int, gMul_int, gFdiv_int, gMod_int, gNeg_int, gLt_int, gLe_int, gGt_int, gGe_int, gIsN_eq, gNotN_eq, isNon, gInt_int, gLen_lst, gLen_tup, gTru_bl, argsD, lentOf, iosOk, putOuts, allHot, outsOf, D.frz, frzL, frost_own, frost_frz, frost_fix, nameG, consG, nilG, tupG, unlG, tyD, le_size, lt_size, gEq_eq, gNe_eq, deq_int, deq_ints, deq_three, shp_int, shp_ints, shp_three, shp_non, shp_bl, Env.wipe, Env.back, coldL_ints, hotL_ints, frzL_ints, coldL_strs, hotL_strs, frzL_strs], ?_, ?_, by simp [Env.wipe]⟩
    · unfold ct_law_numbers_2
      have e1 : gNotIn (.str (S [c])) (.str (Str.ofString "0123456789")) = some (.bl (!isDg c)) := by
        rw [dg10]
        unfold gNotIn signIn
        exact congrArg (fun b => some (D.bl (!b))) (mem10 c)
      simp [-List.map_map, seqS, ifS, skipS, exprS, asgS, setS, retS, unpS, boolT, testT, notT, andT, orT, ifT, yesT, op2E, op1E, ixE, varE, constE, callE, fnE, consA, nilA, lateA, lstE, tupE, ifE, andE, orE, notE, chainE, methE, sliceE, partO, noO, takeL, take1, taken, srcSlots, Env.get, Env.putAt, Env.cools_nil, D.put, D.imm, immL, D.cold, coldL, D.hot, hotL, Z.cold, Z.hot, Src.fresh, gAdd_int, gSub_int, gMul_int, gFdiv_int, gMod_int, gNeg_int, gLt_int, gLe_int, gGt_int, gGe_int, gIsN_eq, gNotN_eq, isNon, gInt_int, gLen_lst, gLen_tup, gTru_bl, argsD, lentOf, iosOk, putOuts, allHot, outsOf, D.frz, frzL, frost_own, frost_frz, frost_fix, nameG, consG, nilG, tupG, unlG, tyD, le_size, lt_size, gEq_eq, gNe_eq, deq_int, deq_ints, deq_three, shp_int, shp_ints, shp_three, shp_non, shp_bl, Env.wipe, Env.back, coldL_ints, hotL_ints, frzL_ints, coldL_strs, hotL_strs, frzL_strs, e1]
    · intro _
      unfold ce_law_numbers_2
      simp [-List.map_map, seqS, ifS, skipS, exprS, asgS, setS, retS, unpS, boolT, testT, notT, andT, orT, ifT, yesT, op2E, op1E, ixE, varE, constE, callE, fnE, consA, nilA, lateA, lstE, tupE, ifE, andE, orE, notE, chainE, methE, sliceE, partO, noO, takeL, take1, taken, srcSlots, Env.get, Env.putAt, Env.cools_nil, D.put, D.imm, immL, D.cold, coldL, D.hot, hotL, Z.cold, Z.hot, Src.fresh, gAdd_int, gSub_int, gMul_int, gFdiv_int, gMod_int, gNeg_int, gLt_int, gLe_int, gGt_int, gGe_int, gIsN_eq, gNotN_eq, isNon, gInt_int, gLen_lst, gLen_tup, gTru_bl, argsD, lentOf, iosOk, putOuts, allHot, outsOf, D.frz, frzL, frost_own, frost_frz, frost_fix, nameG, consG, nilG, tupG, unlG, tyD, le_size, lt_size, gEq_eq, gNe_eq, deq_int, deq_ints, deq_three, shp_int, shp_ints, shp_three, shp_non, shp_bl, Env.wipe, Env.back, coldL_ints, hotL_ints, frzL_ints, coldL_strs, hotL_strs, frzL_strs]
theorem filter_dg (l : List Nat) : decide (0 < (l.filter fun c => !isDg c).length) = !l.all isDg := by
  cases e : l.all isDg with
  | true =>
    rw [List.filter_eq_nil_iff.mpr fun c hc => by simp [List.all_eq_true.mp e c hc]]
    rfl
  | false =>
    refine decide_eq_true ?_
    obtain ⟨c, hc, h⟩ := List.all_eq_false.mp e
    have : 0 < (l.filter fun c => !isDg c).length := List.length_pos_of_mem (List.mem_filter.mpr ⟨hc, by simpa using h⟩)
    omega
theorem rD_hot (o : Option (List Int)) : (rD o).hot = true := by
  cases o with
  | none => rfl
  | some xs => simp only [rD, D.hot, hotL_ints, Z.hot, Bool.and_self]
theorem law_numbers_ok (l : List Nat) (hl : l.length ≤ 1000) : f_law_numbers [.str (S l)] = some (rD ((nums l).bind prR), []) := by
  have hL : gLen [.str (S l)] = some (.int (l.length : Nat)) := by rw [gLen_str _ (by rw [SX.S_len]; exact le_sz (by omega)), SX.S_len]
  have hk := comp_nondigits l none none
  have hks : List.map (fun c => D.str { cps := #[c] }) l = chars l := rfl
  have hkl : ((chars l).length < sizeLine) = True := lt_size (by unfold chars; simp; omega)
  have hfl : (chars (l.filter fun c => !isDg c)).length = (l.filter fun c => !isDg c).length := by unfold chars; rw [List.length_map]
  have hfd := filter_dg l
  generalize hfz : (l.filter fun c => !isDg c).length = fz at *
  unfold f_law_numbers runF m_law_numbers c_law_numbers_2 compE seqI
  by_cases h1 : l.length = 120
  · have hu : (l.length : Int) = 120 := by omega
    rw [hu] at hL
    by_cases h2 : l.all isDg = true
    · have hv := comp_vals l h1 h2 _ (.inr rfl)
      have hm := gMax_ints .own (vals l) (by intro h; have := vals_len l; rw [h] at this; simp at this)
      have hc : c_law_numbers_1 [some (.str (S l)), none, none, none] = some (.lst .own (dI (vals l)), .tmp, [some (.str (S l)), none, none, none]) := by
        unfold c_law_numbers_1 compE range3I
        simp [-List.map_map, seqS, ifS, skipS, exprS, asgS, setS, retS, unpS, boolT, testT, notT, andT, orT, ifT, yesT, op2E, op1E, ixE, varE, constE, callE, fnE, consA, nilA, lateA, lstE, tupE, ifE, andE, orE, notE, chainE, methE, sliceE, partO, noO, takeL, take1, taken, srcSlots, Env.get, Env.putAt, Env.cools_nil, D.put, D.imm, immL, D.cold, coldL, D.hot, hotL, Z.cold, Z.hot, Src.fresh, gAdd_int, gSub_int, gMul_int, gFdiv_int, gMod_int, gNeg_int, gLt_int, gLe_int, gGt_int, gGe_int, gIsN_eq, gNotN_eq, isNon, gInt_int, gLen_lst, gLen_tup, gTru_bl, argsD, lentOf, iosOk, putOuts, allHot, outsOf, D.frz, frzL, frost_own, frost_frz, frost_fix, nameG, consG, nilG, tupG, unlG, tyD, le_size, lt_size, gEq_eq, gNe_eq, deq_int, deq_ints, deq_three, shp_int, shp_ints, shp_three, shp_non, shp_bl, Env.wipe, Env.back, coldL_ints, hotL_ints, frzL_ints, coldL_strs, hotL_strs, frzL_strs, range120, size120, hv, rangeL_length]
      have hr := law_righted_ok .frz (by decide) (vals l) (vals_len l)
      rw [h2] at hfd
      by_cases h3 : maxI (vals l) < 97
      · have h4 : ¬ (96 < maxI (vals l)) := by omega
        simp [-List.map_map, seqS, ifS, skipS, exprS, asgS, setS, retS, unpS, boolT, testT, notT, andT, orT, ifT, yesT, op2E, op1E, ixE, varE, constE, callE, fnE, consA, nilA, lateA, lstE, tupE, ifE, andE, orE, notE, chainE, methE, sliceE, partO, noO, takeL, take1, taken, srcSlots, Env.get, Env.putAt, Env.cools_nil, D.put, D.imm, immL, D.cold, coldL, D.hot, hotL, Z.cold, Z.hot, Src.fresh, gAdd_int, gSub_int, gMul_int, gFdiv_int, gMod_int, gNeg_int, gLt_int, gLe_int, gGt_int, gGe_int, gIsN_eq, gNotN_eq, isNon, gInt_int, gLen_lst, gLen_tup, gTru_bl, argsD, lentOf, iosOk, putOuts, allHot, outsOf, D.frz, frzL, frost_own, frost_frz, frost_fix, nameG, consG, nilG, tupG, unlG, tyD, le_size, lt_size, gEq_eq, gNe_eq, deq_int, deq_ints, deq_three, shp_int, shp_ints, shp_three, shp_non, shp_bl, Env.wipe, Env.back, coldL_ints, hotL_ints, frzL_ints, coldL_strs, hotL_strs, frzL_strs, hL, hks, hk, hkl, hfl, hfd, hc, hm, h1, h2, h3, h4, nums, hr, rD_hot]
      · have h4 : 96 < maxI (vals l) := by omega
        simp [-List.map_map, seqS, ifS, skipS, exprS, asgS, setS, retS, unpS, boolT, testT, notT, andT, orT, ifT, yesT, op2E, op1E, ixE, varE, constE, callE, fnE, consA, nilA, lateA, lstE, tupE, ifE, andE, orE, notE, chainE, methE, sliceE, partO, noO, takeL, take1, taken, srcSlots, Env.get, Env.putAt, Env.cools_nil, D.put, D.imm, immL, D.cold, coldL, D.hot, hotL, Z.cold, Z.hot, Src.fresh, gAdd_int, gSub_int, gMul_int, gFdiv_int, gMod_int, gNeg_int, gLt_int, gLe_int, gGt_int, gGe_int, gIsN_eq, gNotN_eq, isNon, gInt_int, gLen_lst, gLen_tup, gTru_bl, argsD, lentOf, iosOk, putOuts, allHot, outsOf, D.frz, frzL, frost_own, frost_frz, frost_fix, nameG, consG, nilG, tupG, unlG, tyD, le_size, lt_size, gEq_eq, gNe_eq, deq_int, deq_ints, deq_three, shp_int, shp_ints, shp_three, shp_non, shp_bl, Env.wipe, Env.back, coldL_ints, hotL_ints, frzL_ints, coldL_strs, hotL_strs, frzL_strs, hL, hks, hk, hkl, hfl, hfd, hc, hm, h1, h2, h3, h4, nums, rD]
    · simp only [Bool.not_eq_true] at h2
      rw [h2] at hfd
      simp [-List.map_map, seqS, ifS, skipS, exprS, asgS, setS, retS, unpS, boolT, testT, notT, andT, orT, ifT, yesT, op2E, op1E, ixE, varE, constE, callE, fnE, consA, nilA, lateA, lstE, tupE, ifE, andE, orE, notE, chainE, methE, sliceE, partO, noO, takeL, take1, taken, srcSlots, Env.get, Env.putAt, Env.cools_nil, D.put, D.imm, immL, D.cold, coldL, D.hot, hotL, Z.cold, Z.hot, Src.fresh, gAdd_int, gSub_int, gMul_int, gFdiv_int, gMod_int, gNeg_int, gLt_int, gLe_int, gGt_int, gGe_int, gIsN_eq, gNotN_eq, isNon, gInt_int, gLen_lst, gLen_tup, gTru_bl, argsD, lentOf, iosOk, putOuts, allHot, outsOf, D.frz, frzL, frost_own, frost_frz, frost_fix, nameG, consG, nilG, tupG, unlG, tyD, le_size, lt_size, gEq_eq, gNe_eq, deq_int, deq_ints, deq_three, shp_int, shp_ints, shp_three, shp_non, shp_bl, Env.wipe, Env.back, coldL_ints, hotL_ints, frzL_ints, coldL_strs, hotL_strs, frzL_strs, hL, hks, hk, hkl, hfl, hfd, h1, h2, nums, rD]
  · have hu : ¬ ((l.length : Int) = 120) := by omega
    simp [-List.map_map, seqS, ifS, skipS, exprS, asgS, setS, retS, unpS, boolT, testT, notT, andT, orT, ifT, yesT, op2E, op1E, ixE, varE, constE, callE, fnE, consA, nilA, lateA, lstE, tupE, ifE, andE, orE, notE, chainE, methE, sliceE, partO, noO, takeL, take1, taken, srcSlots, Env.get, Env.putAt, Env.cools_nil, D.put, D.imm, immL, D.cold, coldL, D.hot, hotL, Z.cold, Z.hot, Src.fresh, gAdd_int, gSub_int, gMul_int, gFdiv_int, gMod_int, gNeg_int, gLt_int, gLe_int, gGt_int, gGe_int, gIsN_eq, gNotN_eq, isNon, gInt_int, gLen_lst, gLen_tup, gTru_bl, argsD, lentOf, iosOk, putOuts, allHot, outsOf, D.frz, frzL, frost_own, frost_frz, frost_fix, nameG, consG, nilG, tupG, unlG, tyD, le_size, lt_size, gEq_eq, gNe_eq, deq_int, deq_ints, deq_three, shp_int, shp_ints, shp_three, shp_non, shp_bl, Env.wipe, Env.back, coldL_ints, hotL_ints, frzL_ints, coldL_strs, hotL_strs, frzL_strs, hL, hks, hk, hkl, h1, hu, nums, rD]
theorem signs_in_ok (l : List Nat) (hl : l.length ≤ 1000) (n : Int) : f_signs_in [.str (S l), .int n] = some (rD (((nums l).bind prR).bind fun r => if 97 * r.getD 0 0 + r.getD 1 0 = n then some ((r.drop 2).take 55) else none), []) := by
  have e1 := numbers_in_ok l hl
  have q1 : small64 97 = true := small64_of (by omega)
  unfold f_signs_in runF m_signs_in
  cases h1 : nums l with
  | none =>
    rw [h1] at e1
    simp [-List.map_map, seqS, ifS, skipS, exprS, asgS, setS, retS, unpS, boolT, testT, notT, andT, orT, ifT, yesT, op2E, op1E, ixE, varE, constE, callE, fnE, consA, nilA, lateA, lstE, tupE, ifE, andE, orE, notE, chainE, methE, sliceE, partO, noO, takeL, take1, taken, srcSlots, Env.get, Env.putAt, Env.cools_nil, D.put, D.imm, immL, D.cold, coldL, D.hot, hotL, Z.cold, Z.hot, Src.fresh, gAdd_int, gSub_int, gMul_int, gFdiv_int, gMod_int, gNeg_int, gLt_int, gLe_int, gGt_int, gGe_int, gIsN_eq, gNotN_eq, isNon, gInt_int, gLen_lst, gLen_tup, gTru_bl, argsD, lentOf, iosOk, putOuts, allHot, outsOf, D.frz, frzL, frost_own, frost_frz, frost_fix, nameG, consG, nilG, tupG, unlG, tyD, le_size, lt_size, gEq_eq, gNe_eq, deq_int, deq_ints, deq_three, shp_int, shp_ints, shp_three, shp_non, shp_bl, Env.wipe, Env.back, coldL_ints, hotL_ints, frzL_ints, coldL_strs, hotL_strs, frzL_strs, e1, rD]
  | some v =>
    rw [h1] at e1
    have hv : v.length = 60 := by
      unfold nums at h1
      split at h1
      · cases h1; exact vals_len l
      · cases h1
    have e2 := righted_ok .frz v hv
    cases h2 : prR v with
    | none =>
      rw [h2] at e2
      simp [-List.map_map, seqS, ifS, skipS, exprS, asgS, setS, retS, unpS, boolT, testT, notT, andT, orT, ifT, yesT, op2E, op1E, ixE, varE, constE, callE, fnE, consA, nilA, lateA, lstE, tupE, ifE, andE, orE, notE, chainE, methE, sliceE, partO, noO, takeL, take1, taken, srcSlots, Env.get, Env.putAt, Env.cools_nil, D.put, D.imm, immL, D.cold, coldL, D.hot, hotL, Z.cold, Z.hot, Src.fresh, gAdd_int, gSub_int, gMul_int, gFdiv_int, gMod_int, gNeg_int, gLt_int, gLe_int, gGt_int, gGe_int, gIsN_eq, gNotN_eq, isNon, gInt_int, gLen_lst, gLen_tup, gTru_bl, argsD, lentOf, iosOk, putOuts, allHot, outsOf, D.frz, frzL, frost_own, frost_frz, frost_fix, nameG, consG, nilG, tupG, unlG, tyD, le_size, lt_size, gEq_eq, gNe_eq, deq_int, deq_ints, deq_three, shp_int, shp_ints, shp_three, shp_non, shp_bl, Env.wipe, Env.back, coldL_ints, hotL_ints, frzL_ints, coldL_strs, hotL_strs, frzL_strs, e1, e2, h2, rD]
    | some r =>
      rw [h2] at e2
      have hr : r.length = 60 := by
        unfold prR at h2
        split at h2
        · cases h2; exact hv
        · split at h2
          · cases h2
          · split at h2
            · cases h2; unfold fixAt; rw [List.length_set]; exact hv
            · cases h2
      obtain ⟨a, b, c, hh⟩ : ∃ a b c, r = a :: b :: c := by
        match r, hr with
        | a :: b :: c, _ => exact ⟨a, b, c, rfl⟩
      have i0 : L2.ixN 60 0 = some 0 := rfl
      have i1 : L2.ixN 60 1 = some 1 := rfl
      have e3 := sl_mid (z := .own) (xs := r) (i := 2) (k := 57) (by omega)
      rw [show ((2 : Int)).toNat = 2 from rfl, show ((57 : Int) - 2).toNat = 55 from rfl] at e3
      have g0 : r[0]? = some a := by rw [hh]; rfl
      have g1 : r[1]? = some b := by rw [hh]; rfl
      have g0' : ∀ h : 0 < r.length, r[0]'h = a := fun h => by
        have := List.getElem?_eq_getElem h
        rw [g0] at this
        exact (Option.some.inj this).symm
      have g1' : ∀ h : 1 < r.length, r[1]'h = b := fun h => by
        have := List.getElem?_eq_getElem h
        rw [g1] at this
        exact (Option.some.inj this).symm
      have d0 : r.getD 0 0 = a := by rw [hh]; rfl
      have d1 : r.getD 1 0 = b := by rw [hh]; rfl
      simp only [h2, Option.bind_some, d0, d1]
      by_cases h3 : 97 * a + b = n
      · simp [-List.map_map, seqS, ifS, skipS, exprS, asgS, setS, retS, unpS, boolT, testT, notT, andT, orT, ifT, yesT, op2E, op1E, ixE, varE, constE, callE, fnE, consA, nilA, lateA, lstE, tupE, ifE, andE, orE, notE, chainE, methE, sliceE, partO, noO, takeL, take1, taken, srcSlots, Env.get, Env.putAt, Env.cools_nil, D.put, D.imm, immL, D.cold, coldL, D.hot, hotL, Z.cold, Z.hot, Src.fresh, gAdd_int, gSub_int, gMul_int, gFdiv_int, gMod_int, gNeg_int, gLt_int, gLe_int, gGt_int, gGe_int, gIsN_eq, gNotN_eq, isNon, gInt_int, gLen_lst, gLen_tup, gTru_bl, argsD, lentOf, iosOk, putOuts, allHot, outsOf, D.frz, frzL, frost_own, frost_frz, frost_fix, nameG, consG, nilG, tupG, unlG, tyD, le_size, lt_size, gEq_eq, gNe_eq, deq_int, deq_ints, deq_three, shp_int, shp_ints, shp_three, shp_non, shp_bl, Env.wipe, Env.back, coldL_ints, hotL_ints, frzL_ints, coldL_strs, hotL_strs, frzL_strs, e1, e2, e3, h2, rD, hr, i0, i1, g0', g1', h3, q1]
      · simp [-List.map_map, seqS, ifS, skipS, exprS, asgS, setS, retS, unpS, boolT, testT, notT, andT, orT, ifT, yesT, op2E, op1E, ixE, varE, constE, callE, fnE, consA, nilA, lateA, lstE, tupE, ifE, andE, orE, notE, chainE, methE, sliceE, partO, noO, takeL, take1, taken, srcSlots, Env.get, Env.putAt, Env.cools_nil, D.put, D.imm, immL, D.cold, coldL, D.hot, hotL, Z.cold, Z.hot, Src.fresh, gAdd_int, gSub_int, gMul_int, gFdiv_int, gMod_int, gNeg_int, gLt_int, gLe_int, gGt_int, gGe_int, gIsN_eq, gNotN_eq, isNon, gInt_int, gLen_lst, gLen_tup, gTru_bl, argsD, lentOf, iosOk, putOuts, allHot, outsOf, D.frz, frzL, frost_own, frost_frz, frost_fix, nameG, consG, nilG, tupG, unlG, tyD, le_size, lt_size, gEq_eq, gNe_eq, deq_int, deq_ints, deq_three, shp_int, shp_ints, shp_three, shp_non, shp_bl, Env.wipe, Env.back, coldL_ints, hotL_ints, frzL_ints, coldL_strs, hotL_strs, frzL_strs, e1, e2, e3, h2, rD, hr, i0, i1, g0', g1', h3, q1]
end KL

set_option Elab.async false
set_option linter.all false
set_option maxRecDepth 100000
set_option maxHeartbeats 4000000
namespace KL
open PySem VC KN
/-! ### texts told -/
theorem sl_from' {z : Z} {xs : List Int} {k : Int} (h : 0 ≤ k) : gSl (.lst z (dI xs)) (some k) none = some (.lst .own (dI (xs.drop k.toNat))) := by
  rw [gSl_lst _ _ _ _ (coldL_ints xs), cutD_ints]
  obtain ⟨n, rfl⟩ := Int.eq_ofNat_of_zero_le h
  simp only [HT.sIx_nat, HT.sIx_none, Int.toNat_natCast]
  by_cases h1 : n ≤ xs.length
  · rw [Nat.min_eq_left h1, List.take_of_length_le (by simp)]
  · rw [Nat.min_eq_right (by omega), List.drop_eq_nil_of_le (Nat.le_refl _), List.drop_eq_nil_of_le (by omega)]; simp
def sg : List Nat := [48, 49, 50, 51, 52, 53, 54, 55, 56, 57, 97, 98, 99, 100, 101, 102, 103, 104, 105, 106, 107, 108, 109, 110, 111, 112, 113, 114, 115, 116, 117, 118, 119, 120, 121, 122, 65, 66, 67, 68, 69, 70, 71, 72, 73, 74, 75, 76, 77, 78, 79, 80, 81, 82, 83, 84, 85, 86, 87, 88, 89, 90, 45, 34, 40, 41, 44, 46, 32, 47, 58, 43, 10]
theorem sg_len : sg.length = 73 := by decide
theorem signs_eq : k_SIGNS = S sg := by decide
theorem law_signs_ok : f_law_signs [] = some (.str (S sg), []) := by
  unfold f_law_signs runF m_law_signs
  rw [show (Str.ofString "0123456789abcdefghijklmnopqrstuvwxyzABCDEFGHIJKLMNOPQRSTUVWXYZ-\"(),. /:+\n") = S sg from signs_eq]
  simp [-List.map_map, seqS, ifS, skipS, exprS, asgS, setS, retS, unpS, boolT, testT, notT, andT, orT, ifT, yesT, op2E, op1E, ixE, varE, constE, callE, fnE, consA, nilA, lateA, lstE, tupE, ifE, andE, orE, notE, chainE, methE, sliceE, partO, noO, takeL, take1, taken, srcSlots, Env.get, Env.putAt, Env.cools_nil, D.put, D.imm, immL, D.cold, coldL, D.hot, hotL, Z.cold, Z.hot, Src.fresh, gAdd_int, gSub_int, gMul_int, gFdiv_int, gMod_int, gNeg_int, gLt_int, gLe_int, gGt_int, gGe_int, gIsN_eq, gNotN_eq, isNon, gInt_int, gLen_lst, gLen_tup, gTru_bl, argsD, lentOf, iosOk, putOuts, allHot, outsOf, D.frz, frzL, frost_own, frost_frz, frost_fix, nameG, consG, nilG, tupG, unlG, tyD, le_size, lt_size, gEq_eq, gNe_eq, deq_int, deq_ints, deq_three, shp_int, shp_ints, shp_three, shp_non, shp_bl, Env.wipe, Env.back, coldL_ints, hotL_ints, frzL_ints, coldL_strs, hotL_strs, frzL_strs]
def sgn (n : Int) : Nat := sg.getD (n - 1).toNat 0
def tw (xs : List Int) : List Int := xs.takeWhile fun x => !decide (x = 74)
def okT (xs : List Int) : Bool := (tw xs).all (fun x => decide (0 < x) && decide (x ≤ 73)) && (xs.drop ((tw xs).length + 1)).all (fun x => decide (x = 0))
theorem flat_ints (xs : List Int) : (dI xs).all flatD = true := by
  rw [List.all_eq_true]
  intro d hd
  obtain ⟨x, _, rfl⟩ := List.mem_map.mp hd; rfl
theorem eqV_int (a b : Int) : L2.eqV (toV (.int a)) (toV (.int b)) = decide (a = b) := by
  by_cases h : a = b
  · rw [decide_eq_true h, h]
    simp [toV, L2.eqV]
  · rw [decide_eq_false h]
    simp [toV, L2.eqV, h]
theorem in_ints (a : Int) (xs : List Int) : inD (.int a) (dI xs) = decide (a ∈ xs) := by
  unfold inD
  induction xs with
  | nil => simp
  | cons x xs ih =>
    rw [show dI (x :: xs) = .int x :: dI xs from rfl, List.map_cons, List.any_cons, ih, eqV_int]
    by_cases h1 : x = a
    · simp [h1]
    · by_cases h2 : a ∈ xs <;> simp [h1, Ne.symm h1, h2]
theorem gIn_ints (z : Z) (a : Int) (xs : List Int) : gIn (.int a) (.lst z (dI xs)) = some (.bl (decide (a ∈ xs))) := by
  unfold gIn
  simp only [flat_ints, in_ints]
  rfl
theorem gNotIn_ints (z : Z) (a : Int) (xs : List Int) : gNotIn (.int a) (.lst z (dI xs)) = some (.bl (!decide (a ∈ xs))) := by
  unfold gNotIn
  simp only [flat_ints, in_ints]
  rfl
theorem first_ints : ∀ (xs : List Int), 74 ∈ xs → firstAt (.int 74) (dI xs) = some (tw xs).length
  | [], h => by simp at h
  | x :: xs, h => by
    rw [show dI (x :: xs) = .int x :: dI xs from rfl]
    unfold firstAt
    rw [eqV_int]
    by_cases hx : x = 74
    · rw [decide_eq_true hx, if_pos rfl]; simp [tw, hx]
    · rw [decide_eq_false hx, if_neg (by simp), first_ints xs (by
        rcases List.mem_cons.mp h with h | h
        · exact absurd h.symm hx
        · exact h)]
      simp [tw, hx]
theorem gLIndex_ints (z : Z) (xs : List Int) (h : 74 ∈ xs) : gLIndex (.lst z (dI xs)) [.int 74] = some (.int ((tw xs).length : Nat)) := by
  unfold gLIndex
  simp only [flat_ints, first_ints xs h]
  rfl
theorem tw_take : ∀ xs : List Int, xs.take (tw xs).length = tw xs
  | [] => rfl
  | x :: xs => by
    by_cases hx : x = 74
    · simp [tw, hx]
    · have := tw_take xs
      simp only [tw] at this
      simp [tw, hx, this]
theorem tw_all : ∀ xs : List Int, 74 ∉ xs → tw xs = xs
  | [], _ => rfl
  | x :: xs, h => by
    rw [List.mem_cons, not_or] at h
    have := tw_all xs h.2
    simp only [tw] at this
    simp [tw, this, Ne.symm h.1]
theorem tw_le (xs : List Int) : (tw xs).length ≤ xs.length := by
  have := congrArg List.length (tw_take xs)
  rw [List.length_take] at this
  omega
theorem anyI_ints : ∀ xs : List Int, anyI (dI xs) = some (!(xs.all fun x => decide (x = 0)))
  | [] => rfl
  | x :: xs => by
    have := anyI_ints xs
    simp only [List.map_cons, anyI, truI, this, Option.bind_some, Option.map_some, List.all_cons]
    by_cases hx : x = 0 <;> simp [hx]
theorem gAny_ints (z : Z) (xs : List Int) : gAny [.lst z (dI xs)] = some (.bl (!(xs.all fun x => decide (x = 0)))) := by
  show (anyI _).map _ = _
  rw [anyI_ints]; rfl
def gOk : D → D
  | .int x => .bl (decide (0 < x) && decide (x ≤ 73))
  | d => d
theorem sgLen : gLen [.str k_SIGNS] = some (.int 73) := by
  rw [signs_eq, gLen_str _ (by rw [SX.S_len]; exact le_sz (by decide)), SX.S_len, sg_len]; rfl
theorem are_of_text_ok (z : Z) (xs : List Int) (hl : xs.length ≤ 1000) : f_are_of_text [.lst z (dI xs)] = some (.bl (okT xs), []) := by
  have hle := tw_le xs
  have e1 := gIn_ints z.frost 74 xs
  have e1' := gIn_ints z 74 xs
  have e2 := sl_to (z := z) (xs := xs) (k := ((tw xs).length : Int)) (by omega)
  rw [Int.toNat_natCast, tw_take] at e2
  have e3 := sl_from' (z := z) (xs := xs) (k := ((tw xs).length : Int) + 1) (by omega)
  rw [show (((tw xs).length : Int) + 1).toNat = (tw xs).length + 1 by omega] at e3
  have e4 := gAny_ints .own (xs.drop ((tw xs).length + 1))
  have hk : compL [2] [] (nameG 2 []) yesT ce_are_of_text_1 (dI (tw xs)) [some (.lst z (dI xs)), some (.int ((tw xs).length : Nat)), none] = some (((tw xs).map fun x => decide (0 < x) && decide (x ≤ 73)).map D.bl, [some (.lst z (dI xs)), some (.int ((tw xs).length : Nat)), none]) := by
    rw [compL_map gOk]
    · refine congrArg (fun x => some (x, _)) ?_
      simp only [List.map_map]
      rfl
    · intro d hd
      obtain ⟨x, hx, rfl⟩ := List.mem_map.mp hd
      refine ⟨[some (.lst z (dI xs)), some (.int ((tw xs).length : Nat)), some (.int x)], by simp [-List.map_map, seqS, ifS, skipS, exprS, asgS, setS, retS, unpS, boolT, testT, notT, andT, orT, ifT, yesT, op2E, op1E, ixE, varE, constE, callE, fnE, consA, nilA, lateA, lstE, tupE, ifE, andE, orE, notE, chainE, methE, sliceE, partO, noO, takeL, take1, taken, srcSlots, Env.get, Env.putAt, Env.cools_nil, D.put, D.imm, immL, D.cold, coldL, D.hot, hotL, Z.cold, Z.hot, Src.fresh, gAdd_int, gSub_int, gMul_int, gFdiv_int, gMod_int, gNeg_int, gLt_int, gLe_int, gGt_int, gGe_int, gIsN_eq, gNotN_eq, isNon, gInt_int, gLen_lst, gLen_tup, gTru_bl, argsD, lentOf, iosOk, putOuts, allHot, outsOf, D.frz, frzL, frost_own, frost_frz, frost_fix, nameG, consG, nilG, tupG, unlG, tyD, le_size, lt_size, gEq_eq, gNe_eq, deq_int, deq_ints, deq_three, shp_int, shp_ints, shp_three, shp_non, shp_bl, Env.wipe, Env.back, coldL_ints, hotL_ints, frzL_ints, coldL_strs, hotL_strs, frzL_strs], ?_, by simp [Env.wipe]⟩
      unfold ce_are_of_text_1
      by_cases h0 : 0 < x
      · simp [-List.map_map, seqS, ifS, skipS, exprS, asgS, setS, retS, unpS, boolT, testT, notT, andT, orT, ifT, yesT, op2E, op1E, ixE, varE, constE, callE, fnE, consA, nilA, lateA, lstE, tupE, ifE, andE, orE, notE, chainE, methE, sliceE, partO, noO, takeL, take1, taken, srcSlots, Env.get, Env.putAt, Env.cools_nil, D.put, D.imm, immL, D.cold, coldL, D.hot, hotL, Z.cold, Z.hot, Src.fresh, gAdd_int, gSub_int, gMul_int, gFdiv_int, gMod_int, gNeg_int, gLt_int, gLe_int, gGt_int, gGe_int, gIsN_eq, gNotN_eq, isNon, gInt_int, gLen_lst, gLen_tup, gTru_bl, argsD, lentOf, iosOk, putOuts, allHot, outsOf, D.frz, frzL, frost_own, frost_frz, frost_fix, nameG, consG, nilG, tupG, unlG, tyD, le_size, lt_size, gEq_eq, gNe_eq, deq_int, deq_ints, deq_three, shp_int, shp_ints, shp_three, shp_non, shp_bl, Env.wipe, Env.back, coldL_ints, hotL_ints, frzL_ints, coldL_strs, hotL_strs, frzL_strs, sgLen, gOk, h0]
      · simp [-List.map_map, seqS, ifS, skipS, exprS, asgS, setS, retS, unpS, boolT, testT, notT, andT, orT, ifT, yesT, op2E, op1E, ixE, varE, constE, callE, fnE, consA, nilA, lateA, lstE, tupE, ifE, andE, orE, notE, chainE, methE, sliceE, partO, noO, takeL, take1, taken, srcSlots, Env.get, Env.putAt, Env.cools_nil, D.put, D.imm, immL, D.cold, coldL, D.hot, hotL, Z.cold, Z.hot, Src.fresh, gAdd_int, gSub_int, gMul_int, gFdiv_int, gMod_int, gNeg_int, gLt_int, gLe_int, gGt_int, gGe_int, gIsN_eq, gNotN_eq, isNon, gInt_int, gLen_lst, gLen_tup, gTru_bl, argsD, lentOf, iosOk, putOuts, allHot, outsOf, D.frz, frzL, frost_own, frost_frz, frost_fix, nameG, consG, nilG, tupG, unlG, tyD, le_size, lt_size, gEq_eq, gNe_eq, deq_int, deq_ints, deq_three, shp_int, shp_ints, shp_three, shp_non, shp_bl, Env.wipe, Env.back, coldL_ints, hotL_ints, frzL_ints, coldL_strs, hotL_strs, frzL_strs, sgLen, gOk, h0]
  have hb := gAll_bools .own ((tw xs).map fun x => decide (0 < x) && decide (x ≤ 73))
  have hba : ((tw xs).map fun x => decide (0 < x) && decide (x ≤ 73)).all id = (tw xs).all fun x => decide (0 < x) && decide (x ≤ 73) := by
    rw [List.all_map]; rfl
  rw [hba] at hb
  have hok : okT xs = ((tw xs).all (fun x => decide (0 < x) && decide (x ≤ 73)) && (xs.drop ((tw xs).length + 1)).all (fun x => decide (x = 0))) := rfl
  have hend : (if (74 : Int) ∈ xs then ((tw xs).length : Int) else (xs.length : Int)) = ((tw xs).length : Int) := by
    by_cases h : (74 : Int) ∈ xs
    · rw [if_pos h]
    · rw [if_neg h, tw_all xs h]
  have hlt : ((tw xs).length < sizeLine) = True := lt_size (by omega)
  generalize hA : (tw xs).all (fun x => decide (0 < x) && decide (x ≤ 73)) = A at *
  generalize hB : (xs.drop ((tw xs).length + 1)).all (fun x => decide (x = 0)) = B at *
  generalize hC : ((tw xs).map fun x => decide (0 < x) && decide (x ≤ 73)).map D.bl = C at *
  generalize hE : xs.drop ((tw xs).length + 1) = E at *
  unfold f_are_of_text runF m_are_of_text c_are_of_text_1 compE seqI
  by_cases h : (74 : Int) ∈ xs
  · have e5 := gLIndex_ints z xs h
    cases A
    · simp [-List.map_map, seqS, ifS, skipS, exprS, asgS, setS, retS, unpS, boolT, testT, notT, andT, orT, ifT, yesT, op2E, op1E, ixE, varE, constE, callE, fnE, consA, nilA, lateA, lstE, tupE, ifE, andE, orE, notE, chainE, methE, sliceE, partO, noO, takeL, take1, taken, srcSlots, Env.get, Env.putAt, Env.cools_nil, D.put, D.imm, immL, D.cold, coldL, D.hot, hotL, Z.cold, Z.hot, Src.fresh, gAdd_int, gSub_int, gMul_int, gFdiv_int, gMod_int, gNeg_int, gLt_int, gLe_int, gGt_int, gGe_int, gIsN_eq, gNotN_eq, isNon, gInt_int, gLen_lst, gLen_tup, gTru_bl, argsD, lentOf, iosOk, putOuts, allHot, outsOf, D.frz, frzL, frost_own, frost_frz, frost_fix, nameG, consG, nilG, tupG, unlG, tyD, le_size, lt_size, gEq_eq, gNe_eq, deq_int, deq_ints, deq_three, shp_int, shp_ints, shp_three, shp_non, shp_bl, Env.wipe, Env.back, coldL_ints, hotL_ints, frzL_ints, coldL_strs, hotL_strs, frzL_strs, e1', e2, e3, e4, e5, hk, hb, hok, h, hlt]
    · simp [-List.map_map, seqS, ifS, skipS, exprS, asgS, setS, retS, unpS, boolT, testT, notT, andT, orT, ifT, yesT, op2E, op1E, ixE, varE, constE, callE, fnE, consA, nilA, lateA, lstE, tupE, ifE, andE, orE, notE, chainE, methE, sliceE, partO, noO, takeL, take1, taken, srcSlots, Env.get, Env.putAt, Env.cools_nil, D.put, D.imm, immL, D.cold, coldL, D.hot, hotL, Z.cold, Z.hot, Src.fresh, gAdd_int, gSub_int, gMul_int, gFdiv_int, gMod_int, gNeg_int, gLt_int, gLe_int, gGt_int, gGe_int, gIsN_eq, gNotN_eq, isNon, gInt_int, gLen_lst, gLen_tup, gTru_bl, argsD, lentOf, iosOk, putOuts, allHot, outsOf, D.frz, frzL, frost_own, frost_frz, frost_fix, nameG, consG, nilG, tupG, unlG, tyD, le_size, lt_size, gEq_eq, gNe_eq, deq_int, deq_ints, deq_three, shp_int, shp_ints, shp_three, shp_non, shp_bl, Env.wipe, Env.back, coldL_ints, hotL_ints, frzL_ints, coldL_strs, hotL_strs, frzL_strs, e1', e2, e3, e4, e5, hk, hb, hok, h, hlt]
  · rw [if_neg h] at hend
    cases A
    · simp [-List.map_map, seqS, ifS, skipS, exprS, asgS, setS, retS, unpS, boolT, testT, notT, andT, orT, ifT, yesT, op2E, op1E, ixE, varE, constE, callE, fnE, consA, nilA, lateA, lstE, tupE, ifE, andE, orE, notE, chainE, methE, sliceE, partO, noO, takeL, take1, taken, srcSlots, Env.get, Env.putAt, Env.cools_nil, D.put, D.imm, immL, D.cold, coldL, D.hot, hotL, Z.cold, Z.hot, Src.fresh, gAdd_int, gSub_int, gMul_int, gFdiv_int, gMod_int, gNeg_int, gLt_int, gLe_int, gGt_int, gGe_int, gIsN_eq, gNotN_eq, isNon, gInt_int, gLen_lst, gLen_tup, gTru_bl, argsD, lentOf, iosOk, putOuts, allHot, outsOf, D.frz, frzL, frost_own, frost_frz, frost_fix, nameG, consG, nilG, tupG, unlG, tyD, le_size, lt_size, gEq_eq, gNe_eq, deq_int, deq_ints, deq_three, shp_int, shp_ints, shp_three, shp_non, shp_bl, Env.wipe, Env.back, coldL_ints, hotL_ints, frzL_ints, coldL_strs, hotL_strs, frzL_strs, e1', e2, e3, e4, hend, hk, hb, hok, h, hlt]
    · simp [-List.map_map, seqS, ifS, skipS, exprS, asgS, setS, retS, unpS, boolT, testT, notT, andT, orT, ifT, yesT, op2E, op1E, ixE, varE, constE, callE, fnE, consA, nilA, lateA, lstE, tupE, ifE, andE, orE, notE, chainE, methE, sliceE, partO, noO, takeL, take1, taken, srcSlots, Env.get, Env.putAt, Env.cools_nil, D.put, D.imm, immL, D.cold, coldL, D.hot, hotL, Z.cold, Z.hot, Src.fresh, gAdd_int, gSub_int, gMul_int, gFdiv_int, gMod_int, gNeg_int, gLt_int, gLe_int, gGt_int, gGe_int, gIsN_eq, gNotN_eq, isNon, gInt_int, gLen_lst, gLen_tup, gTru_bl, argsD, lentOf, iosOk, putOuts, allHot, outsOf, D.frz, frzL, frost_own, frost_frz, frost_fix, nameG, consG, nilG, tupG, unlG, tyD, le_size, lt_size, gEq_eq, gNe_eq, deq_int, deq_ints, deq_three, shp_int, shp_ints, shp_three, shp_non, shp_bl, Env.wipe, Env.back, coldL_ints, hotL_ints, frzL_ints, coldL_strs, hotL_strs, frzL_strs, e1', e2, e3, e4, hend, hk, hb, hok, h, hlt]
end KL

set_option Elab.async false
set_option linter.all false
set_option maxRecDepth 100000
set_option maxHeartbeats 4000000
namespace KL
open PySem VC KN
def lineT (l : List Nat) (n : Int) : Option (List Int) := ((nums l).bind prR).bind fun r => if 97 * r.getD 0 0 + r.getD 1 0 = n then some ((r.drop 2).take 55) else none
def lineD (k : Nat) : D := .tup [.str (Str.ofString "line"), .int ((k : Int) + 1)]
def textD (F : List Int) : D := .tup [.str (Str.ofString "text"), .str (S ((tw F).map sgn))]
def tell : List (List Nat) → Nat → List Int → D
  | [], k, F => if (74 : Int) ∈ F then textD F else lineD k
  | l :: ls, k, F => match lineT l ((k : Int) + 1) with
    | none => lineD k
    | some t => if (74 : Int) ∈ F ∨ okT t = false then lineD k else tell ls (k + 1) (F ++ t)
abbrev dL (rows : List (List Nat)) : List D := rows.map fun l => .str (S l)
theorem coldL_rows (rows : List (List Nat)) : coldL (dL rows) = true := coldL_of fun d hd => by
  obtain ⟨i, _, rfl⟩ := List.mem_map.mp hd; rfl
theorem hotL_rows (rows : List (List Nat)) : hotL (dL rows) = true := by
  induction rows with
  | nil => rfl
  | cons x xs ih => simp only [List.map_cons, hotL, D.hot, ih, Bool.and_self]
theorem frzL_rows (rows : List (List Nat)) : frzL (dL rows) = dL rows := frzL_cold (coldL_rows rows)
theorem lineT_len {l : List Nat} {n : Int} {t : List Int} (h : lineT l n = some t) : t.length ≤ 55 := by
  unfold lineT at h
  obtain ⟨r, _, h⟩ := Option.bind_eq_some_iff.mp h
  split at h
  · cases h
    rw [List.length_take]; omega
  · cases h
theorem text_body_none (z : Z) (rows : List (List Nat)) (F : List Int) (k : Nat) (l : List Nat) (hl : l.length ≤ 1000) (hF : F.length ≤ 10000) (o4 o5 o6 : Option D) (h : lineT l ((k : Int) + 1) = none) :
    ∃ e, b_text_of_1 [some (.lst z (dL rows)), some (.lst .own (dI F)), some (.int (k : Nat)), some (.str (S l)), o4, o5, o6] = some (.rt (lineD k) e) := by
  have e1 := signs_in_ok l hl ((k : Int) + 1)
  unfold lineT at h
  rw [h] at e1
  unfold b_text_of_1
  simp [-List.map_map, seqS, ifS, skipS, exprS, asgS, setS, retS, unpS, boolT, testT, notT, andT, orT, ifT, yesT, op2E, op1E, ixE, varE, constE, callE, fnE, consA, nilA, lateA, lstE, tupE, ifE, andE, orE, notE, chainE, methE, sliceE, partO, noO, takeL, take1, taken, srcSlots, Env.get, Env.putAt, Env.cools_nil, D.put, D.imm, immL, D.cold, coldL, D.hot, hotL, Z.cold, Z.hot, Src.fresh, gAdd_int, gSub_int, gMul_int, gFdiv_int, gMod_int, gNeg_int, gLt_int, gLe_int, gGt_int, gGe_int, gIsN_eq, gNotN_eq, isNon, gInt_int, gLen_lst, gLen_tup, gTru_bl, argsD, lentOf, iosOk, putOuts, allHot, outsOf, D.frz, frzL, frost_own, frost_frz, frost_fix, nameG, consG, nilG, tupG, unlG, tyD, le_size, lt_size, gEq_eq, gNe_eq, deq_int, deq_ints, deq_three, shp_int, shp_ints, shp_three, shp_non, shp_bl, Env.wipe, Env.back, coldL_ints, hotL_ints, frzL_ints, coldL_strs, hotL_strs, frzL_strs, e1, rD, lineD]
theorem text_body_bad (z : Z) (rows : List (List Nat)) (F : List Int) (k : Nat) (l : List Nat) (hl : l.length ≤ 1000) (hF : F.length ≤ 10000) (o4 o5 o6 : Option D) (t : List Int) (h : lineT l ((k : Int) + 1) = some t) (hb : (74 : Int) ∈ F ∨ okT t = false) :
    ∃ e, b_text_of_1 [some (.lst z (dL rows)), some (.lst .own (dI F)), some (.int (k : Nat)), some (.str (S l)), o4, o5, o6] = some (.rt (lineD k) e) := by
  have e1 := signs_in_ok l hl ((k : Int) + 1)
  have ht := lineT_len h
  unfold lineT at h
  rw [h] at e1
  have e2 := gIn_ints .own 74 F
  have e3 := are_of_text_ok .frz t (by omega)
  unfold b_text_of_1
  by_cases hF : (74 : Int) ∈ F
  · simp [-List.map_map, seqS, ifS, skipS, exprS, asgS, setS, retS, unpS, boolT, testT, notT, andT, orT, ifT, yesT, op2E, op1E, ixE, varE, constE, callE, fnE, consA, nilA, lateA, lstE, tupE, ifE, andE, orE, notE, chainE, methE, sliceE, partO, noO, takeL, take1, taken, srcSlots, Env.get, Env.putAt, Env.cools_nil, D.put, D.imm, immL, D.cold, coldL, D.hot, hotL, Z.cold, Z.hot, Src.fresh, gAdd_int, gSub_int, gMul_int, gFdiv_int, gMod_int, gNeg_int, gLt_int, gLe_int, gGt_int, gGe_int, gIsN_eq, gNotN_eq, isNon, gInt_int, gLen_lst, gLen_tup, gTru_bl, argsD, lentOf, iosOk, putOuts, allHot, outsOf, D.frz, frzL, frost_own, frost_frz, frost_fix, nameG, consG, nilG, tupG, unlG, tyD, le_size, lt_size, gEq_eq, gNe_eq, deq_int, deq_ints, deq_three, shp_int, shp_ints, shp_three, shp_non, shp_bl, Env.wipe, Env.back, coldL_ints, hotL_ints, frzL_ints, coldL_strs, hotL_strs, frzL_strs, e1, e2, hF, rD, lineD]
  · have hb := hb.resolve_left hF
    rw [hb] at e3
    simp [-List.map_map, seqS, ifS, skipS, exprS, asgS, setS, retS, unpS, boolT, testT, notT, andT, orT, ifT, yesT, op2E, op1E, ixE, varE, constE, callE, fnE, consA, nilA, lateA, lstE, tupE, ifE, andE, orE, notE, chainE, methE, sliceE, partO, noO, takeL, take1, taken, srcSlots, Env.get, Env.putAt, Env.cools_nil, D.put, D.imm, immL, D.cold, coldL, D.hot, hotL, Z.cold, Z.hot, Src.fresh, gAdd_int, gSub_int, gMul_int, gFdiv_int, gMod_int, gNeg_int, gLt_int, gLe_int, gGt_int, gGe_int, gIsN_eq, gNotN_eq, isNon, gInt_int, gLen_lst, gLen_tup, gTru_bl, argsD, lentOf, iosOk, putOuts, allHot, outsOf, D.frz, frzL, frost_own, frost_frz, frost_fix, nameG, consG, nilG, tupG, unlG, tyD, le_size, lt_size, gEq_eq, gNe_eq, deq_int, deq_ints, deq_three, shp_int, shp_ints, shp_three, shp_non, shp_bl, Env.wipe, Env.back, coldL_ints, hotL_ints, frzL_ints, coldL_strs, hotL_strs, frzL_strs, e1, e2, e3, hF, rD, lineD]
theorem text_body_go (z : Z) (rows : List (List Nat)) (F : List Int) (k : Nat) (l : List Nat) (hl : l.length ≤ 1000) (hF : F.length ≤ 10000) (o4 o5 o6 : Option D) (t : List Int) (h : lineT l ((k : Int) + 1) = some t) (h1 : ¬ (74 : Int) ∈ F) (h2 : okT t = true) :
    b_text_of_1 [some (.lst z (dL rows)), some (.lst .own (dI F)), some (.int (k : Nat)), some (.str (S l)), o4, o5, o6] = some (.nx [some (.lst z (dL rows)), some (.lst .own (dI (F ++ t))), some (.int (k : Nat)), some (.str (S l)), some (.lst .own (dI t)), o5, o6]) := by
  have e1 := signs_in_ok l hl ((k : Int) + 1)
  have ht := lineT_len h
  unfold lineT at h
  rw [h] at e1
  have e2 := gIn_ints .own 74 F
  have e3 := are_of_text_ok .frz t (by omega)
  have e4 := addL (z := .own) (y := .own) F t (by decide) (by decide) (by omega)
  rw [h2] at e3
  unfold b_text_of_1
  generalize hG : F ++ t = G at *
  simp [-List.map_map, seqS, ifS, skipS, exprS, asgS, setS, retS, unpS, boolT, testT, notT, andT, orT, ifT, yesT, op2E, op1E, ixE, varE, constE, callE, fnE, consA, nilA, lateA, lstE, tupE, ifE, andE, orE, notE, chainE, methE, sliceE, partO, noO, takeL, take1, taken, srcSlots, Env.get, Env.putAt, Env.cools_nil, D.put, D.imm, immL, D.cold, coldL, D.hot, hotL, Z.cold, Z.hot, Src.fresh, gAdd_int, gSub_int, gMul_int, gFdiv_int, gMod_int, gNeg_int, gLt_int, gLe_int, gGt_int, gGe_int, gIsN_eq, gNotN_eq, isNon, gInt_int, gLen_lst, gLen_tup, gTru_bl, argsD, lentOf, iosOk, putOuts, allHot, outsOf, D.frz, frzL, frost_own, frost_frz, frost_fix, nameG, consG, nilG, tupG, unlG, tyD, le_size, lt_size, gEq_eq, gNe_eq, deq_int, deq_ints, deq_three, shp_int, shp_ints, shp_three, shp_non, shp_bl, Env.wipe, Env.back, coldL_ints, hotL_ints, frzL_ints, coldL_strs, hotL_strs, frzL_strs, e1, e2, e3, e4, h1, rD]
def tellR : List (List Nat) → Nat → List Int → Option (List Int) × Nat
  | [], k, F => (some F, k)
  | l :: ls, k, F => match lineT l ((k : Int) + 1) with
    | none => (none, k)
    | some t => if (74 : Int) ∈ F ∨ okT t = false then (none, k) else tellR ls (k + 1) (F ++ t)
theorem tell_R : ∀ ls k F, tell ls k F = match tellR ls k F with
    | (some G, n) => if (74 : Int) ∈ G then textD G else lineD n
    | (none, n) => lineD n
  | [], k, F => rfl
  | l :: ls, k, F => by
    unfold tell tellR
    cases lineT l ((k : Int) + 1) with
    | none => rfl
    | some t =>
      by_cases h : (74 : Int) ∈ F ∨ okT t = false
      · simp only [if_pos h]
      · simp only [if_neg h, tell_R ls]
theorem tellR_n : ∀ ls k F G n, tellR ls k F = (some G, n) → n = k + ls.length
  | [], k, F, G, n, h => by cases h; rfl
  | l :: ls, k, F, G, n, h => by
    unfold tellR at h
    split at h
    · cases h
    · split at h
      · cases h
      · rw [tellR_n ls _ _ _ _ h, List.length_cons]; omega
theorem text_loop (z : Z) (rows : List (List Nat)) : ∀ (ls : List (List Nat)) (k : Nat) (F : List Int), (∀ l ∈ ls, l.length ≤ 1000) → F.length + 55 * ls.length ≤ 10000 → ∀ (o2 o3 o4 o5 o6 : Option D),
    ∃ e, forL (tupG 2 (consG (nameG 2 []) (consG (nameG 3 []) nilG))) b_text_of_1 (enumL k (dL ls)) [some (.lst z (dL rows)), some (.lst .own (dI F)), o2, o3, o4, o5, o6] = some (match tellR ls k F with
      | (some G, _) => .nx e
      | (none, n) => .rt (lineD n) e) ∧ ∀ G n, tellR ls k F = (some G, n) → G.length ≤ 10000 ∧ ∃ o2 o3 o4, e = [some (.lst z (dL rows)), some (.lst .own (dI G)), o2, o3, o4, o5, o6]
  | [], k, F, _, hF, o2, o3, o4, o5, o6 => ⟨_, rfl, fun G n h => by cases h; exact ⟨by omega, _, _, _, rfl⟩⟩
  | l :: ls, k, F, hl, hF, o2, o3, o4, o5, o6 => by
    rw [List.length_cons] at hF
    rw [show enumL k (dL (l :: ls)) = .tup [.int (k : Nat), .str (S l)] :: enumL (k + 1) (dL ls) from rfl]
    have hn : tupG 2 (consG (nameG 2 []) (consG (nameG 3 []) nilG)) (.tup [.int (k : Nat), .str (S l)]) [some (.lst z (dL rows)), some (.lst .own (dI F)), o2, o3, o4, o5, o6] = some [some (.lst z (dL rows)), some (.lst .own (dI F)), some (.int (k : Nat)), some (.str (S l)), o4, o5, o6] := by simp [-List.map_map, seqS, ifS, skipS, exprS, asgS, setS, retS, unpS, boolT, testT, notT, andT, orT, ifT, yesT, op2E, op1E, ixE, varE, constE, callE, fnE, consA, nilA, lateA, lstE, tupE, ifE, andE, orE, notE, chainE, methE, sliceE, partO, noO, takeL, take1, taken, srcSlots, Env.get, Env.putAt, Env.cools_nil, D.put, D.imm, immL, D.cold, coldL, D.hot, hotL, Z.cold, Z.hot, Src.fresh, gAdd_int, gSub_int, gMul_int, gFdiv_int, gMod_int, gNeg_int, gLt_int, gLe_int, gGt_int, gGe_int, gIsN_eq, gNotN_eq, isNon, gInt_int, gLen_lst, gLen_tup, gTru_bl, argsD, lentOf, iosOk, putOuts, allHot, outsOf, D.frz, frzL, frost_own, frost_frz, frost_fix, nameG, consG, nilG, tupG, unlG, tyD, le_size, lt_size, gEq_eq, gNe_eq, deq_int, deq_ints, deq_three, shp_int, shp_ints, shp_three, shp_non, shp_bl, Env.wipe, Env.back, coldL_ints, hotL_ints, frzL_ints, coldL_strs, hotL_strs, frzL_strs]
    have hl0 := hl l (by simp)
    unfold tellR
    cases h : lineT l ((k : Int) + 1) with
    | none =>
      obtain ⟨e, he⟩ := text_body_none z rows F k l hl0 (by omega) o4 o5 o6 h
      exact ⟨e, forL_ret hn he, fun G n h => by cases h⟩
    | some t =>
      by_cases hb : (74 : Int) ∈ F ∨ okT t = false
      · obtain ⟨e, he⟩ := text_body_bad z rows F k l hl0 (by omega) o4 o5 o6 t h hb
        simp only [if_pos hb]
        exact ⟨e, forL_ret hn he, fun G n h => by cases h⟩
      · simp only [if_neg hb]
        have he := text_body_go z rows F k l hl0 (by omega) o4 o5 o6 t h (fun h => hb (.inl h)) (by
          cases h' : okT t with
          | true => rfl
          | false => exact absurd (.inr h') hb)
        have ht := lineT_len h
        obtain ⟨e, h1, h2⟩ := text_loop z rows ls (k + 1) (F ++ t) (fun l hl' => hl l (by simp [hl'])) (by rw [List.length_append]; omega) (some (.int (k : Nat))) (some (.str (S l))) (some (.lst .own (dI t))) o5 o6
        refine ⟨e, ?_, h2⟩
        rw [forL_nx hn he, h1]
def gSg : D → D
  | .int x => .str (S [sgn x])
  | d => d
theorem okR : ∀ ls k F G n, tellR ls k F = (some G, n) → (∀ x ∈ tw F, 0 < x ∧ x ≤ 73) → ∀ x ∈ tw G, 0 < x ∧ x ≤ 73
  | [], k, F, G, n, h, hF => by cases h; exact hF
  | l :: ls, k, F, G, n, h, hF => by
    unfold tellR at h
    split at h
    · cases h
    · rename_i t ht
      split at h
      · cases h
      · rename_i hb
        refine okR ls _ _ _ _ h ?_
        rw [not_or] at hb
        have h1 : tw (F ++ t) = F ++ tw t := by
          have : ∀ A : List Int, 74 ∉ A → tw (A ++ t) = A ++ tw t := by
            intro A hA
            induction A with
            | nil => rfl
            | cons a A ih =>
              rw [List.mem_cons, not_or] at hA
              have := ih hA.2
              simp only [tw] at this
              simp [tw, this, Ne.symm hA.1]
          exact this F hb.1
        intro x hx
        rw [h1] at hx
        rcases List.mem_append.mp hx with hx | hx
        · exact hF x (by rw [tw_all F hb.1]; exact hx)
        · have hok : okT t = true := by
            cases h' : okT t with
            | true => rfl
            | false => exact absurd h' hb.2
          unfold okT at hok
          have := List.all_eq_true.mp (Bool.and_eq_true_iff.mp hok).1 x hx
          simpa using this
theorem ix_sg {z : Z} (x : Int) (h : 0 < x ∧ x ≤ 73) : L2.atI sg (x - 1) = some (sgn x) := by
  unfold L2.atI
  obtain ⟨n, hn⟩ : ∃ n : Nat, (x - 1).toNat = n := ⟨_, rfl⟩
  have hx : x - 1 = (n : Int) := by omega
  rw [hx, sg_len, ixN_nat (by omega), Option.bind_some]
  unfold sgn
  rw [hx, Int.toNat_natCast, List.getD_eq_getElem?_getD]
  have : n < sg.length := by rw [sg_len]; omega
  rw [List.getElem?_eq_getElem this]; rfl
theorem text_of_ok (z : Z) (rows : List (List Nat)) (hn : rows.length ≤ 100) (hl : ∀ l ∈ rows, l.length ≤ 1000) : f_text_of [.lst z (dL rows)] = some (tell rows 0 [], []) := by
  obtain ⟨e, h, hG⟩ := text_loop z rows rows 0 [] hl (by simp; omega) none none none none none
  rw [show dI [] = [] from rfl] at h
  have hc := coldL_rows rows
  rw [tell_R]
  unfold f_text_of runF m_text_of l_text_of_1 forS enumI
  cases hr : tellR rows 0 [] with
  | mk o n =>
    rw [hr] at h
    cases o with
    | none =>
      dsimp only at h ⊢
      simp [-List.map_map, seqS, ifS, skipS, exprS, asgS, setS, retS, unpS, boolT, testT, notT, andT, orT, ifT, yesT, op2E, op1E, ixE, varE, constE, callE, fnE, consA, nilA, lateA, lstE, tupE, ifE, andE, orE, notE, chainE, methE, sliceE, partO, noO, takeL, take1, taken, srcSlots, Env.get, Env.putAt, Env.cools_nil, D.put, D.imm, immL, D.cold, coldL, D.hot, hotL, Z.cold, Z.hot, Src.fresh, gAdd_int, gSub_int, gMul_int, gFdiv_int, gMod_int, gNeg_int, gLt_int, gLe_int, gGt_int, gGe_int, gIsN_eq, gNotN_eq, isNon, gInt_int, gLen_lst, gLen_tup, gTru_bl, argsD, lentOf, iosOk, putOuts, allHot, outsOf, D.frz, frzL, frost_own, frost_frz, frost_fix, nameG, consG, nilG, tupG, unlG, tyD, le_size, lt_size, gEq_eq, gNe_eq, deq_int, deq_ints, deq_three, shp_int, shp_ints, shp_three, shp_non, shp_bl, Env.wipe, Env.back, coldL_ints, hotL_ints, frzL_ints, coldL_strs, hotL_strs, frzL_strs, hc, h]
    | some G =>
      dsimp only at h ⊢
      obtain ⟨hGl, o2, o3, o4, rfl⟩ := hG G n hr
      have hn' := tellR_n _ _ _ _ _ hr
      have hGo := okR _ _ _ _ _ hr (by simp [tw])
      have e1 := gNotIn_ints .own 74 G
      have hc' := coldL_ints G
      by_cases hm : (74 : Int) ∈ G
      · rw [if_pos hm]
        have e2 := gLIndex_ints .own G hm
        have hle := tw_le G
        have e3 := sl_to (z := .own) (xs := G) (k := ((tw G).length : Int)) (by omega)
        rw [Int.toNat_natCast, tw_take] at e3
        have hk : ∀ (o : Option D), compL [6] [] (nameG 6 []) yesT ce_text_of_1 (dI (tw G)) [some (.lst z (dL rows)), some (.lst .own (dI G)), o2, o3, o4, o, none] = some (dS (((tw G).map fun x => [sgn x]).map SX.S), [some (.lst z (dL rows)), some (.lst .own (dI G)), o2, o3, o4, o, none]) := by
          intro o
          rw [compL_map gSg]
          · refine congrArg (fun x => some (x, _)) ?_
            simp only [List.map_map]
            rfl
          · intro d hd
            obtain ⟨x, hx, rfl⟩ := List.mem_map.mp hd
            refine ⟨[some (.lst z (dL rows)), some (.lst .own (dI G)), o2, o3, o4, o, some (.int x)], by simp [-List.map_map, seqS, ifS, skipS, exprS, asgS, setS, retS, unpS, boolT, testT, notT, andT, orT, ifT, yesT, op2E, op1E, ixE, varE, constE, callE, fnE, consA, nilA, lateA, lstE, tupE, ifE, andE, orE, notE, chainE, methE, sliceE, partO, noO, takeL, take1, taken, srcSlots, Env.get, Env.putAt, Env.cools_nil, D.put, D.imm, immL, D.cold, coldL, D.hot, hotL, Z.cold, Z.hot, Src.fresh, gAdd_int, gSub_int, gMul_int, gFdiv_int, gMod_int, gNeg_int, gLt_int, gLe_int, gGt_int, gGe_int, gIsN_eq, gNotN_eq, isNon, gInt_int, gLen_lst, gLen_tup, gTru_bl, argsD, lentOf, iosOk, putOuts, allHot, outsOf, D.frz, frzL, frost_own, frost_frz, frost_fix, nameG, consG, nilG, tupG, unlG, tyD, le_size, lt_size, gEq_eq, gNe_eq, deq_int, deq_ints, deq_three, shp_int, shp_ints, shp_three, shp_non, shp_bl, Env.wipe, Env.back, coldL_ints, hotL_ints, frzL_ints, coldL_strs, hotL_strs, frzL_strs], ?_, by simp [Env.wipe]⟩
            unfold ce_text_of_1
            have hi := ix_sg (z := .own) x (hGo x hx)
            have hz : (73 ≤ sizeLine) = True := le_size (by omega)
            rw [signs_eq]
            simp [-List.map_map, seqS, ifS, skipS, exprS, asgS, setS, retS, unpS, boolT, testT, notT, andT, orT, ifT, yesT, op2E, op1E, ixE, varE, constE, callE, fnE, consA, nilA, lateA, lstE, tupE, ifE, andE, orE, notE, chainE, methE, sliceE, partO, noO, takeL, take1, taken, srcSlots, Env.get, Env.putAt, Env.cools_nil, D.put, D.imm, immL, D.cold, coldL, D.hot, hotL, Z.cold, Z.hot, Src.fresh, gAdd_int, gSub_int, gMul_int, gFdiv_int, gMod_int, gNeg_int, gLt_int, gLe_int, gGt_int, gGe_int, gIsN_eq, gNotN_eq, isNon, gInt_int, gLen_lst, gLen_tup, gTru_bl, argsD, lentOf, iosOk, putOuts, allHot, outsOf, D.frz, frzL, frost_own, frost_frz, frost_fix, nameG, consG, nilG, tupG, unlG, tyD, le_size, lt_size, gEq_eq, gNe_eq, deq_int, deq_ints, deq_three, shp_int, shp_ints, shp_three, shp_non, shp_bl, Env.wipe, Env.back, coldL_ints, hotL_ints, frzL_ints, coldL_strs, hotL_strs, frzL_strs, hi, SX.S_len, sg_len, hz, gSg]
        have hfl : ((tw G).map fun x => [sgn x]).flatten = (tw G).map sgn := by
          induction tw G with
          | nil => rfl
          | cons a A ih => simp only [List.map_cons, List.flatten_cons, ih, List.singleton_append]
        have hj := join_nil .own ((tw G).map fun x => [sgn x]) (by rw [hfl, List.length_map]; omega)
        rw [hfl] at hj
        have hlt : ((tw G).length < sizeLine) = True := lt_size (by omega)
        simp [-List.map_map, seqS, ifS, skipS, exprS, asgS, setS, retS, unpS, boolT, testT, notT, andT, orT, ifT, yesT, op2E, op1E, ixE, varE, constE, callE, fnE, consA, nilA, lateA, lstE, tupE, ifE, andE, orE, notE, chainE, methE, sliceE, partO, noO, takeL, take1, taken, srcSlots, Env.get, Env.putAt, Env.cools_nil, D.put, D.imm, immL, D.cold, coldL, D.hot, hotL, Z.cold, Z.hot, Src.fresh, gAdd_int, gSub_int, gMul_int, gFdiv_int, gMod_int, gNeg_int, gLt_int, gLe_int, gGt_int, gGe_int, gIsN_eq, gNotN_eq, isNon, gInt_int, gLen_lst, gLen_tup, gTru_bl, argsD, lentOf, iosOk, putOuts, allHot, outsOf, D.frz, frzL, frost_own, frost_frz, frost_fix, nameG, consG, nilG, tupG, unlG, tyD, le_size, lt_size, gEq_eq, gNe_eq, deq_int, deq_ints, deq_three, shp_int, shp_ints, shp_three, shp_non, shp_bl, Env.wipe, Env.back, coldL_ints, hotL_ints, frzL_ints, coldL_strs, hotL_strs, frzL_strs, hc, h, e1, hm, e2, e3, hk, hj, hlt, c_text_of_1, compE, seqI, textD]
      · rw [if_neg hm]
        simp [-List.map_map, seqS, ifS, skipS, exprS, asgS, setS, retS, unpS, boolT, testT, notT, andT, orT, ifT, yesT, op2E, op1E, ixE, varE, constE, callE, fnE, consA, nilA, lateA, lstE, tupE, ifE, andE, orE, notE, chainE, methE, sliceE, partO, noO, takeL, take1, taken, srcSlots, Env.get, Env.putAt, Env.cools_nil, D.put, D.imm, immL, D.cold, coldL, D.hot, hotL, Z.cold, Z.hot, Src.fresh, gAdd_int, gSub_int, gMul_int, gFdiv_int, gMod_int, gNeg_int, gLt_int, gLe_int, gGt_int, gGe_int, gIsN_eq, gNotN_eq, isNon, gInt_int, gLen_lst, gLen_tup, gTru_bl, argsD, lentOf, iosOk, putOuts, allHot, outsOf, D.frz, frzL, frost_own, frost_frz, frost_fix, nameG, consG, nilG, tupG, unlG, tyD, le_size, lt_size, gEq_eq, gNe_eq, deq_int, deq_ints, deq_three, shp_int, shp_ints, shp_three, shp_non, shp_bl, Env.wipe, Env.back, coldL_ints, hotL_ints, frzL_ints, coldL_strs, hotL_strs, frzL_strs, hc, h, e1, hm, lineD, hn']
end KL

set_option Elab.async false
set_option linter.all false
set_option maxRecDepth 100000
set_option maxHeartbeats 4000000
namespace KL
open PySem VC KN
/-! ### told by the law -/
def txD (T : List Nat) : D := .str (S T)
theorem told_body (z : Z) (rows : List (List Nat)) (T : List Nat) (e : Bool) (k : Nat) (d4 : Option D) (x : Int) (hx : 0 ≤ x) (hT : T.length ≤ 50000) :
    b_law_told_1 [some (.lst z (dL rows)), some (txD T), some (.bl e), some (.int (k : Nat)), d4, some (.int x)] =
      some (if (if e = true then 0 < x else x = 0 ∨ 74 < x) then .rt (lineD k) [some (.lst z (dL rows)), some (txD T), some (.bl e), some (.int (k : Nat)), d4, some (.int x)]
        else .nx [some (.lst z (dL rows)), some (txD (if e = true ∨ x = 74 then T else T ++ [sgn x])), some (.bl (e || decide (x = 74))), some (.int (k : Nat)), d4, some (.int x)]) := by
  have hz : (73 ≤ sizeLine) = True := le_size (by omega)
  have g0 : ∀ A B : List Nat, A.length + B.length ≤ 100000 → gAdd (.str (S A)) (.str (S B)) = some (.str (S (A ++ B))) := fun A B h => by
    rw [gAdd_str _ _ (by rw [SX.S_len, SX.S_len]; exact le_sz h), SX.S_cat]
  have g1 : gAdd (.str (S T)) (.str (Str.ofString "")) = some (.str (S T)) := by rw [emp, g0 T [] (by simp; omega), List.append_nil]
  have g2 : gAdd (.str (S T)) (.str (S [sgn x])) = some (.str (S (T ++ [sgn x]))) := g0 T [sgn x] (by simp; omega)
  have hs : (S sg).cps.toList = sg := rfl
  unfold b_law_told_1
  cases e with
  | true =>
    by_cases h0 : 0 < x
    · simp [-List.map_map, seqS, ifS, skipS, exprS, asgS, setS, retS, unpS, boolT, testT, notT, andT, orT, ifT, yesT, op2E, op1E, ixE, varE, constE, callE, fnE, consA, nilA, lateA, lstE, tupE, ifE, andE, orE, notE, chainE, methE, sliceE, partO, noO, takeL, take1, taken, srcSlots, Env.get, Env.putAt, Env.cools_nil, D.put, D.imm, immL, D.cold, coldL, D.hot, hotL, Z.cold, Z.hot, Src.fresh, gAdd_int, gSub_int, gMul_int, gFdiv_int, gMod_int, gNeg_int, gLt_int, gLe_int, gGt_int, gGe_int, gIsN_eq, gNotN_eq, isNon, gInt_int, gLen_lst, gLen_tup, gTru_bl, argsD, lentOf, iosOk, putOuts, allHot, outsOf, D.frz, frzL, frost_own, frost_frz, frost_fix, nameG, consG, nilG, tupG, unlG, tyD, le_size, lt_size, gEq_eq, gNe_eq, deq_int, deq_ints, deq_three, shp_int, shp_ints, shp_three, shp_non, shp_bl, Env.wipe, Env.back, coldL_ints, hotL_ints, frzL_ints, coldL_strs, hotL_strs, frzL_strs, h0, txD, lineD]
    · have h7 : ¬ (x = 74) := by omega
      simp [-List.map_map, seqS, ifS, skipS, exprS, asgS, setS, retS, unpS, boolT, testT, notT, andT, orT, ifT, yesT, op2E, op1E, ixE, varE, constE, callE, fnE, consA, nilA, lateA, lstE, tupE, ifE, andE, orE, notE, chainE, methE, sliceE, partO, noO, takeL, take1, taken, srcSlots, Env.get, Env.putAt, Env.cools_nil, D.put, D.imm, immL, D.cold, coldL, D.hot, hotL, Z.cold, Z.hot, Src.fresh, gAdd_int, gSub_int, gMul_int, gFdiv_int, gMod_int, gNeg_int, gLt_int, gLe_int, gGt_int, gGe_int, gIsN_eq, gNotN_eq, isNon, gInt_int, gLen_lst, gLen_tup, gTru_bl, argsD, lentOf, iosOk, putOuts, allHot, outsOf, D.frz, frzL, frost_own, frost_frz, frost_fix, nameG, consG, nilG, tupG, unlG, tyD, le_size, lt_size, gEq_eq, gNe_eq, deq_int, deq_ints, deq_three, shp_int, shp_ints, shp_three, shp_non, shp_bl, Env.wipe, Env.back, coldL_ints, hotL_ints, frzL_ints, coldL_strs, hotL_strs, frzL_strs, h0, txD, lineD, g1]
  | false =>
    by_cases h0 : x = 0
    · simp [-List.map_map, seqS, ifS, skipS, exprS, asgS, setS, retS, unpS, boolT, testT, notT, andT, orT, ifT, yesT, op2E, op1E, ixE, varE, constE, callE, fnE, consA, nilA, lateA, lstE, tupE, ifE, andE, orE, notE, chainE, methE, sliceE, partO, noO, takeL, take1, taken, srcSlots, Env.get, Env.putAt, Env.cools_nil, D.put, D.imm, immL, D.cold, coldL, D.hot, hotL, Z.cold, Z.hot, Src.fresh, gAdd_int, gSub_int, gMul_int, gFdiv_int, gMod_int, gNeg_int, gLt_int, gLe_int, gGt_int, gGe_int, gIsN_eq, gNotN_eq, isNon, gInt_int, gLen_lst, gLen_tup, gTru_bl, argsD, lentOf, iosOk, putOuts, allHot, outsOf, D.frz, frzL, frost_own, frost_frz, frost_fix, nameG, consG, nilG, tupG, unlG, tyD, le_size, lt_size, gEq_eq, gNe_eq, deq_int, deq_ints, deq_three, shp_int, shp_ints, shp_three, shp_non, shp_bl, Env.wipe, Env.back, coldL_ints, hotL_ints, frzL_ints, coldL_strs, hotL_strs, frzL_strs, h0, txD, lineD]
    · by_cases h7 : 74 < x
      · simp [-List.map_map, seqS, ifS, skipS, exprS, asgS, setS, retS, unpS, boolT, testT, notT, andT, orT, ifT, yesT, op2E, op1E, ixE, varE, constE, callE, fnE, consA, nilA, lateA, lstE, tupE, ifE, andE, orE, notE, chainE, methE, sliceE, partO, noO, takeL, take1, taken, srcSlots, Env.get, Env.putAt, Env.cools_nil, D.put, D.imm, immL, D.cold, coldL, D.hot, hotL, Z.cold, Z.hot, Src.fresh, gAdd_int, gSub_int, gMul_int, gFdiv_int, gMod_int, gNeg_int, gLt_int, gLe_int, gGt_int, gGe_int, gIsN_eq, gNotN_eq, isNon, gInt_int, gLen_lst, gLen_tup, gTru_bl, argsD, lentOf, iosOk, putOuts, allHot, outsOf, D.frz, frzL, frost_own, frost_frz, frost_fix, nameG, consG, nilG, tupG, unlG, tyD, le_size, lt_size, gEq_eq, gNe_eq, deq_int, deq_ints, deq_three, shp_int, shp_ints, shp_three, shp_non, shp_bl, Env.wipe, Env.back, coldL_ints, hotL_ints, frzL_ints, coldL_strs, hotL_strs, frzL_strs, h0, h7, txD, lineD]
      · by_cases h8 : x = 74
        · simp [-List.map_map, seqS, ifS, skipS, exprS, asgS, setS, retS, unpS, boolT, testT, notT, andT, orT, ifT, yesT, op2E, op1E, ixE, varE, constE, callE, fnE, consA, nilA, lateA, lstE, tupE, ifE, andE, orE, notE, chainE, methE, sliceE, partO, noO, takeL, take1, taken, srcSlots, Env.get, Env.putAt, Env.cools_nil, D.put, D.imm, immL, D.cold, coldL, D.hot, hotL, Z.cold, Z.hot, Src.fresh, gAdd_int, gSub_int, gMul_int, gFdiv_int, gMod_int, gNeg_int, gLt_int, gLe_int, gGt_int, gGe_int, gIsN_eq, gNotN_eq, isNon, gInt_int, gLen_lst, gLen_tup, gTru_bl, argsD, lentOf, iosOk, putOuts, allHot, outsOf, D.frz, frzL, frost_own, frost_frz, frost_fix, nameG, consG, nilG, tupG, unlG, tyD, le_size, lt_size, gEq_eq, gNe_eq, deq_int, deq_ints, deq_three, shp_int, shp_ints, shp_three, shp_non, shp_bl, Env.wipe, Env.back, coldL_ints, hotL_ints, frzL_ints, coldL_strs, hotL_strs, frzL_strs, h0, h7, h8, txD, lineD, g1]
        · have hi := ix_sg (z := .own) x ⟨by omega, by omega⟩
          simp [-List.map_map, seqS, ifS, skipS, exprS, asgS, setS, retS, unpS, boolT, testT, notT, andT, orT, ifT, yesT, op2E, op1E, ixE, varE, constE, callE, fnE, consA, nilA, lateA, lstE, tupE, ifE, andE, orE, notE, chainE, methE, sliceE, partO, noO, takeL, take1, taken, srcSlots, Env.get, Env.putAt, Env.cools_nil, D.put, D.imm, immL, D.cold, coldL, D.hot, hotL, Z.cold, Z.hot, Src.fresh, gAdd_int, gSub_int, gMul_int, gFdiv_int, gMod_int, gNeg_int, gLt_int, gLe_int, gGt_int, gGe_int, gIsN_eq, gNotN_eq, isNon, gInt_int, gLen_lst, gLen_tup, gTru_bl, argsD, lentOf, iosOk, putOuts, allHot, outsOf, D.frz, frzL, frost_own, frost_frz, frost_fix, nameG, consG, nilG, tupG, unlG, tyD, le_size, lt_size, gEq_eq, gNe_eq, deq_int, deq_ints, deq_three, shp_int, shp_ints, shp_three, shp_non, shp_bl, Env.wipe, Env.back, coldL_ints, hotL_ints, frzL_ints, coldL_strs, hotL_strs, frzL_strs, h0, h7, h8, txD, lineD, g2, law_signs_ok, hi, SX.S_len, sg_len, hz]
def zs (t : List Int) : Bool := t.all fun x => decide (x = 0)
/-- the inner loop, ended -/
theorem told_zeros (z : Z) (rows : List (List Nat)) (T : List Nat) (k : Nat) (d4 : Option D) (hT : T.length ≤ 50000) : ∀ (t : List Int), (∀ x ∈ t, 0 ≤ x) → ∀ d5 : Option D,
    ∃ e, forL (nameG 5 []) b_law_told_1 (dI t) [some (.lst z (dL rows)), some (txD T), some (.bl true), some (.int (k : Nat)), d4, d5] =
      some (if zs t = true then .nx e else .rt (lineD k) e) ∧ (zs t = true → ∃ d5, e = [some (.lst z (dL rows)), some (txD T), some (.bl true), some (.int (k : Nat)), d4, d5])
  | [], _, d5 => ⟨_, rfl, fun _ => ⟨d5, rfl⟩⟩
  | x :: t, hx, d5 => by
    have hn : nameG 5 [] (.int x) [some (.lst z (dL rows)), some (txD T), some (.bl true), some (.int (k : Nat)), d4, d5] = some [some (.lst z (dL rows)), some (txD T), some (.bl true), some (.int (k : Nat)), d4, some (.int x)] := by simp [-List.map_map, seqS, ifS, skipS, exprS, asgS, setS, retS, unpS, boolT, testT, notT, andT, orT, ifT, yesT, op2E, op1E, ixE, varE, constE, callE, fnE, consA, nilA, lateA, lstE, tupE, ifE, andE, orE, notE, chainE, methE, sliceE, partO, noO, takeL, take1, taken, srcSlots, Env.get, Env.putAt, Env.cools_nil, D.put, D.imm, immL, D.cold, coldL, D.hot, hotL, Z.cold, Z.hot, Src.fresh, gAdd_int, gSub_int, gMul_int, gFdiv_int, gMod_int, gNeg_int, gLt_int, gLe_int, gGt_int, gGe_int, gIsN_eq, gNotN_eq, isNon, gInt_int, gLen_lst, gLen_tup, gTru_bl, argsD, lentOf, iosOk, putOuts, allHot, outsOf, D.frz, frzL, frost_own, frost_frz, frost_fix, nameG, consG, nilG, tupG, unlG, tyD, le_size, lt_size, gEq_eq, gNe_eq, deq_int, deq_ints, deq_three, shp_int, shp_ints, shp_three, shp_non, shp_bl, Env.wipe, Env.back, coldL_ints, hotL_ints, frzL_ints, coldL_strs, hotL_strs, frzL_strs]
    have hb := told_body z rows T true k d4 x (hx x (by simp)) hT
    have hx0 := hx x (by simp)
    rw [show dI (x :: t) = .int x :: dI t from rfl]
    by_cases h0 : 0 < x
    · rw [if_pos (by simpa using h0)] at hb
      have hz : zs (x :: t) = false := by
        unfold zs
        have : ¬ (x = 0) := by omega
        simp [this]
      rw [hz]
      exact ⟨_, forL_ret hn hb, fun h => by cases h⟩
    · rw [if_neg (by simpa using h0)] at hb
      have hx1 : x = 0 := by omega
      have hz : zs (x :: t) = zs t := by unfold zs; simp [hx1]
      rw [hz]
      obtain ⟨e, h1, h2⟩ := told_zeros z rows T k d4 hT t (fun y hy => hx y (by simp [hy])) (some (.int x))
      simp only [true_or, if_true, Bool.true_or] at hb
      exact ⟨e, by rw [forL_nx hn hb, h1], h2⟩
theorem okT_cons (x : Int) (t : List Int) : okT (x :: t) = if x = 74 then zs t else (decide (0 < x) && decide (x ≤ 73)) && okT t := by
  unfold okT zs tw
  by_cases h : x = 74
  · simp [h]
  · simp [h, Bool.and_assoc]
/-- the inner loop -/
theorem told_inner (z : Z) (rows : List (List Nat)) (k : Nat) (d4 : Option D) : ∀ (t : List Int) (T : List Nat), (∀ x ∈ t, 0 ≤ x) → T.length + t.length ≤ 50000 → ∀ d5 : Option D,
    ∃ e, forL (nameG 5 []) b_law_told_1 (dI t) [some (.lst z (dL rows)), some (txD T), some (.bl false), some (.int (k : Nat)), d4, d5] =
      some (if okT t = true then .nx e else .rt (lineD k) e) ∧ (okT t = true → ∃ d5, e = [some (.lst z (dL rows)), some (txD (T ++ (tw t).map sgn)), some (.bl (decide ((74 : Int) ∈ t))), some (.int (k : Nat)), d4, d5])
  | [], T, _, _, d5 => ⟨_, rfl, fun _ => ⟨d5, by simp [tw]⟩⟩
  | x :: t, T, hx, hT, d5 => by
    rw [List.length_cons] at hT
    have hn : nameG 5 [] (.int x) [some (.lst z (dL rows)), some (txD T), some (.bl false), some (.int (k : Nat)), d4, d5] = some [some (.lst z (dL rows)), some (txD T), some (.bl false), some (.int (k : Nat)), d4, some (.int x)] := by simp [-List.map_map, seqS, ifS, skipS, exprS, asgS, setS, retS, unpS, boolT, testT, notT, andT, orT, ifT, yesT, op2E, op1E, ixE, varE, constE, callE, fnE, consA, nilA, lateA, lstE, tupE, ifE, andE, orE, notE, chainE, methE, sliceE, partO, noO, takeL, take1, taken, srcSlots, Env.get, Env.putAt, Env.cools_nil, D.put, D.imm, immL, D.cold, coldL, D.hot, hotL, Z.cold, Z.hot, Src.fresh, gAdd_int, gSub_int, gMul_int, gFdiv_int, gMod_int, gNeg_int, gLt_int, gLe_int, gGt_int, gGe_int, gIsN_eq, gNotN_eq, isNon, gInt_int, gLen_lst, gLen_tup, gTru_bl, argsD, lentOf, iosOk, putOuts, allHot, outsOf, D.frz, frzL, frost_own, frost_frz, frost_fix, nameG, consG, nilG, tupG, unlG, tyD, le_size, lt_size, gEq_eq, gNe_eq, deq_int, deq_ints, deq_three, shp_int, shp_ints, shp_three, shp_non, shp_bl, Env.wipe, Env.back, coldL_ints, hotL_ints, frzL_ints, coldL_strs, hotL_strs, frzL_strs, txD]
    have hb := told_body z rows T false k d4 x (hx x (by simp)) (by omega)
    have hx0 := hx x (by simp)
    rw [show dI (x :: t) = .int x :: dI t from rfl]
    by_cases h0 : x = 0 ∨ 74 < x
    · rw [if_pos (by simpa using h0)] at hb
      have hz : okT (x :: t) = false := by
        rw [okT_cons]
        have h7 : ¬ (x = 74) := by omega
        rw [if_neg h7]
        by_cases h1 : 0 < x <;> simp [h1] <;> intro h2 <;> omega
      rw [hz]
      exact ⟨_, forL_ret hn hb, fun h => by cases h⟩
    · rw [if_neg (by simpa using h0)] at hb
      by_cases h7 : x = 74
      · simp only [h7, or_true, if_true, decide_true, Bool.or_true] at hb
        obtain ⟨e, h1, h2⟩ := told_zeros z rows T k d4 (by omega) t (fun y hy => hx y (by simp [hy])) (some (.int x))
        rw [okT_cons, if_pos h7]
        refine ⟨e, ?_, fun h => ?_⟩
        · subst h7
          rw [forL_nx hn hb, h1]
        · obtain ⟨d5, h3⟩ := h2 h
          refine ⟨d5, ?_⟩
          rw [h3]
          simp [tw, h7]
      · simp only [h7, decide_false, Bool.or_false, or_false, Bool.false_eq_true, if_false] at hb
        obtain ⟨e, h1, h2⟩ := told_inner z rows k d4 t (T ++ [sgn x]) (fun y hy => hx y (by simp [hy])) (by simp; omega) (some (.int x))
        have hz : okT (x :: t) = okT t := by
          rw [okT_cons, if_neg h7]
          have a1 : 0 < x := by omega
          have a2 : x ≤ 73 := by omega
          simp [a1, a2]
        rw [hz]
        refine ⟨e, by rw [forL_nx hn hb, h1], fun h => ?_⟩
        obtain ⟨d5, h3⟩ := h2 h
        refine ⟨d5, ?_⟩
        rw [h3]
        have h7' : ¬ ((74 : Int) = x) := Ne.symm h7
        simp [tw, h7, h7']
end KL

set_option Elab.async false
set_option linter.all false
set_option maxRecDepth 100000
set_option maxHeartbeats 4000000
namespace KL
open PySem VC KN
theorem prR_rng {xs r : List Int} (h : prR xs = some r) (hl : xs.length = 60) (hx : ∀ x ∈ xs, 0 ≤ x ∧ x < 97) : r.length = 60 ∧ ∀ x ∈ r, 0 ≤ x ∧ x < 97 := by
  unfold prR at h
  split at h
  · cases h; exact ⟨hl, hx⟩
  · split at h
    · cases h
    · split at h
      · cases h
        unfold fixAt
        refine ⟨by rw [List.length_set]; exact hl, fun x hx' => ?_⟩
        rcases List.mem_or_eq_of_mem_set hx' with h | h
        · exact hx x h
        · rw [h]; exact ⟨Int.emod_nonneg _ (by decide), Int.emod_lt_of_pos _ (by decide)⟩
      · cases h
theorem nums_rng {l : List Nat} {v : List Int} (h : nums l = some v) : v.length = 60 ∧ ∀ x ∈ v, 0 ≤ x ∧ x < 97 := by
  unfold nums at h
  split at h
  · rename_i hc
    cases h
    refine ⟨vals_len l, fun x hx => ?_⟩
    have h1 := (maxI_le (m := 96) (xs := vals l) (by intro h; have := vals_len l; rw [h] at this; simp at this)).mp (by omega) x hx
    unfold vals at hx
    obtain ⟨i, _, rfl⟩ := List.mem_map.mp hx
    unfold val at h1 ⊢
    omega
  · cases h
theorem told_two (z : Z) (rows : List (List Nat)) (hn : rows.length ≤ 100) (k : Nat) (l : List Nat) (hk : rows[k]? = some l) (hl : l.length ≤ 1000) (F : List Int) (hF : F.length ≤ 10000) (o4 o5 : Option D) :
    ∃ e, b_law_told_2 [some (.lst z (dL rows)), some (txD ((tw F).map sgn)), some (.bl (decide ((74 : Int) ∈ F))), some (.int (k : Nat)), o4, o5] =
      some (match lineT l ((k : Int) + 1) with
        | none => .rt (lineD k) e
        | some t => if (74 : Int) ∈ F ∨ okT t = false then .rt (lineD k) e else .nx e) ∧
      ∀ t, lineT l ((k : Int) + 1) = some t → ¬ ((74 : Int) ∈ F ∨ okT t = false) → ∃ o4 o5, e = [some (.lst z (dL rows)), some (txD ((tw (F ++ t)).map sgn)), some (.bl (decide ((74 : Int) ∈ F ++ t))), some (.int (k : Nat)), o4, o5] := by
  have e1 := law_numbers_ok l hl
  have hlen : k < rows.length := (List.getElem?_eq_some_iff.mp hk).1
  have hix : L2.ixN rows.length (k : Int) = some k := ixN_nat hlen
  have hg : ∀ h : k < rows.length, rows[k]'h = l := fun h => by
    have := List.getElem?_eq_getElem h
    rw [hk] at this
    exact (Option.some.inj this).symm
  have q1 : small64 97 = true := small64_of (by omega)
  unfold b_law_told_2
  unfold lineT
  cases h1 : (nums l).bind prR with
  | none =>
    rw [h1] at e1
    simp only [Option.bind_none]
    refine ⟨[some (.lst z (dL rows)), some (txD ((tw F).map sgn)), some (.bl (decide ((74 : Int) ∈ F))), some (.int (k : Nat)), some .non, o5], ?_, fun t h => by cases h⟩
    simp [-List.map_map, seqS, ifS, skipS, exprS, asgS, setS, retS, unpS, boolT, testT, notT, andT, orT, ifT, yesT, op2E, op1E, ixE, varE, constE, callE, fnE, consA, nilA, lateA, lstE, tupE, ifE, andE, orE, notE, chainE, methE, sliceE, partO, noO, takeL, take1, taken, srcSlots, Env.get, Env.putAt, Env.cools_nil, D.put, D.imm, immL, D.cold, coldL, D.hot, hotL, Z.cold, Z.hot, Src.fresh, gAdd_int, gSub_int, gMul_int, gFdiv_int, gMod_int, gNeg_int, gLt_int, gLe_int, gGt_int, gGe_int, gIsN_eq, gNotN_eq, isNon, gInt_int, gLen_lst, gLen_tup, gTru_bl, argsD, lentOf, iosOk, putOuts, allHot, outsOf, D.frz, frzL, frost_own, frost_frz, frost_fix, nameG, consG, nilG, tupG, unlG, tyD, le_size, lt_size, gEq_eq, gNe_eq, deq_int, deq_ints, deq_three, shp_int, shp_ints, shp_three, shp_non, shp_bl, Env.wipe, Env.back, coldL_ints, hotL_ints, frzL_ints, coldL_strs, hotL_strs, frzL_strs, hix, hk, hg, e1, rD, lineD]
  | some r =>
    rw [h1] at e1
    have hr : r.length = 60 ∧ ∀ x ∈ r, 0 ≤ x ∧ x < 97 := by
      obtain ⟨v, hv, h2⟩ := Option.bind_eq_some_iff.mp h1
      exact prR_rng h2 (nums_rng hv).1 (nums_rng hv).2
    obtain ⟨a, b, c, hh⟩ : ∃ a b c, r = a :: b :: c := by
      match r, hr.1 with
      | a :: b :: c, _ => exact ⟨a, b, c, rfl⟩
    have i0 : L2.ixN 60 0 = some 0 := rfl
    have i1 : L2.ixN 60 1 = some 1 := rfl
    have hr1 := hr.1
    have e3 := sl_mid (z := .own) (xs := r) (i := 2) (k := 57) (by omega)
    rw [show ((2 : Int)).toNat = 2 from rfl, show ((57 : Int) - 2).toNat = 55 from rfl] at e3
    have g0 : r[0]? = some a := by rw [hh]; rfl
    have g1 : r[1]? = some b := by rw [hh]; rfl
    have g0' : ∀ h : 0 < r.length, r[0]'h = a := fun h => by
      have := List.getElem?_eq_getElem h
      rw [g0] at this
      exact (Option.some.inj this).symm
    have g1' : ∀ h : 1 < r.length, r[1]'h = b := fun h => by
      have := List.getElem?_eq_getElem h
      rw [g1] at this
      exact (Option.some.inj this).symm
    have d0 : r.getD 0 0 = a := by rw [hh]; rfl
    have d1 : r.getD 1 0 = b := by rw [hh]; rfl
    simp only [Option.bind_some, d0, d1]
    by_cases h3 : 97 * a + b = (k : Int) + 1
    · rw [if_pos h3]
      obtain ⟨t, ht⟩ : ∃ t, (r.drop 2).take 55 = t := ⟨_, rfl⟩
      rw [ht] at e3 ⊢
      have htl : t.length ≤ 55 := by rw [← ht, List.length_take]; omega
      have htr : ∀ x ∈ t, 0 ≤ x := fun x hx => by
        rw [← ht] at hx
        exact (hr.2 x (List.mem_of_mem_drop (List.mem_of_mem_take hx))).1
      dsimp only
      by_cases hm : (74 : Int) ∈ F
      · refine ⟨[some (.lst z (dL rows)), some (txD ((tw F).map sgn)), some (.bl true), some (.int (k : Nat)), some (.lst .own (dI r)), o5], ?_, fun t' h hn => ?_⟩
        · simp [-List.map_map, seqS, ifS, skipS, exprS, asgS, setS, retS, unpS, boolT, testT, notT, andT, orT, ifT, yesT, op2E, op1E, ixE, varE, constE, callE, fnE, consA, nilA, lateA, lstE, tupE, ifE, andE, orE, notE, chainE, methE, sliceE, partO, noO, takeL, take1, taken, srcSlots, Env.get, Env.putAt, Env.cools_nil, D.put, D.imm, immL, D.cold, coldL, D.hot, hotL, Z.cold, Z.hot, Src.fresh, gAdd_int, gSub_int, gMul_int, gFdiv_int, gMod_int, gNeg_int, gLt_int, gLe_int, gGt_int, gGe_int, gIsN_eq, gNotN_eq, isNon, gInt_int, gLen_lst, gLen_tup, gTru_bl, argsD, lentOf, iosOk, putOuts, allHot, outsOf, D.frz, frzL, frost_own, frost_frz, frost_fix, nameG, consG, nilG, tupG, unlG, tyD, le_size, lt_size, gEq_eq, gNe_eq, deq_int, deq_ints, deq_three, shp_int, shp_ints, shp_three, shp_non, shp_bl, Env.wipe, Env.back, coldL_ints, hotL_ints, frzL_ints, coldL_strs, hotL_strs, frzL_strs, hix, hk, hg, e1, rD, lineD, hr1, i0, i1, g0', g1', h3, hm, q1]
        · cases h; exact absurd (.inl hm) hn
      · have htw := tw_all F hm
        obtain ⟨e, hin, hin2⟩ := told_inner z rows k (some (.lst .own (dI r))) t ((tw F).map sgn) htr (by rw [htw, List.length_map]; omega) o5
        have hc := coldL_ints t
        have hA : tw (F ++ t) = F ++ tw t := by
          have : ∀ A : List Int, 74 ∉ A → tw (A ++ t) = A ++ tw t := by
            intro A hA
            induction A with
            | nil => rfl
            | cons a A ih =>
              rw [List.mem_cons, not_or] at hA
              have := ih hA.2
              simp only [tw] at this
              simp [tw, this, Ne.symm hA.1]
          exact this F hm
        have hm2 : decide ((74 : Int) ∈ F ++ t) = decide ((74 : Int) ∈ t) := by simp [hm]
        refine ⟨e, ?_, fun t' h hn' => ?_⟩
        · cases ho : okT t with
          | true =>
            rw [ho, if_pos rfl] at hin
            simp [-List.map_map, seqS, ifS, skipS, exprS, asgS, setS, retS, unpS, boolT, testT, notT, andT, orT, ifT, yesT, op2E, op1E, ixE, varE, constE, callE, fnE, consA, nilA, lateA, lstE, tupE, ifE, andE, orE, notE, chainE, methE, sliceE, partO, noO, takeL, take1, taken, srcSlots, Env.get, Env.putAt, Env.cools_nil, D.put, D.imm, immL, D.cold, coldL, D.hot, hotL, Z.cold, Z.hot, Src.fresh, gAdd_int, gSub_int, gMul_int, gFdiv_int, gMod_int, gNeg_int, gLt_int, gLe_int, gGt_int, gGe_int, gIsN_eq, gNotN_eq, isNon, gInt_int, gLen_lst, gLen_tup, gTru_bl, argsD, lentOf, iosOk, putOuts, allHot, outsOf, D.frz, frzL, frost_own, frost_frz, frost_fix, nameG, consG, nilG, tupG, unlG, tyD, le_size, lt_size, gEq_eq, gNe_eq, deq_int, deq_ints, deq_three, shp_int, shp_ints, shp_three, shp_non, shp_bl, Env.wipe, Env.back, coldL_ints, hotL_ints, frzL_ints, coldL_strs, hotL_strs, frzL_strs, hix, hk, hg, e1, rD, lineD, hr1, i0, i1, g0', g1', h3, hm, q1, e3, l_law_told_1, forS, seqI, hin, hc, ho]
          | false =>
            rw [ho, if_neg (by simp)] at hin
            simp [-List.map_map, seqS, ifS, skipS, exprS, asgS, setS, retS, unpS, boolT, testT, notT, andT, orT, ifT, yesT, op2E, op1E, ixE, varE, constE, callE, fnE, consA, nilA, lateA, lstE, tupE, ifE, andE, orE, notE, chainE, methE, sliceE, partO, noO, takeL, take1, taken, srcSlots, Env.get, Env.putAt, Env.cools_nil, D.put, D.imm, immL, D.cold, coldL, D.hot, hotL, Z.cold, Z.hot, Src.fresh, gAdd_int, gSub_int, gMul_int, gFdiv_int, gMod_int, gNeg_int, gLt_int, gLe_int, gGt_int, gGe_int, gIsN_eq, gNotN_eq, isNon, gInt_int, gLen_lst, gLen_tup, gTru_bl, argsD, lentOf, iosOk, putOuts, allHot, outsOf, D.frz, frzL, frost_own, frost_frz, frost_fix, nameG, consG, nilG, tupG, unlG, tyD, le_size, lt_size, gEq_eq, gNe_eq, deq_int, deq_ints, deq_three, shp_int, shp_ints, shp_three, shp_non, shp_bl, Env.wipe, Env.back, coldL_ints, hotL_ints, frzL_ints, coldL_strs, hotL_strs, frzL_strs, hix, hk, hg, e1, rD, lineD, hr1, i0, i1, g0', g1', h3, hm, q1, e3, l_law_told_1, forS, seqI, hin, hc, ho]
        · cases h
          have ho : okT t = true := by
            cases h' : okT t with
            | true => rfl
            | false => exact absurd (.inr h') hn'
          obtain ⟨d5, h5⟩ := hin2 ho
          refine ⟨some (.lst .own (dI r)), d5, ?_⟩
          rw [h5, hA, hm2, htw, List.map_append]
    · rw [if_neg h3]
      refine ⟨[some (.lst z (dL rows)), some (txD ((tw F).map sgn)), some (.bl (decide ((74 : Int) ∈ F))), some (.int (k : Nat)), some (.lst .own (dI r)), o5], ?_, fun t h => by cases h⟩
      simp [-List.map_map, seqS, ifS, skipS, exprS, asgS, setS, retS, unpS, boolT, testT, notT, andT, orT, ifT, yesT, op2E, op1E, ixE, varE, constE, callE, fnE, consA, nilA, lateA, lstE, tupE, ifE, andE, orE, notE, chainE, methE, sliceE, partO, noO, takeL, take1, taken, srcSlots, Env.get, Env.putAt, Env.cools_nil, D.put, D.imm, immL, D.cold, coldL, D.hot, hotL, Z.cold, Z.hot, Src.fresh, gAdd_int, gSub_int, gMul_int, gFdiv_int, gMod_int, gNeg_int, gLt_int, gLe_int, gGt_int, gGe_int, gIsN_eq, gNotN_eq, isNon, gInt_int, gLen_lst, gLen_tup, gTru_bl, argsD, lentOf, iosOk, putOuts, allHot, outsOf, D.frz, frzL, frost_own, frost_frz, frost_fix, nameG, consG, nilG, tupG, unlG, tyD, le_size, lt_size, gEq_eq, gNe_eq, deq_int, deq_ints, deq_three, shp_int, shp_ints, shp_three, shp_non, shp_bl, Env.wipe, Env.back, coldL_ints, hotL_ints, frzL_ints, coldL_strs, hotL_strs, frzL_strs, hix, hk, hg, e1, rD, lineD, hr1, i0, i1, g0', g1', h3, q1]
theorem told_loop (z : Z) (rows : List (List Nat)) (hn : rows.length ≤ 100) (hl : ∀ l ∈ rows, l.length ≤ 1000) : ∀ (ls pre : List (List Nat)) (F : List Int), rows = pre ++ ls → F.length + 55 * ls.length ≤ 10000 → ∀ (o3 o4 o5 : Option D),
    ∃ e, forL (nameG 3 []) b_law_told_2 (rangeL (pre.length : Nat) 1 ls.length) [some (.lst z (dL rows)), some (txD ((tw F).map sgn)), some (.bl (decide ((74 : Int) ∈ F))), o3, o4, o5] = some (match tellR ls pre.length F with
      | (some G, _) => .nx e
      | (none, n) => .rt (lineD n) e) ∧ ∀ G n, tellR ls pre.length F = (some G, n) → ∃ o3 o4 o5, e = [some (.lst z (dL rows)), some (txD ((tw G).map sgn)), some (.bl (decide ((74 : Int) ∈ G))), o3, o4, o5]
  | [], pre, F, hr, hF, o3, o4, o5 => ⟨_, rfl, fun G n h => by cases h; exact ⟨_, _, _, rfl⟩⟩
  | l :: ls, pre, F, hr, hF, o3, o4, o5 => by
    have hk : rows[pre.length]? = some l := by rw [hr]; simp
    rw [List.length_cons] at hF ⊢
    rw [rangeL_succ]
    obtain ⟨e, hb, hb2⟩ := told_two z rows hn pre.length l hk (hl l (by rw [hr]; simp)) F (by omega) o4 o5
    have hnm : nameG 3 [] (.int (pre.length : Nat)) [some (.lst z (dL rows)), some (txD ((tw F).map sgn)), some (.bl (decide ((74 : Int) ∈ F))), o3, o4, o5] = some [some (.lst z (dL rows)), some (txD ((tw F).map sgn)), some (.bl (decide ((74 : Int) ∈ F))), some (.int (pre.length : Nat)), o4, o5] := by simp [-List.map_map, seqS, ifS, skipS, exprS, asgS, setS, retS, unpS, boolT, testT, notT, andT, orT, ifT, yesT, op2E, op1E, ixE, varE, constE, callE, fnE, consA, nilA, lateA, lstE, tupE, ifE, andE, orE, notE, chainE, methE, sliceE, partO, noO, takeL, take1, taken, srcSlots, Env.get, Env.putAt, Env.cools_nil, D.put, D.imm, immL, D.cold, coldL, D.hot, hotL, Z.cold, Z.hot, Src.fresh, gAdd_int, gSub_int, gMul_int, gFdiv_int, gMod_int, gNeg_int, gLt_int, gLe_int, gGt_int, gGe_int, gIsN_eq, gNotN_eq, isNon, gInt_int, gLen_lst, gLen_tup, gTru_bl, argsD, lentOf, iosOk, putOuts, allHot, outsOf, D.frz, frzL, frost_own, frost_frz, frost_fix, nameG, consG, nilG, tupG, unlG, tyD, le_size, lt_size, gEq_eq, gNe_eq, deq_int, deq_ints, deq_three, shp_int, shp_ints, shp_three, shp_non, shp_bl, Env.wipe, Env.back, coldL_ints, hotL_ints, frzL_ints, coldL_strs, hotL_strs, frzL_strs, txD]
    unfold tellR
    cases h : lineT l ((pre.length : Int) + 1) with
    | none =>
      rw [h] at hb
      exact ⟨e, forL_ret hnm hb, fun G n h => by cases h⟩
    | some t =>
      rw [h] at hb
      by_cases hc : (74 : Int) ∈ F ∨ okT t = false
      · simp only [if_pos hc] at hb ⊢
        exact ⟨e, forL_ret hnm hb, fun G n h => by cases h⟩
      · simp only [if_neg hc] at hb ⊢
        obtain ⟨p4, p5, rfl⟩ := hb2 t h hc
        have ht := lineT_len h
        obtain ⟨e', h1, h2⟩ := told_loop z rows hn hl ls (pre ++ [l]) (F ++ t) (by simp [hr]) (by rw [List.length_append]; omega) (some (.int (pre.length : Nat))) p4 p5
        rw [List.length_append, List.length_singleton] at h1 h2
        refine ⟨e', ?_, h2⟩
        rw [forL_nx hnm hb, show (pre.length : Int) + 1 = ((pre.length + 1 : Nat) : Int) by omega, h1]
theorem law_told_ok (z : Z) (rows : List (List Nat)) (hn : rows.length ≤ 100) (hl : ∀ l ∈ rows, l.length ≤ 1000) : f_law_told [.lst z (dL rows)] = some (tell rows 0 [], []) := by
  obtain ⟨e, h, hG⟩ := told_loop z rows hn hl rows [] [] rfl (by simp; omega) none none none
  have hs : small62 (rows.length : Int) = true := small62_of (by omega)
  rw [show tw [] = [] from rfl, List.map_nil, show decide ((74 : Int) ∈ ([] : List Int)) = false from rfl, List.length_nil, show ((0 : Nat) : Int) = 0 from rfl] at h
  have he : txD [] = .str (Str.ofString "") := by rw [emp]; rfl
  rw [he] at h
  rw [tell_R]
  unfold f_law_told runF m_law_told l_law_told_2 forS range1I
  cases hr : tellR rows 0 [] with
  | mk o n =>
    rw [hr] at h
    cases o with
    | none =>
      dsimp only at h ⊢
      simp [-List.map_map, seqS, ifS, skipS, exprS, asgS, setS, retS, unpS, boolT, testT, notT, andT, orT, ifT, yesT, op2E, op1E, ixE, varE, constE, callE, fnE, consA, nilA, lateA, lstE, tupE, ifE, andE, orE, notE, chainE, methE, sliceE, partO, noO, takeL, take1, taken, srcSlots, Env.get, Env.putAt, Env.cools_nil, D.put, D.imm, immL, D.cold, coldL, D.hot, hotL, Z.cold, Z.hot, Src.fresh, gAdd_int, gSub_int, gMul_int, gFdiv_int, gMod_int, gNeg_int, gLt_int, gLe_int, gGt_int, gGe_int, gIsN_eq, gNotN_eq, isNon, gInt_int, gLen_lst, gLen_tup, gTru_bl, argsD, lentOf, iosOk, putOuts, allHot, outsOf, D.frz, frzL, frost_own, frost_frz, frost_fix, nameG, consG, nilG, tupG, unlG, tyD, le_size, lt_size, gEq_eq, gNe_eq, deq_int, deq_ints, deq_three, shp_int, shp_ints, shp_three, shp_non, shp_bl, Env.wipe, Env.back, coldL_ints, hotL_ints, frzL_ints, coldL_strs, hotL_strs, frzL_strs, hs, h]
    | some G =>
      dsimp only at h ⊢
      rw [List.length_nil] at hG
      obtain ⟨o3, o4, o5, rfl⟩ := hG G n hr
      have hn' := tellR_n _ _ _ _ _ hr
      by_cases hm : (74 : Int) ∈ G
      · rw [if_pos hm]
        rw [decide_eq_true hm] at h
        simp [-List.map_map, seqS, ifS, skipS, exprS, asgS, setS, retS, unpS, boolT, testT, notT, andT, orT, ifT, yesT, op2E, op1E, ixE, varE, constE, callE, fnE, consA, nilA, lateA, lstE, tupE, ifE, andE, orE, notE, chainE, methE, sliceE, partO, noO, takeL, take1, taken, srcSlots, Env.get, Env.putAt, Env.cools_nil, D.put, D.imm, immL, D.cold, coldL, D.hot, hotL, Z.cold, Z.hot, Src.fresh, gAdd_int, gSub_int, gMul_int, gFdiv_int, gMod_int, gNeg_int, gLt_int, gLe_int, gGt_int, gGe_int, gIsN_eq, gNotN_eq, isNon, gInt_int, gLen_lst, gLen_tup, gTru_bl, argsD, lentOf, iosOk, putOuts, allHot, outsOf, D.frz, frzL, frost_own, frost_frz, frost_fix, nameG, consG, nilG, tupG, unlG, tyD, le_size, lt_size, gEq_eq, gNe_eq, deq_int, deq_ints, deq_three, shp_int, shp_ints, shp_three, shp_non, shp_bl, Env.wipe, Env.back, coldL_ints, hotL_ints, frzL_ints, coldL_strs, hotL_strs, frzL_strs, hs, h, hm, txD, textD]
      · rw [if_neg hm]
        rw [decide_eq_false hm] at h
        simp [-List.map_map, seqS, ifS, skipS, exprS, asgS, setS, retS, unpS, boolT, testT, notT, andT, orT, ifT, yesT, op2E, op1E, ixE, varE, constE, callE, fnE, consA, nilA, lateA, lstE, tupE, ifE, andE, orE, notE, chainE, methE, sliceE, partO, noO, takeL, take1, taken, srcSlots, Env.get, Env.putAt, Env.cools_nil, D.put, D.imm, immL, D.cold, coldL, D.hot, hotL, Z.cold, Z.hot, Src.fresh, gAdd_int, gSub_int, gMul_int, gFdiv_int, gMod_int, gNeg_int, gLt_int, gLe_int, gGt_int, gGe_int, gIsN_eq, gNotN_eq, isNon, gInt_int, gLen_lst, gLen_tup, gTru_bl, argsD, lentOf, iosOk, putOuts, allHot, outsOf, D.frz, frzL, frost_own, frost_frz, frost_fix, nameG, consG, nilG, tupG, unlG, tyD, le_size, lt_size, gEq_eq, gNe_eq, deq_int, deq_ints, deq_three, shp_int, shp_ints, shp_three, shp_non, shp_bl, Env.wipe, Env.back, coldL_ints, hotL_ints, frzL_ints, coldL_strs, hotL_strs, frzL_strs, hs, h, hm, txD, lineD, hn']
theorem tell_form : ∀ rows k F, (∃ n, tell rows k F = lineD n) ∨ ∃ G, tell rows k F = textD G
  | [], k, F => by
    unfold tell
    by_cases h : (74 : Int) ∈ F
    · rw [if_pos h]; exact .inr ⟨_, rfl⟩
    · rw [if_neg h]; exact .inl ⟨_, rfl⟩
  | l :: ls, k, F => by
    unfold tell
    cases lineT l ((k : Int) + 1) with
    | none => exact .inl ⟨_, rfl⟩
    | some t =>
      dsimp only
      by_cases h : (74 : Int) ∈ F ∨ okT t = false
      · rw [if_pos h]; exact .inl ⟨_, rfl⟩
      · rw [if_neg h]; exact tell_form ls _ _
theorem sgn_lt (x : Int) : sgn x < 1114112 := by
  unfold sgn
  rw [List.getD_eq_getElem?_getD]
  cases h : sg[(x - 1).toNat]? with
  | none => simp
  | some y =>
    have : ∀ y ∈ sg, y < 1114112 := by decide
    exact this y (List.mem_of_getElem? h)
theorem strOk_S {l : List Nat} (h : ∀ c ∈ l, c < 1114112) : PyData.strOk (S l) = true := by
  unfold PyData.strOk
  rw [← Array.all_toList]
  exact List.all_eq_true.mpr fun c hc => decide_eq_true (h c hc)
theorem tell_shp (rows k F) : shp (tell rows k F) = true ∧ deq (tell rows k F) (tell rows k F) = true := by
  have hl : PyData.strOk (Str.ofString "line") = true := by
    rw [show Str.ofString "line" = S [108, 105, 110, 101] from by decide]
    exact strOk_S (by decide)
  have ht : PyData.strOk (Str.ofString "text") = true := by
    rw [show Str.ofString "text" = S [116, 101, 120, 116] from by decide]
    exact strOk_S (by decide)
  rcases tell_form rows k F with ⟨n, h⟩ | ⟨G, h⟩
  · rw [h]
    exact ⟨shp_strint _ hl, by simp [deq, lineD, D.py, pyL, PyData.eqv, PyData.eqvAll]⟩
  · rw [h]
    refine ⟨shp_strstr ht (strOk_S fun c hc => ?_), by simp [deq, textD, D.py, pyL, PyData.eqv, PyData.eqvAll]⟩
    obtain ⟨x, _, rfl⟩ := List.mem_map.mp hc
    exact sgn_lt x
end KL

set_option Elab.async false
set_option linter.all false
set_option maxRecDepth 100000
set_option maxHeartbeats 4000000
namespace KL
open PySem VC KN
/-! ### a text's lines -/
theorem occ_sg : ∀ c ∈ sg, Builtin.Str.occurrences (S sg) (S [c]) 0 (S sg).length 1 = [sg.idxOf c] := by decide +kernel
theorem idx_lt : ∀ c ∈ sg, sg.idxOf c < 73 := by decide +kernel
theorem gSIndex_sg (c : Nat) (h : c ∈ sg) : gSIndex (.str (S sg)) [.str (S [c])] = some (.int (sg.idxOf c : Nat)) := by
  unfold gSIndex
  simp only [occ_sg c h]
def cd (c : Nat) : Int := (sg.idxOf c : Nat) + 1
def codes (T : List Nat) : List Int := T.map cd ++ [74]
theorem codes_rng (T : List Nat) (h : ∀ c ∈ T, c ∈ sg) : ∀ x ∈ codes T, 0 ≤ x ∧ x < 97 := by
  intro x hx
  unfold codes at hx
  rcases List.mem_append.mp hx with hx | hx
  · obtain ⟨c, hc, rfl⟩ := List.mem_map.mp hx
    have := idx_lt c (h c hc)
    unfold cd
    omega
  · simp at hx; omega
theorem codes_len (T : List Nat) : (codes T).length = T.length + 1 := by simp [codes]
def gCd : D → D
  | .str s => .int (cd (s.cps.toList.headD 0))
  | d => d
theorem comp_codes_p (T : List Nat) (h : ∀ c ∈ T, c ∈ sg) : compL [3] [] (nameG 3 []) yesT ce_lines_of_2 (chars T) [some (.str (S T)), none, none, none, none] = some (dI (T.map cd), [some (.str (S T)), none, none, none, none]) := by
  rw [compL_map gCd]
  · refine congrArg (fun x => some (x, _)) ?_
    unfold chars
    simp only [List.map_map]
    rfl
  · intro d hd
    obtain ⟨c, hc, rfl⟩ := List.mem_map.mp hd
    refine ⟨[some (.str (S T)), none, none, some (.str (S [c])), none], by simp [-List.map_map, seqS, ifS, skipS, exprS, asgS, setS, retS, unpS, boolT, testT, notT, andT, orT, ifT, yesT, op2E, op1E, ixE, varE, constE, callE, fnE, consA, nilA, lateA, lstE, tupE, ifE, andE, orE, notE, chainE, methE, sliceE, partO, noO, takeL, take1, taken, srcSlots, Env.get, Env.putAt, Env.cools_nil, D.put, D.imm, immL, D.cold, coldL, D.hot, hotL, Z.cold, Z.hot, Src.fresh, gAdd_int, gSub_int, gMul_int, gFdiv_int, gMod_int, gNeg_int, gLt_int, gLe_int, gGt_int, gGe_int, gIsN_eq, gNotN_eq, isNon, gInt_int, gLen_lst, gLen_tup, gTru_bl, argsD, lentOf, iosOk, putOuts, allHot, outsOf, D.frz, frzL, frost_own, frost_frz, frost_fix, nameG, consG, nilG, tupG, unlG, tyD, le_size, lt_size, gEq_eq, gNe_eq, deq_int, deq_ints, deq_three, shp_int, shp_ints, shp_three, shp_non, shp_bl, Env.wipe, Env.back, coldL_ints, hotL_ints, frzL_ints, coldL_strs, hotL_strs, frzL_strs], ?_, by simp [Env.wipe]⟩
    unfold ce_lines_of_2
    rw [signs_eq]
    have e1 := gSIndex_sg c (h c hc)
    simp [-List.map_map, seqS, ifS, skipS, exprS, asgS, setS, retS, unpS, boolT, testT, notT, andT, orT, ifT, yesT, op2E, op1E, ixE, varE, constE, callE, fnE, consA, nilA, lateA, lstE, tupE, ifE, andE, orE, notE, chainE, methE, sliceE, partO, noO, takeL, take1, taken, srcSlots, Env.get, Env.putAt, Env.cools_nil, D.put, D.imm, immL, D.cold, coldL, D.hot, hotL, Z.cold, Z.hot, Src.fresh, gAdd_int, gSub_int, gMul_int, gFdiv_int, gMod_int, gNeg_int, gLt_int, gLe_int, gGt_int, gGe_int, gIsN_eq, gNotN_eq, isNon, gInt_int, gLen_lst, gLen_tup, gTru_bl, argsD, lentOf, iosOk, putOuts, allHot, outsOf, D.frz, frzL, frost_own, frost_frz, frost_fix, nameG, consG, nilG, tupG, unlG, tyD, le_size, lt_size, gEq_eq, gNe_eq, deq_int, deq_ints, deq_three, shp_int, shp_ints, shp_three, shp_non, shp_bl, Env.wipe, Env.back, coldL_ints, hotL_ints, frzL_ints, coldL_strs, hotL_strs, frzL_strs, e1, gCd, cd]
theorem comp_codes_l (T : List Nat) (h : ∀ c ∈ T, c ∈ sg) : compL [5] [] (nameG 5 []) yesT ce_law_text_lines_1 (chars T) [some (.str (S T)), none, none, none, none, none] = some (dI (T.map cd), [some (.str (S T)), none, none, none, none, none]) := by
  rw [compL_map gCd]
  · refine congrArg (fun x => some (x, _)) ?_
    unfold chars
    simp only [List.map_map]
    rfl
  · intro d hd
    obtain ⟨c, hc, rfl⟩ := List.mem_map.mp hd
    refine ⟨[some (.str (S T)), none, none, none, none, some (.str (S [c]))], by simp [-List.map_map, seqS, ifS, skipS, exprS, asgS, setS, retS, unpS, boolT, testT, notT, andT, orT, ifT, yesT, op2E, op1E, ixE, varE, constE, callE, fnE, consA, nilA, lateA, lstE, tupE, ifE, andE, orE, notE, chainE, methE, sliceE, partO, noO, takeL, take1, taken, srcSlots, Env.get, Env.putAt, Env.cools_nil, D.put, D.imm, immL, D.cold, coldL, D.hot, hotL, Z.cold, Z.hot, Src.fresh, gAdd_int, gSub_int, gMul_int, gFdiv_int, gMod_int, gNeg_int, gLt_int, gLe_int, gGt_int, gGe_int, gIsN_eq, gNotN_eq, isNon, gInt_int, gLen_lst, gLen_tup, gTru_bl, argsD, lentOf, iosOk, putOuts, allHot, outsOf, D.frz, frzL, frost_own, frost_frz, frost_fix, nameG, consG, nilG, tupG, unlG, tyD, le_size, lt_size, gEq_eq, gNe_eq, deq_int, deq_ints, deq_three, shp_int, shp_ints, shp_three, shp_non, shp_bl, Env.wipe, Env.back, coldL_ints, hotL_ints, frzL_ints, coldL_strs, hotL_strs, frzL_strs], ?_, by simp [Env.wipe]⟩
    unfold ce_law_text_lines_1
    have e1 := gSIndex_sg c (h c hc)
    simp [-List.map_map, seqS, ifS, skipS, exprS, asgS, setS, retS, unpS, boolT, testT, notT, andT, orT, ifT, yesT, op2E, op1E, ixE, varE, constE, callE, fnE, consA, nilA, lateA, lstE, tupE, ifE, andE, orE, notE, chainE, methE, sliceE, partO, noO, takeL, take1, taken, srcSlots, Env.get, Env.putAt, Env.cools_nil, D.put, D.imm, immL, D.cold, coldL, D.hot, hotL, Z.cold, Z.hot, Src.fresh, gAdd_int, gSub_int, gMul_int, gFdiv_int, gMod_int, gNeg_int, gLt_int, gLe_int, gGt_int, gGe_int, gIsN_eq, gNotN_eq, isNon, gInt_int, gLen_lst, gLen_tup, gTru_bl, argsD, lentOf, iosOk, putOuts, allHot, outsOf, D.frz, frzL, frost_own, frost_frz, frost_fix, nameG, consG, nilG, tupG, unlG, tyD, le_size, lt_size, gEq_eq, gNe_eq, deq_int, deq_ints, deq_three, shp_int, shp_ints, shp_three, shp_non, shp_bl, Env.wipe, Env.back, coldL_ints, hotL_ints, frzL_ints, coldL_strs, hotL_strs, frzL_strs, e1, gCd, cd, law_signs_ok]
def cnt (T : List Nat) : Nat := ((codes T).length + 54) / 55
def pad (xs : List Int) (n : Nat) : List Int := xs ++ List.replicate (n - xs.length) 0
def chunk (T : List Nat) (i : Nat) : List Int := pad (((codes T).drop (i * 55)).take 55) 55
def linesL (T : List Nat) : List (List Int) := (List.range (cnt T)).map fun (i : Nat) => lineOf ((i : Int) + 1) (chunk T i)
theorem chunk_len (T : List Nat) (i : Nat) : (chunk T i).length = 55 := by
  unfold chunk pad
  rw [List.length_append, List.length_replicate]
  have : (((codes T).drop (i * 55)).take 55).length ≤ 55 := by rw [List.length_take]; omega
  omega
theorem pad_chunk (T : List Nat) (i : Nat) (h : i < cnt T) : ((pad (codes T) (cnt T * 55)).drop (i * 55)).take 55 = chunk T i := by
  unfold chunk pad
  have hb : i * 55 < (codes T).length := by unfold cnt at h; omega
  have hc : (codes T).length ≤ cnt T * 55 := by unfold cnt; omega
  apply List.ext_getElem?
  intro j
  rw [List.getElem?_take, List.getElem?_drop]
  by_cases hj : j < 55
  · rw [if_pos hj]
    by_cases h1 : i * 55 + j < (codes T).length
    · rw [List.getElem?_append_left h1, List.getElem?_append_left (by rw [List.length_take, List.length_drop]; omega), List.getElem?_take, if_pos hj, List.getElem?_drop]
    · rw [List.getElem?_append_right (by omega), List.getElem?_append_right (by rw [List.length_take, List.length_drop]; omega), List.getElem?_replicate, List.getElem?_replicate, List.length_take, List.length_drop, if_pos (by unfold cnt at h ⊢; omega), if_pos (by omega)]
  · rw [if_neg hj]
    symm
    rw [List.getElem?_eq_none]
    rw [List.length_append, List.length_replicate, List.length_take]
    omega
theorem lineOf_rng {n : Int} {s : List Int} (hn : 0 ≤ n ∧ n < 9409) (hs : ∀ x ∈ s, 0 ≤ x ∧ x < 97) : ∀ x ∈ lineOf n s, 0 ≤ x ∧ x < 97 := by
  intro x hx
  unfold lineOf told at hx
  have hm : ∀ y : Int, 0 ≤ y % 97 ∧ y % 97 < 97 := fun y => ⟨Int.emod_nonneg _ (by decide), Int.emod_lt_of_pos _ (by decide)⟩
  rcases List.mem_append.mp hx with hx | hx
  · rcases List.mem_cons.mp hx with rfl | hx
    · omega
    · rcases List.mem_cons.mp hx with rfl | hx
      · exact hm _
      · exact hs x hx
  · simp only [List.mem_cons, List.not_mem_nil, or_false] at hx
    rcases hx with rfl | rfl | rfl
    · exact hm _
    · exact hm _
    · exact hm _
theorem lineOf_len (n : Int) (s : List Int) : (lineOf n s).length = s.length + 5 := by
  unfold lineOf told; simp
theorem chunk_rng (T : List Nat) (h : ∀ c ∈ T, c ∈ sg) (i : Nat) : ∀ x ∈ chunk T i, 0 ≤ x ∧ x < 97 := by
  intro x hx
  unfold chunk pad at hx
  rcases List.mem_append.mp hx with hx | hx
  · exact codes_rng T h x (List.mem_of_mem_drop (List.mem_of_mem_take hx))
  · rw [List.mem_replicate] at hx; omega
theorem linesL_rng (T : List Nat) (h : ∀ c ∈ T, c ∈ sg) (hT : T.length ≤ 1000) : ∀ l ∈ linesL T, l.length = 60 ∧ ∀ x ∈ l, 0 ≤ x ∧ x < 97 := by
  intro l hl
  unfold linesL at hl
  obtain ⟨i, hi, rfl⟩ := List.mem_map.mp hl
  have hi' := List.mem_range.mp hi
  have hc := codes_len T
  refine ⟨by rw [lineOf_len, chunk_len], lineOf_rng (by unfold cnt at hi'; omega) (chunk_rng T h i)⟩
theorem mul_rep (z : Z) (hz : z ≠ .fix) (k : Int) (h : 0 ≤ k ∧ k ≤ 1000) : gMul (.lst z [.int 0]) (.int k) = some (.lst .own (dI (List.replicate k.toNat 0))) := by
  rw [gMul_lst _ _ _ hz rfl (grd_iff.mpr ⟨by omega, by omega⟩) (le_sz (by simp; omega)), repL_ints]
theorem lines_of_ok (T : List Nat) (h : ∀ c ∈ T, c ∈ sg) (hT : T.length ≤ 1000) : f_lines_of [.str (S T)] = some (.lst .own (dL ((linesL T).map twos)), []) := by
  have hk := comp_codes_p T h
  have hks : List.map (fun c => D.str { cps := #[c] }) T = chars T := rfl
  have hkl : ((chars T).length < sizeLine) = True := lt_size (by unfold chars; simp; omega)
  have e1 : gAdd (.lst .own (dI (T.map cd))) (.lst .own [.int 74]) = some (.lst .own (dI (codes T))) := add1 74 (T.map cd) (by decide) (by simp; omega)
  have hlen := codes_len T
  have e2 : (-((-(((codes T).length : Nat) : Int)).fdiv 55)) = ((cnt T : Nat) : Int) := by
    rw [fdiv_pos _ (by omega)]; unfold cnt; omega
  have e2' : ((-(((codes T).length : Nat) : Int)).fdiv 55) = -((cnt T : Nat) : Int) := by omega
  have hcnt : cnt T ≤ 19 := by unfold cnt; omega
  have e3 := mul_rep .own (by decide) ((cnt T : Int) * 55 - ((codes T).length : Int)) (by unfold cnt; omega)
  have e3' : ((cnt T : Int) * 55 - ((codes T).length : Int)).toNat = cnt T * 55 - (codes T).length := by omega
  rw [e3'] at e3
  have e4 := addL (z := .own) (y := .own) (codes T) (List.replicate (cnt T * 55 - (codes T).length) 0) (by decide) (by decide) (by rw [List.length_replicate]; omega)
  rw [show codes T ++ List.replicate (cnt T * 55 - (codes T).length) 0 = pad (codes T) (cnt T * 55) from rfl] at e4
  have q1 : small62 (cnt T : Int) = true := small62_of (by omega)
  have q2 : small64 55 = true := small64_of (by omega)
  have hk2 : ∀ P : List Int, P = pad (codes T) (cnt T * 55) → compL [4] [] (nameG 4 []) yesT ce_lines_of_1 (rangeL 0 1 (cnt T)) [some (.str (S T)), some (.lst .own (dI P)), some (.int (cnt T : Nat)), none, none] = some (dL ((linesL T).map twos), [some (.str (S T)), some (.lst .own (dI P)), some (.int (cnt T : Nat)), none, none]) := by
    intro P hP
    rw [compL_map (fun d => match d with | .int x => .str (S (twos (lineOf (x + 1) (chunk T x.toNat)))) | d => d)]
    · refine congrArg (fun x => some (x, _)) ?_
      unfold rangeL linesL
      simp only [List.map_map]
      apply List.map_congr_left
      intro i hi
      simp
    · intro d hd
      unfold rangeL at hd
      obtain ⟨i, hi, rfl⟩ := List.mem_map.mp hd
      have hi2 := List.mem_range.mp hi
      rw [show (0 : Int) + (i : Int) * 1 = (i : Int) by omega]
      refine ⟨[some (.str (S T)), some (.lst .own (dI P)), some (.int (cnt T : Nat)), none, some (.int (i : Nat))], by simp [-List.map_map, seqS, ifS, skipS, exprS, asgS, setS, retS, unpS, boolT, testT, notT, andT, orT, ifT, yesT, op2E, op1E, ixE, varE, constE, callE, fnE, consA, nilA, lateA, lstE, tupE, ifE, andE, orE, notE, chainE, methE, sliceE, partO, noO, takeL, take1, taken, srcSlots, Env.get, Env.putAt, Env.cools_nil, D.put, D.imm, immL, D.cold, coldL, D.hot, hotL, Z.cold, Z.hot, Src.fresh, gAdd_int, gSub_int, gMul_int, gFdiv_int, gMod_int, gNeg_int, gLt_int, gLe_int, gGt_int, gGe_int, gIsN_eq, gNotN_eq, isNon, gInt_int, gLen_lst, gLen_tup, gTru_bl, argsD, lentOf, iosOk, putOuts, allHot, outsOf, D.frz, frzL, frost_own, frost_frz, frost_fix, nameG, consG, nilG, tupG, unlG, tyD, le_size, lt_size, gEq_eq, gNe_eq, deq_int, deq_ints, deq_three, shp_int, shp_ints, shp_three, shp_non, shp_bl, Env.wipe, Env.back, coldL_ints, hotL_ints, frzL_ints, coldL_strs, hotL_strs, frzL_strs], ?_, by simp [Env.wipe]⟩
      have f1 := sl_mid (z := .own) (xs := P) (i := (i : Int) * 55) (k := ((i : Int) + 1) * 55) (by omega)
      rw [show ((i : Int) * 55).toNat = i * 55 by omega, show (((i : Int) + 1) * 55 - (i : Int) * 55).toNat = 55 by omega, hP, pad_chunk T i hi2, ← hP] at f1
      have f2 := line_of_ok .frz (by decide) ((i : Int) + 1) (chunk T i) (by rw [chunk_len]; omega)
      have f3 := written_ok .frz (lineOf ((i : Int) + 1) (chunk T i)) (by rw [lineOf_len, chunk_len]; omega) (lineOf_rng (by omega) (chunk_rng T h i))
      generalize hL : lineOf ((i : Int) + 1) (chunk T i) = L at *
      unfold ce_lines_of_1
      simp [-List.map_map, seqS, ifS, skipS, exprS, asgS, setS, retS, unpS, boolT, testT, notT, andT, orT, ifT, yesT, op2E, op1E, ixE, varE, constE, callE, fnE, consA, nilA, lateA, lstE, tupE, ifE, andE, orE, notE, chainE, methE, sliceE, partO, noO, takeL, take1, taken, srcSlots, Env.get, Env.putAt, Env.cools_nil, D.put, D.imm, immL, D.cold, coldL, D.hot, hotL, Z.cold, Z.hot, Src.fresh, gAdd_int, gSub_int, gMul_int, gFdiv_int, gMod_int, gNeg_int, gLt_int, gLe_int, gGt_int, gGe_int, gIsN_eq, gNotN_eq, isNon, gInt_int, gLen_lst, gLen_tup, gTru_bl, argsD, lentOf, iosOk, putOuts, allHot, outsOf, D.frz, frzL, frost_own, frost_frz, frost_fix, nameG, consG, nilG, tupG, unlG, tyD, le_size, lt_size, gEq_eq, gNe_eq, deq_int, deq_ints, deq_three, shp_int, shp_ints, shp_three, shp_non, shp_bl, Env.wipe, Env.back, coldL_ints, hotL_ints, frzL_ints, coldL_strs, hotL_strs, frzL_strs, f1, f2, f3, q2, hL]
  have hk3 := hk2 _ rfl
  have hcl : (cnt T < sizeLine) = True := lt_size (by omega)
  generalize hP : pad (codes T) (cnt T * 55) = P at *
  generalize hC : codes T = C at *
  generalize List.replicate (cnt T * 55 - C.length) (0 : Int) = R at *
  unfold f_lines_of runF m_lines_of c_lines_of_2 c_lines_of_1 compE seqI range1I
  simp [-List.map_map, seqS, ifS, skipS, exprS, asgS, setS, retS, unpS, boolT, testT, notT, andT, orT, ifT, yesT, op2E, op1E, ixE, varE, constE, callE, fnE, consA, nilA, lateA, lstE, tupE, ifE, andE, orE, notE, chainE, methE, sliceE, partO, noO, takeL, take1, taken, srcSlots, Env.get, Env.putAt, Env.cools_nil, D.put, D.imm, immL, D.cold, coldL, D.hot, hotL, Z.cold, Z.hot, Src.fresh, gAdd_int, gSub_int, gMul_int, gFdiv_int, gMod_int, gNeg_int, gLt_int, gLe_int, gGt_int, gGe_int, gIsN_eq, gNotN_eq, isNon, gInt_int, gLen_lst, gLen_tup, gTru_bl, argsD, lentOf, iosOk, putOuts, allHot, outsOf, D.frz, frzL, frost_own, frost_frz, frost_fix, nameG, consG, nilG, tupG, unlG, tyD, le_size, lt_size, gEq_eq, gNe_eq, deq_int, deq_ints, deq_three, shp_int, shp_ints, shp_three, shp_non, shp_bl, Env.wipe, Env.back, coldL_ints, hotL_ints, frzL_ints, coldL_strs, hotL_strs, frzL_strs, hks, hk, hkl, e1, e2, e2', e3, e4, q1, q2, hk3, rangeL_length, hcl]
def lD (ls : List (List Int)) : List D := ls.map fun l => .lst .own (dI l)
theorem law_tl_body (T : List Nat) (h : ∀ c ∈ T, c ∈ sg) (hT : T.length ≤ 1000) (lo : Nat) (hlo : lo < cnt T) (ls : List (List Int)) (hls : ls.length ≤ 1000) (o4 : Option D) :
    b_law_text_lines_1 [some (.str (S T)), some (.lst .own (dI (codes T))), some (.lst .own (lD ls)), some (.int ((lo : Int) * 55)), o4, none] =
      some (.nx [some (.str (S T)), some (.lst .own (dI (codes T))), some (.lst .own (lD (ls ++ [lineOf ((lo : Int) + 1) (chunk T lo)]))), some (.int ((lo : Int) * 55)), some (.lst .own (dI (((codes T).drop (lo * 55)).take 55))), none]) := by
  have f1 := sl_mid (z := .own) (xs := codes T) (i := (lo : Int) * 55) (k := (lo : Int) * 55 + 55) (by omega)
  rw [show ((lo : Int) * 55).toNat = lo * 55 by omega, show ((lo : Int) * 55 + 55 - (lo : Int) * 55).toNat = 55 by omega] at f1
  have hm : (((codes T).drop (lo * 55)).take 55).length ≤ 55 := by rw [List.length_take]; omega
  have hch : (((codes T).drop (lo * 55)).take 55) ++ List.replicate (55 - (((codes T).drop (lo * 55)).take 55).length) 0 = chunk T lo := rfl
  generalize (((codes T).drop (lo * 55)).take 55) = m at *
  have f2 := mul_rep .own (by decide) (55 - (m.length : Int)) (by omega)
  rw [show (55 - (m.length : Int)).toNat = 55 - m.length by omega] at f2
  have f3 := addL (z := .own) (y := .own) m (List.replicate (55 - m.length) 0) (by decide) (by decide) (by rw [List.length_replicate]; omega)
  rw [hch] at f3
  have f4 := law_line_ok .frz (by decide) ((lo : Int) + 1) (chunk T lo) (chunk_len T lo)
  have f5 : ((lo : Int) * 55).fdiv 55 = lo := by rw [fdiv_pos _ (by omega)]; omega
  have f6 : ((lD ls).length < sizeLine) = True := lt_size (by unfold lD; rw [List.length_map]; omega)
  have f7 : lD (ls ++ [lineOf ((lo : Int) + 1) (chunk T lo)]) = lD ls ++ [.lst .own (dI (lineOf ((lo : Int) + 1) (chunk T lo)))] := by unfold lD; simp
  rw [f7]
  generalize List.replicate (55 - m.length) (0 : Int) = R at *
  generalize lineOf ((lo : Int) + 1) (chunk T lo) = L at *
  generalize lD ls = LL at *
  generalize chunk T lo = CH at *
  unfold b_law_text_lines_1 appE
  simp [-List.map_map, seqS, ifS, skipS, exprS, asgS, setS, retS, unpS, boolT, testT, notT, andT, orT, ifT, yesT, op2E, op1E, ixE, varE, constE, callE, fnE, consA, nilA, lateA, lstE, tupE, ifE, andE, orE, notE, chainE, methE, sliceE, partO, noO, takeL, take1, taken, srcSlots, Env.get, Env.putAt, Env.cools_nil, D.put, D.imm, immL, D.cold, coldL, D.hot, hotL, Z.cold, Z.hot, Src.fresh, gAdd_int, gSub_int, gMul_int, gFdiv_int, gMod_int, gNeg_int, gLt_int, gLe_int, gGt_int, gGe_int, gIsN_eq, gNotN_eq, isNon, gInt_int, gLen_lst, gLen_tup, gTru_bl, argsD, lentOf, iosOk, putOuts, allHot, outsOf, D.frz, frzL, frost_own, frost_frz, frost_fix, nameG, consG, nilG, tupG, unlG, tyD, le_size, lt_size, gEq_eq, gNe_eq, deq_int, deq_ints, deq_three, shp_int, shp_ints, shp_three, shp_non, shp_bl, Env.wipe, Env.back, coldL_ints, hotL_ints, frzL_ints, coldL_strs, hotL_strs, frzL_strs, f1, f2, f3, f4, f5, f6]
/-- the law's loop -/
theorem law_tl_loop (T : List Nat) (h : ∀ c ∈ T, c ∈ sg) (hT : T.length ≤ 1000) : ∀ (n lo : Nat), lo + n = cnt T → ∀ (o3 o4 : Option D), ∃ o3' o4',
    forL (nameG 3 []) b_law_text_lines_1 (rangeL ((lo : Int) * 55) 55 n) [some (.str (S T)), some (.lst .own (dI (codes T))), some (.lst .own (lD ((linesL T).take lo))), o3, o4, none] = some (.nx [some (.str (S T)), some (.lst .own (dI (codes T))), some (.lst .own (lD (linesL T))), o3', o4', none])
  | 0, lo, hlo, o3, o4 => ⟨o3, o4, by
      rw [rangeL_zero]
      have hl : (linesL T).length = cnt T := by unfold linesL; simp
      rw [List.take_of_length_le (by omega)]
      rfl⟩
  | n + 1, lo, hlo, o3, o4 => by
    have hc := codes_len T
    have hcnt : cnt T ≤ 19 := by unfold cnt; omega
    have hb := law_tl_body T h hT lo (by omega) ((linesL T).take lo) (by rw [List.length_take]; omega) o4
    have hnx : (linesL T).take lo ++ [lineOf ((lo : Int) + 1) (chunk T lo)] = (linesL T).take (lo + 1) := by
      rw [List.take_succ]
      have : (linesL T)[lo]? = some (lineOf ((lo : Int) + 1) (chunk T lo)) := by
        unfold linesL
        rw [List.getElem?_map, List.getElem?_range (by omega)]; rfl
      rw [this]; rfl
    rw [hnx] at hb
    obtain ⟨o3', o4', ih⟩ := law_tl_loop T h hT n (lo + 1) (by omega) (some (.int ((lo : Int) * 55))) (some (.lst .own (dI (((codes T).drop (lo * 55)).take 55))))
    refine ⟨o3', o4', ?_⟩
    have hnm : nameG 3 [] (.int ((lo : Int) * 55)) [some (.str (S T)), some (.lst .own (dI (codes T))), some (.lst .own (lD ((linesL T).take lo))), o3, o4, none] = some [some (.str (S T)), some (.lst .own (dI (codes T))), some (.lst .own (lD ((linesL T).take lo))), some (.int ((lo : Int) * 55)), o4, none] := by simp [-List.map_map, seqS, ifS, skipS, exprS, asgS, setS, retS, unpS, boolT, testT, notT, andT, orT, ifT, yesT, op2E, op1E, ixE, varE, constE, callE, fnE, consA, nilA, lateA, lstE, tupE, ifE, andE, orE, notE, chainE, methE, sliceE, partO, noO, takeL, take1, taken, srcSlots, Env.get, Env.putAt, Env.cools_nil, D.put, D.imm, immL, D.cold, coldL, D.hot, hotL, Z.cold, Z.hot, Src.fresh, gAdd_int, gSub_int, gMul_int, gFdiv_int, gMod_int, gNeg_int, gLt_int, gLe_int, gGt_int, gGe_int, gIsN_eq, gNotN_eq, isNon, gInt_int, gLen_lst, gLen_tup, gTru_bl, argsD, lentOf, iosOk, putOuts, allHot, outsOf, D.frz, frzL, frost_own, frost_frz, frost_fix, nameG, consG, nilG, tupG, unlG, tyD, le_size, lt_size, gEq_eq, gNe_eq, deq_int, deq_ints, deq_three, shp_int, shp_ints, shp_three, shp_non, shp_bl, Env.wipe, Env.back, coldL_ints, hotL_ints, frzL_ints, coldL_strs, hotL_strs, frzL_strs]
    rw [rangeL_succ, forL_nx hnm hb, show (lo : Int) * 55 + 55 = ((lo + 1 : Nat) : Int) * 55 by omega]
    exact ih
theorem range55 (n : Nat) (h : 0 < n ∧ n ≤ 100000) : (Builtin.Range.rangeSize 0 (n : Int) 55) = ((n + 54) / 55 : Nat) ∧ Builtin.Range.small 0 (n : Int) 55 = true := by
  have h1 : (Builtin.Range.rangeSize 0 (n : Int) 55) = ((n + 54) / 55 : Nat) := by
    unfold Builtin.Range.rangeSize
    rw [if_pos (by omega), if_pos (by omega)]
    omega
  refine ⟨h1, ?_⟩
  unfold Builtin.Range.small
  rw [h1]
  unfold Builtin.Range.rangeFitsLong
  simp
  omega
theorem law_text_lines_ok (T : List Nat) (h : ∀ c ∈ T, c ∈ sg) (hT : T.length ≤ 1000) : f_law_text_lines [.str (S T)] = some (.lst .own (lD (linesL T)), []) := by
  have hk := comp_codes_l T h
  have hks : List.map (fun c => D.str { cps := #[c] }) T = chars T := rfl
  have hkl : ((chars T).length < sizeLine) = True := lt_size (by unfold chars; simp; omega)
  have e1 : gAdd (.lst .own (dI (T.map cd))) (.lst .own [.int 74]) = some (.lst .own (dI (codes T))) := add1 74 (T.map cd) (by decide) (by simp; omega)
  have hlen := codes_len T
  obtain ⟨r1, r2⟩ := range55 (codes T).length (by omega)
  have hg : grd (Builtin.Range.small 0 ((codes T).length : Int) 55 = true ∧ 0 ≤ Builtin.Range.rangeSize 0 ((codes T).length : Int) 55) = true := grd_iff.mpr ⟨r2, by rw [r1]; omega⟩
  obtain ⟨o3', o4', hl⟩ := law_tl_loop T h hT (cnt T) 0 (by omega) none none
  rw [show ((0 : Nat) : Int) * 55 = 0 from rfl, List.take_zero, show lD [] = [] from rfl] at hl
  have r3 : (Builtin.Range.rangeSize 0 ((codes T).length : Int) 55).toNat = cnt T := by rw [r1, Int.toNat_natCast]; rfl
  generalize hC : codes T = C at *
  unfold f_law_text_lines runF m_law_text_lines l_law_text_lines_1 forS c_law_text_lines_1 compE seqI range3I
  simp [-List.map_map, seqS, ifS, skipS, exprS, asgS, setS, retS, unpS, boolT, testT, notT, andT, orT, ifT, yesT, op2E, op1E, ixE, varE, constE, callE, fnE, consA, nilA, lateA, lstE, tupE, ifE, andE, orE, notE, chainE, methE, sliceE, partO, noO, takeL, take1, taken, srcSlots, Env.get, Env.putAt, Env.cools_nil, D.put, D.imm, immL, D.cold, coldL, D.hot, hotL, Z.cold, Z.hot, Src.fresh, gAdd_int, gSub_int, gMul_int, gFdiv_int, gMod_int, gNeg_int, gLt_int, gLe_int, gGt_int, gGe_int, gIsN_eq, gNotN_eq, isNon, gInt_int, gLen_lst, gLen_tup, gTru_bl, argsD, lentOf, iosOk, putOuts, allHot, outsOf, D.frz, frzL, frost_own, frost_frz, frost_fix, nameG, consG, nilG, tupG, unlG, tyD, le_size, lt_size, gEq_eq, gNe_eq, deq_int, deq_ints, deq_three, shp_int, shp_ints, shp_three, shp_non, shp_bl, Env.wipe, Env.back, coldL_ints, hotL_ints, frzL_ints, coldL_strs, hotL_strs, frzL_strs, hks, hk, hkl, e1, hg, r3, hl]
end KL

set_option Elab.async false
set_option linter.all false
set_option maxRecDepth 100000
set_option maxHeartbeats 4000000
namespace KL
open PySem VC KN
/-! ### draws -/
theorem mixed_ok (n : Int) : ∃ r, f_law_mixed [.int n] = some (.int r, []) := by
  have h1 : ∀ x : Int, x.fmod 2305843009213693951 < 2305843009213693951 := fun x => Int.fmod_lt_of_pos x (by decide)
  have h0 : ∀ x : Int, 0 ≤ x.fmod 2305843009213693951 := fun x => Int.fmod_nonneg_of_pos x (by decide)
  have s1 : small64 6364136223846793005 = true := grd_iff.mpr ⟨by omega, by omega⟩
  have s2 : small64 48271 = true := grd_iff.mpr ⟨by omega, by omega⟩
  have s3 : small64 3935559000370003845 = true := grd_iff.mpr ⟨by omega, by omega⟩
  have s4 : small64 40692 = true := grd_iff.mpr ⟨by omega, by omega⟩
  have s5 : ∀ x : Int, small64 (x.fmod 2305843009213693951) = true := fun x => by
    have := h0 x
    have := h1 x
    exact grd_iff.mpr ⟨by omega, by omega⟩
  unfold f_law_mixed runF m_law_mixed
  simp [-List.map_map, seqS, ifS, skipS, exprS, asgS, setS, retS, unpS, boolT, testT, notT, andT, orT, ifT, yesT, op2E, op1E, ixE, varE, constE, callE, fnE, consA, nilA, lateA, lstE, tupE, ifE, andE, orE, notE, chainE, methE, sliceE, partO, noO, takeL, take1, taken, srcSlots, Env.get, Env.putAt, Env.cools_nil, D.put, D.imm, immL, D.cold, coldL, D.hot, hotL, Z.cold, Z.hot, Src.fresh, gAdd_int, gSub_int, gMul_int, gFdiv_int, gMod_int, gNeg_int, gLt_int, gLe_int, gGt_int, gGe_int, gIsN_eq, gNotN_eq, isNon, gInt_int, gLen_lst, gLen_tup, gTru_bl, argsD, lentOf, iosOk, putOuts, allHot, outsOf, D.frz, frzL, frost_own, frost_frz, frost_fix, nameG, consG, nilG, tupG, unlG, tyD, le_size, lt_size, gEq_eq, gNe_eq, deq_int, deq_ints, deq_three, shp_int, shp_ints, shp_three, shp_non, shp_bl, Env.wipe, Env.back, coldL_ints, hotL_ints, frzL_ints, coldL_strs, hotL_strs, frzL_strs, s1, s2, s3, s4, s5]
abbrev stD (a b : Int) : D := .lst .own [.int a, .int b]
theorem digit_ok (a b many : Int) (h : 0 < many) (h2 : many < 1073741824) : ∃ d a' b', f_law_digit [stD a b, .int many] = some (.int d, [stD a' b']) ∧ 0 ≤ d ∧ d < many := by
  have hm : many ≠ 0 := by omega
  have hm2 : many.natAbs < 1073741824 := by omega
  obtain ⟨r1, e1⟩ := mixed_ok (b + 1)
  obtain ⟨r2, e2⟩ := mixed_ok (r1 + 2)
  have s1 : small64 2305843009213693951 = true := grd_iff.mpr ⟨by omega, by omega⟩
  have i0 : L2.ixN 2 0 = some 0 := rfl
  have i1 : L2.ixN 2 1 = some 1 := rfl
  unfold f_law_digit runF m_law_digit
  by_cases ha : a < 2
  · simp [-List.map_map, seqS, ifS, skipS, exprS, asgS, setS, retS, unpS, boolT, testT, notT, andT, orT, ifT, yesT, op2E, op1E, ixE, varE, constE, callE, fnE, consA, nilA, lateA, lstE, tupE, ifE, andE, orE, notE, chainE, methE, sliceE, partO, noO, takeL, take1, taken, srcSlots, Env.get, Env.putAt, Env.cools_nil, D.put, D.imm, immL, D.cold, coldL, D.hot, hotL, Z.cold, Z.hot, Src.fresh, gAdd_int, gSub_int, gMul_int, gFdiv_int, gMod_int, gNeg_int, gLt_int, gLe_int, gGt_int, gGe_int, gIsN_eq, gNotN_eq, isNon, gInt_int, gLen_lst, gLen_tup, gTru_bl, argsD, lentOf, iosOk, putOuts, allHot, outsOf, D.frz, frzL, frost_own, frost_frz, frost_fix, nameG, consG, nilG, tupG, unlG, tyD, le_size, lt_size, gEq_eq, gNe_eq, deq_int, deq_ints, deq_three, shp_int, shp_ints, shp_three, shp_non, shp_bl, Env.wipe, Env.back, coldL_ints, hotL_ints, frzL_ints, coldL_strs, hotL_strs, frzL_strs, ha, e1, e2, hm, hm2, s1, i0, i1]
    exact ⟨Int.fmod_nonneg_of_pos _ h, Int.fmod_lt_of_pos _ h⟩
  · simp [-List.map_map, seqS, ifS, skipS, exprS, asgS, setS, retS, unpS, boolT, testT, notT, andT, orT, ifT, yesT, op2E, op1E, ixE, varE, constE, callE, fnE, consA, nilA, lateA, lstE, tupE, ifE, andE, orE, notE, chainE, methE, sliceE, partO, noO, takeL, take1, taken, srcSlots, Env.get, Env.putAt, Env.cools_nil, D.put, D.imm, immL, D.cold, coldL, D.hot, hotL, Z.cold, Z.hot, Src.fresh, gAdd_int, gSub_int, gMul_int, gFdiv_int, gMod_int, gNeg_int, gLt_int, gLe_int, gGt_int, gGe_int, gIsN_eq, gNotN_eq, isNon, gInt_int, gLen_lst, gLen_tup, gTru_bl, argsD, lentOf, iosOk, putOuts, allHot, outsOf, D.frz, frzL, frost_own, frost_frz, frost_fix, nameG, consG, nilG, tupG, unlG, tyD, le_size, lt_size, gEq_eq, gNe_eq, deq_int, deq_ints, deq_three, shp_int, shp_ints, shp_three, shp_non, shp_bl, Env.wipe, Env.back, coldL_ints, hotL_ints, frzL_ints, coldL_strs, hotL_strs, frzL_strs, ha, e1, e2, hm, hm2, s1, i0, i1]
    exact ⟨Int.fmod_nonneg_of_pos _ h, Int.fmod_lt_of_pos _ h⟩
theorem pick_tup (a b : Int) (ds : List D) (hc : coldL ds = true) (hf : frzL ds = ds) (hm : immL ds = true) (hn : 0 < ds.length) (hl : ds.length < 1000000) : ∃ d a' b', f_law_pick [stD a b, .tup ds] = some (d, [stD a' b']) ∧ d ∈ ds := by
  obtain ⟨i, a', b', e1, h1, h2⟩ := digit_ok a b (ds.length : Int) (by omega) (by omega)
  obtain ⟨n, rfl⟩ := Int.eq_ofNat_of_zero_le h1
  have hlt : n < ds.length := by omega
  have hi : L2.atI ds (n : Int) = some ds[n] := by
    unfold L2.atI
    rw [ixN_nat hlt, Option.bind_some, List.getElem?_eq_getElem hlt]
  have hcd : (ds[n]).cold = true := coldL_mem hc _ (List.getElem_mem hlt)
  refine ⟨ds[n], a', b', ?_, List.getElem_mem hlt⟩
  generalize ds[n] = d at *
  unfold f_law_pick runF m_law_pick
  simp [-List.map_map, seqS, ifS, skipS, exprS, asgS, setS, retS, unpS, boolT, testT, notT, andT, orT, ifT, yesT, op2E, op1E, ixE, varE, constE, callE, fnE, consA, nilA, lateA, lstE, tupE, ifE, andE, orE, notE, chainE, methE, sliceE, partO, noO, takeL, take1, taken, srcSlots, Env.get, Env.putAt, Env.cools_nil, D.put, D.imm, immL, D.cold, coldL, D.hot, hotL, Z.cold, Z.hot, Src.fresh, gAdd_int, gSub_int, gMul_int, gFdiv_int, gMod_int, gNeg_int, gLt_int, gLe_int, gGt_int, gGe_int, gIsN_eq, gNotN_eq, isNon, gInt_int, gLen_lst, gLen_tup, gTru_bl, argsD, lentOf, iosOk, putOuts, allHot, outsOf, D.frz, frzL, frost_own, frost_frz, frost_fix, nameG, consG, nilG, tupG, unlG, tyD, le_size, lt_size, gEq_eq, gNe_eq, deq_int, deq_ints, deq_three, shp_int, shp_ints, shp_three, shp_non, shp_bl, Env.wipe, Env.back, coldL_ints, hotL_ints, frzL_ints, coldL_strs, hotL_strs, frzL_strs, e1, hi, hcd, hm, hf, hc]
theorem pick_sg (a b : Int) : ∃ c a' b', f_law_pick [stD a b, .str (S sg)] = some (.str (S [c]), [stD a' b']) ∧ c ∈ sg := by
  obtain ⟨i, a', b', e1, h1, h2⟩ := digit_ok a b 73 (by omega) (by omega)
  obtain ⟨n, rfl⟩ := Int.eq_ofNat_of_zero_le h1
  have hlt : n < sg.length := by rw [sg_len]; omega
  have hi : L2.atI sg (n : Int) = some sg[n] := by
    unfold L2.atI
    rw [ixN_nat hlt, Option.bind_some, List.getElem?_eq_getElem hlt]
  have hL : gLen [.str (S sg)] = some (.int 73) := by rw [← signs_eq]; exact sgLen
  have hz : (73 ≤ sizeLine) = True := le_size (by omega)
  refine ⟨sg[n], a', b', ?_, List.getElem_mem hlt⟩
  generalize sg[n] = c at *
  unfold f_law_pick runF m_law_pick
  simp [-List.map_map, seqS, ifS, skipS, exprS, asgS, setS, retS, unpS, boolT, testT, notT, andT, orT, ifT, yesT, op2E, op1E, ixE, varE, constE, callE, fnE, consA, nilA, lateA, lstE, tupE, ifE, andE, orE, notE, chainE, methE, sliceE, partO, noO, takeL, take1, taken, srcSlots, Env.get, Env.putAt, Env.cools_nil, D.put, D.imm, immL, D.cold, coldL, D.hot, hotL, Z.cold, Z.hot, Src.fresh, gAdd_int, gSub_int, gMul_int, gFdiv_int, gMod_int, gNeg_int, gLt_int, gLe_int, gGt_int, gGe_int, gIsN_eq, gNotN_eq, isNon, gInt_int, gLen_lst, gLen_tup, gTru_bl, argsD, lentOf, iosOk, putOuts, allHot, outsOf, D.frz, frzL, frost_own, frost_frz, frost_fix, nameG, consG, nilG, tupG, unlG, tyD, le_size, lt_size, gEq_eq, gNe_eq, deq_int, deq_ints, deq_three, shp_int, shp_ints, shp_three, shp_non, shp_bl, Env.wipe, Env.back, coldL_ints, hotL_ints, frzL_ints, coldL_strs, hotL_strs, frzL_strs, e1, hi, hL, SX.S_len, sg_len, hz]
theorem stream_ok (z : Z) (ns : List Int) (hl : ns.length ≤ 63) (k : Nat) : ∃ a b, f_law_stream [.lst z (dI ns), .int (k : Nat)] = some (stD a b, []) := by
  have hs : small64 7 = true := small64_of (by omega)
  have hs3 : small64 3 = true := small64_of (by omega)
  have sp : small64 2305843009213693951 = true := grd_iff.mpr ⟨by omega, by omega⟩
  have hmin : gMin [.int 63, .int (ns.length : Nat)] = some (.int (ns.length : Nat)) := by
    unfold gMin
    by_cases h : (ns.length : Int) < 63
    · simp [h]
    · have : (ns.length : Int) = 63 := by omega
      simp [this]
  have s62 : small62 (ns.length : Int) = true := small62_of (by omega)
  obtain ⟨r0, e0⟩ := mixed_ok (7 * (k : Int) + 5)
  have loop : ∀ (cnt lo : Nat), lo + cnt = ns.length → ∀ (s : Int) (o3 : Option D), ∃ s' o3', forL (nameG 3 []) b_law_stream_1 (rangeL (lo : Int) 1 cnt) [some (.lst z (dI ns)), some (.int (k : Nat)), some (.int s), o3] = some (.nx [some (.lst z (dI ns)), some (.int (k : Nat)), some (.int s'), o3']) := by
    intro cnt
    induction cnt with
    | zero => intro lo h s o3; exact ⟨s, o3, rfl⟩
    | succ cnt ih =>
      intro lo h s o3
      obtain ⟨x, hx⟩ : ∃ x, ns[lo]? = some x := ⟨_, List.getElem?_eq_getElem (by omega)⟩
      have hg : ∀ h : lo < ns.length, ns[lo]'h = x := fun h => by
        have := List.getElem?_eq_getElem h
        rw [hx] at this
        exact (Option.some.inj this).symm
      have hix : L2.ixN ns.length (lo : Int) = some lo := ixN_nat (by omega)
      obtain ⟨r, e1⟩ := mixed_ok (s + x)
      have hnm : nameG 3 [] (.int (lo : Int)) [some (.lst z (dI ns)), some (.int (k : Nat)), some (.int s), o3] = some [some (.lst z (dI ns)), some (.int (k : Nat)), some (.int s), some (.int (lo : Int))] := by simp [-List.map_map, seqS, ifS, skipS, exprS, asgS, setS, retS, unpS, boolT, testT, notT, andT, orT, ifT, yesT, op2E, op1E, ixE, varE, constE, callE, fnE, consA, nilA, lateA, lstE, tupE, ifE, andE, orE, notE, chainE, methE, sliceE, partO, noO, takeL, take1, taken, srcSlots, Env.get, Env.putAt, Env.cools_nil, D.put, D.imm, immL, D.cold, coldL, D.hot, hotL, Z.cold, Z.hot, Src.fresh, gAdd_int, gSub_int, gMul_int, gFdiv_int, gMod_int, gNeg_int, gLt_int, gLe_int, gGt_int, gGe_int, gIsN_eq, gNotN_eq, isNon, gInt_int, gLen_lst, gLen_tup, gTru_bl, argsD, lentOf, iosOk, putOuts, allHot, outsOf, D.frz, frzL, frost_own, frost_frz, frost_fix, nameG, consG, nilG, tupG, unlG, tyD, le_size, lt_size, gEq_eq, gNe_eq, deq_int, deq_ints, deq_three, shp_int, shp_ints, shp_three, shp_non, shp_bl, Env.wipe, Env.back, coldL_ints, hotL_ints, frzL_ints, coldL_strs, hotL_strs, frzL_strs]
      have hb : ∃ s', b_law_stream_1 [some (.lst z (dI ns)), some (.int (k : Nat)), some (.int s), some (.int (lo : Int))] = some (.nx [some (.lst z (dI ns)), some (.int (k : Nat)), some (.int s'), some (.int (lo : Int))]) := by
        unfold b_law_stream_1
        by_cases h1 : ns.length ≤ k
        · exact ⟨r, by simp [-List.map_map, seqS, ifS, skipS, exprS, asgS, setS, retS, unpS, boolT, testT, notT, andT, orT, ifT, yesT, op2E, op1E, ixE, varE, constE, callE, fnE, consA, nilA, lateA, lstE, tupE, ifE, andE, orE, notE, chainE, methE, sliceE, partO, noO, takeL, take1, taken, srcSlots, Env.get, Env.putAt, Env.cools_nil, D.put, D.imm, immL, D.cold, coldL, D.hot, hotL, Z.cold, Z.hot, Src.fresh, gAdd_int, gSub_int, gMul_int, gFdiv_int, gMod_int, gNeg_int, gLt_int, gLe_int, gGt_int, gGe_int, gIsN_eq, gNotN_eq, isNon, gInt_int, gLen_lst, gLen_tup, gTru_bl, argsD, lentOf, iosOk, putOuts, allHot, outsOf, D.frz, frzL, frost_own, frost_frz, frost_fix, nameG, consG, nilG, tupG, unlG, tyD, le_size, lt_size, gEq_eq, gNe_eq, deq_int, deq_ints, deq_three, shp_int, shp_ints, shp_three, shp_non, shp_bl, Env.wipe, Env.back, coldL_ints, hotL_ints, frzL_ints, coldL_strs, hotL_strs, frzL_strs, h1, hix, hx, hg, e1]⟩
        · by_cases h2 : lo = k
          · subst h2
            exact ⟨r, by simp [-List.map_map, seqS, ifS, skipS, exprS, asgS, setS, retS, unpS, boolT, testT, notT, andT, orT, ifT, yesT, op2E, op1E, ixE, varE, constE, callE, fnE, consA, nilA, lateA, lstE, tupE, ifE, andE, orE, notE, chainE, methE, sliceE, partO, noO, takeL, take1, taken, srcSlots, Env.get, Env.putAt, Env.cools_nil, D.put, D.imm, immL, D.cold, coldL, D.hot, hotL, Z.cold, Z.hot, Src.fresh, gAdd_int, gSub_int, gMul_int, gFdiv_int, gMod_int, gNeg_int, gLt_int, gLe_int, gGt_int, gGe_int, gIsN_eq, gNotN_eq, isNon, gInt_int, gLen_lst, gLen_tup, gTru_bl, argsD, lentOf, iosOk, putOuts, allHot, outsOf, D.frz, frzL, frost_own, frost_frz, frost_fix, nameG, consG, nilG, tupG, unlG, tyD, le_size, lt_size, gEq_eq, gNe_eq, deq_int, deq_ints, deq_three, shp_int, shp_ints, shp_three, shp_non, shp_bl, Env.wipe, Env.back, coldL_ints, hotL_ints, frzL_ints, coldL_strs, hotL_strs, frzL_strs, h1, hix, hx, hg, e1]⟩
          · have h2' : ¬ ((lo : Int) = (k : Int)) := by omega
            exact ⟨s, by simp [-List.map_map, seqS, ifS, skipS, exprS, asgS, setS, retS, unpS, boolT, testT, notT, andT, orT, ifT, yesT, op2E, op1E, ixE, varE, constE, callE, fnE, consA, nilA, lateA, lstE, tupE, ifE, andE, orE, notE, chainE, methE, sliceE, partO, noO, takeL, take1, taken, srcSlots, Env.get, Env.putAt, Env.cools_nil, D.put, D.imm, immL, D.cold, coldL, D.hot, hotL, Z.cold, Z.hot, Src.fresh, gAdd_int, gSub_int, gMul_int, gFdiv_int, gMod_int, gNeg_int, gLt_int, gLe_int, gGt_int, gGe_int, gIsN_eq, gNotN_eq, isNon, gInt_int, gLen_lst, gLen_tup, gTru_bl, argsD, lentOf, iosOk, putOuts, allHot, outsOf, D.frz, frzL, frost_own, frost_frz, frost_fix, nameG, consG, nilG, tupG, unlG, tyD, le_size, lt_size, gEq_eq, gNe_eq, deq_int, deq_ints, deq_three, shp_int, shp_ints, shp_three, shp_non, shp_bl, Env.wipe, Env.back, coldL_ints, hotL_ints, frzL_ints, coldL_strs, hotL_strs, frzL_strs, h1, h2']⟩
      obtain ⟨s1, hb⟩ := hb
      obtain ⟨s', o3', h3⟩ := ih (lo + 1) (by omega) s1 (some (.int (lo : Int)))
      refine ⟨s', o3', ?_⟩
      rw [rangeL_succ, forL_nx hnm hb, show (lo : Int) + 1 = ((lo + 1 : Nat) : Int) by omega, h3]
  obtain ⟨s', o3', hloop⟩ := loop ns.length 0 (by omega) r0 none
  rw [show ((0 : Nat) : Int) = 0 from rfl] at hloop
  obtain ⟨r2, e2⟩ := mixed_ok s'
  unfold f_law_stream runF m_law_stream
  by_cases h1 : k < ns.length
  · obtain ⟨x, hx⟩ : ∃ x, ns[k]? = some x := ⟨_, List.getElem?_eq_getElem (by omega)⟩
    have hg : ∀ h : k < ns.length, ns[k]'h = x := fun h => by
      have := List.getElem?_eq_getElem h
      rw [hx] at this
      exact (Option.some.inj this).symm
    have hix : L2.ixN ns.length (k : Int) = some k := ixN_nat (by omega)
    by_cases h2 : 1000000000000000000 ≤ x
    · exact ⟨_, _, by simp [-List.map_map, seqS, ifS, skipS, exprS, asgS, setS, retS, unpS, boolT, testT, notT, andT, orT, ifT, yesT, op2E, op1E, ixE, varE, constE, callE, fnE, consA, nilA, lateA, lstE, tupE, ifE, andE, orE, notE, chainE, methE, sliceE, partO, noO, takeL, take1, taken, srcSlots, Env.get, Env.putAt, Env.cools_nil, D.put, D.imm, immL, D.cold, coldL, D.hot, hotL, Z.cold, Z.hot, Src.fresh, gAdd_int, gSub_int, gMul_int, gFdiv_int, gMod_int, gNeg_int, gLt_int, gLe_int, gGt_int, gGe_int, gIsN_eq, gNotN_eq, isNon, gInt_int, gLen_lst, gLen_tup, gTru_bl, argsD, lentOf, iosOk, putOuts, allHot, outsOf, D.frz, frzL, frost_own, frost_frz, frost_fix, nameG, consG, nilG, tupG, unlG, tyD, le_size, lt_size, gEq_eq, gNe_eq, deq_int, deq_ints, deq_three, shp_int, shp_ints, shp_three, shp_non, shp_bl, Env.wipe, Env.back, coldL_ints, hotL_ints, frzL_ints, coldL_strs, hotL_strs, frzL_strs, h1, hix, hx, hg, h2, hs3]; exact ⟨rfl, rfl⟩⟩
    · exact ⟨_, _, by simp [-List.map_map, seqS, ifS, skipS, exprS, asgS, setS, retS, unpS, boolT, testT, notT, andT, orT, ifT, yesT, op2E, op1E, ixE, varE, constE, callE, fnE, consA, nilA, lateA, lstE, tupE, ifE, andE, orE, notE, chainE, methE, sliceE, partO, noO, takeL, take1, taken, srcSlots, Env.get, Env.putAt, Env.cools_nil, D.put, D.imm, immL, D.cold, coldL, D.hot, hotL, Z.cold, Z.hot, Src.fresh, gAdd_int, gSub_int, gMul_int, gFdiv_int, gMod_int, gNeg_int, gLt_int, gLe_int, gGt_int, gGe_int, gIsN_eq, gNotN_eq, isNon, gInt_int, gLen_lst, gLen_tup, gTru_bl, argsD, lentOf, iosOk, putOuts, allHot, outsOf, D.frz, frzL, frost_own, frost_frz, frost_fix, nameG, consG, nilG, tupG, unlG, tyD, le_size, lt_size, gEq_eq, gNe_eq, deq_int, deq_ints, deq_three, shp_int, shp_ints, shp_three, shp_non, shp_bl, Env.wipe, Env.back, coldL_ints, hotL_ints, frzL_ints, coldL_strs, hotL_strs, frzL_strs, h1, hix, hx, hg, h2, hs, e0, l_law_stream_1, forS, range1I, hmin, s62, hloop, sp, e2]; exact ⟨rfl, rfl⟩⟩
  · exact ⟨_, _, by simp [-List.map_map, seqS, ifS, skipS, exprS, asgS, setS, retS, unpS, boolT, testT, notT, andT, orT, ifT, yesT, op2E, op1E, ixE, varE, constE, callE, fnE, consA, nilA, lateA, lstE, tupE, ifE, andE, orE, notE, chainE, methE, sliceE, partO, noO, takeL, take1, taken, srcSlots, Env.get, Env.putAt, Env.cools_nil, D.put, D.imm, immL, D.cold, coldL, D.hot, hotL, Z.cold, Z.hot, Src.fresh, gAdd_int, gSub_int, gMul_int, gFdiv_int, gMod_int, gNeg_int, gLt_int, gLe_int, gGt_int, gGe_int, gIsN_eq, gNotN_eq, isNon, gInt_int, gLen_lst, gLen_tup, gTru_bl, argsD, lentOf, iosOk, putOuts, allHot, outsOf, D.frz, frzL, frost_own, frost_frz, frost_fix, nameG, consG, nilG, tupG, unlG, tyD, le_size, lt_size, gEq_eq, gNe_eq, deq_int, deq_ints, deq_three, shp_int, shp_ints, shp_three, shp_non, shp_bl, Env.wipe, Env.back, coldL_ints, hotL_ints, frzL_ints, coldL_strs, hotL_strs, frzL_strs, h1, hs, e0, l_law_stream_1, forS, range1I, hmin, s62, hloop, sp, e2]; exact ⟨rfl, rfl⟩⟩
end KL

set_option Elab.async false
set_option linter.all false
set_option maxRecDepth 100000
set_option maxHeartbeats 4000000
namespace KL
open PySem VC KN
def R97 (d : D) : Prop := ∃ x : Int, d = .int x ∧ 0 ≤ x ∧ x < 97
theorem ints_of : ∀ {ys : List D}, (∀ y ∈ ys, R97 y) → ∃ xs : List Int, ys = dI xs ∧ ∀ x ∈ xs, 0 ≤ x ∧ x < 97
  | [], _ => ⟨[], rfl, by simp⟩
  | y :: ys, h => by
    obtain ⟨x, rfl, hx⟩ := h y (by simp)
    obtain ⟨xs, rfl, hxs⟩ := ints_of (ys := ys) fun y hy => h y (by simp [hy])
    refine ⟨x :: xs, rfl, fun z hz => ?_⟩
    rcases List.mem_cons.mp hz with rfl | hz
    · exact hx
    · exact hxs z hz
theorem odd_ok (a b n : Int) (hn : 0 ≤ n ∧ n < 9409) : ∃ l a' b', f_law_odd_line [stD a b, .int n] = some (.lst .own (dI l), [stD a' b']) ∧ l.length = 60 ∧ ∀ x ∈ l, 0 ≤ x ∧ x < 97 := by
  have s55 : small62 55 = true := small62_of (by omega)
  obtain ⟨ys, e', h1, ⟨a1, b1, rfl⟩, h3, h4⟩ := compL_inv (vs := [4]) (Mc := []) (bd := nameG 4 []) (fe := ce_law_odd_line_1) (fun env => ∃ a b, env = [some (stD a b), some (.int n), none, none, none]) R97 (ds := rangeL 0 1 55) (env := [some (stD a b), some (.int n), none, none, none]) (by
    intro d hd env ⟨a, b, he⟩
    subst he
    obtain ⟨x, a', b', e1, g1, g2⟩ := digit_ok a b 73 (by omega) (by omega)
    unfold rangeL at hd
    obtain ⟨i, hi, rfl⟩ := List.mem_map.mp hd
    refine ⟨[some (stD a b), some (.int n), none, none, some (.int (0 + (i : Nat) * 1))], .int (1 + x), [some (stD a' b'), some (.int n), none, none, some (.int (0 + (i : Nat) * 1))], by simp [-List.map_map, seqS, ifS, skipS, exprS, asgS, setS, retS, unpS, boolT, testT, notT, andT, orT, ifT, yesT, op2E, op1E, ixE, varE, constE, callE, fnE, consA, nilA, lateA, lstE, tupE, ifE, andE, orE, notE, chainE, methE, sliceE, partO, noO, takeL, take1, taken, srcSlots, Env.get, Env.putAt, Env.cools_nil, D.put, D.imm, immL, D.cold, coldL, D.hot, hotL, Z.cold, Z.hot, Src.fresh, gAdd_int, gSub_int, gMul_int, gFdiv_int, gMod_int, gNeg_int, gLt_int, gLe_int, gGt_int, gGe_int, gIsN_eq, gNotN_eq, isNon, gInt_int, gLen_lst, gLen_tup, gTru_bl, argsD, lentOf, iosOk, putOuts, allHot, outsOf, D.frz, frzL, frost_own, frost_frz, frost_fix, nameG, consG, nilG, tupG, unlG, tyD, le_size, lt_size, gEq_eq, gNe_eq, deq_int, deq_ints, deq_three, shp_int, shp_ints, shp_three, shp_non, shp_bl, Env.wipe, Env.back, coldL_ints, hotL_ints, frzL_ints, coldL_strs, hotL_strs, frzL_strs], ?_, ⟨1 + x, rfl, by omega, by omega⟩, ⟨a', b', by simp [Env.wipe]⟩⟩
    unfold ce_law_odd_line_1
    simp [-List.map_map, seqS, ifS, skipS, exprS, asgS, setS, retS, unpS, boolT, testT, notT, andT, orT, ifT, yesT, op2E, op1E, ixE, varE, constE, callE, fnE, consA, nilA, lateA, lstE, tupE, ifE, andE, orE, notE, chainE, methE, sliceE, partO, noO, takeL, take1, taken, srcSlots, Env.get, Env.putAt, Env.cools_nil, D.put, D.imm, immL, D.cold, coldL, D.hot, hotL, Z.cold, Z.hot, Src.fresh, gAdd_int, gSub_int, gMul_int, gFdiv_int, gMod_int, gNeg_int, gLt_int, gLe_int, gGt_int, gGe_int, gIsN_eq, gNotN_eq, isNon, gInt_int, gLen_lst, gLen_tup, gTru_bl, argsD, lentOf, iosOk, putOuts, allHot, outsOf, D.frz, frzL, frost_own, frost_frz, frost_fix, nameG, consG, nilG, tupG, unlG, tyD, le_size, lt_size, gEq_eq, gNe_eq, deq_int, deq_ints, deq_three, shp_int, shp_ints, shp_three, shp_non, shp_bl, Env.wipe, Env.back, coldL_ints, hotL_ints, frzL_ints, coldL_strs, hotL_strs, frzL_strs, e1]) ⟨a, b, rfl⟩
  obtain ⟨xs, rfl, hxs⟩ := ints_of h4
  rw [List.length_map, rangeL_length] at h3
  obtain ⟨at', a2, b2, e2, g1, g2⟩ := digit_ok a1 b1 55 (by omega) (by omega)
  obtain ⟨k, rfl⟩ := Int.eq_ofNat_of_zero_le g1
  obtain ⟨d, a3, b3, e3, hd⟩ := pick_tup a2 b2 [.int 74, .int 0, .int 75, .int 96] rfl rfl rfl (by simp) (by simp)
  obtain ⟨y, rfl, hy⟩ : R97 d := by
    simp only [List.mem_cons, List.not_mem_nil, or_false] at hd
    rcases hd with rfl | rfl | rfl | rfl <;> exact ⟨_, rfl, by omega, by omega⟩
  obtain ⟨q, a4, b4, e4, g3, g4⟩ := digit_ok a3 b3 2 (by omega) (by omega)
  have hix : L2.ixN 55 (k : Int) = some k := ixN_nat (by omega)
  have hset : (dI xs).set k (.int y) = dI (xs.set k y) := (List.map_set ..).symm
  have hs : ∀ x ∈ xs.set k y, 0 ≤ x ∧ x < 97 := fun x hx => by
    rcases List.mem_or_eq_of_mem_set hx with h | h
    · exact hxs x h
    · rw [h]; exact hy
  have hsl : (xs.set k y).length = 55 := by rw [List.length_set]; exact h3
  have hlt : (55 < sizeLine) = True := lt_size (by omega)
  generalize xs.set k y = X at *
  have f1 := sl_to (z := .own) (xs := X) (k := (k : Int) + 1) (by omega)
  have f2 := mul_rep .own (by decide) (54 - (k : Int)) (by omega)
  rw [show ((k : Int) + 1).toNat = k + 1 by omega] at f1
  rw [show (54 - (k : Int)).toNat = 54 - k by omega] at f2
  have f3 := addL (z := .own) (y := .own) (X.take (k + 1)) (List.replicate (54 - k) 0) (by decide) (by decide) (by rw [List.length_take, List.length_replicate]; omega)
  have hYl : (X.take (k + 1) ++ List.replicate (54 - k) 0).length = 55 := by rw [List.length_append, List.length_take, List.length_replicate]; omega
  have hY : ∀ x ∈ X.take (k + 1) ++ List.replicate (54 - k) 0, 0 ≤ x ∧ x < 97 := fun x hx => by
    rcases List.mem_append.mp hx with hx | hx
    · exact hs x (List.mem_of_mem_take hx)
    · rw [List.mem_replicate] at hx; omega
  generalize hA : X.take (k + 1) = A at *
  generalize hB : List.replicate (54 - k) (0 : Int) = B at *
  generalize A ++ B = Y at *
  have f4 := law_line_ok .frz (by decide) n X hsl
  have f5 := law_line_ok .frz (by decide) n Y hYl
  unfold f_law_odd_line runF m_law_odd_line c_law_odd_line_1 compE range1I
  by_cases hq : q = 0
  · refine ⟨lineOf n Y, a4, b4, ?_, by rw [lineOf_len, hYl], lineOf_rng hn hY⟩
    generalize lineOf n Y = L at *
    simp [-List.map_map, seqS, ifS, skipS, exprS, asgS, setS, retS, unpS, boolT, testT, notT, andT, orT, ifT, yesT, op2E, op1E, ixE, varE, constE, callE, fnE, consA, nilA, lateA, lstE, tupE, ifE, andE, orE, notE, chainE, methE, sliceE, partO, noO, takeL, take1, taken, srcSlots, Env.get, Env.putAt, Env.cools_nil, D.put, D.imm, immL, D.cold, coldL, D.hot, hotL, Z.cold, Z.hot, Src.fresh, gAdd_int, gSub_int, gMul_int, gFdiv_int, gMod_int, gNeg_int, gLt_int, gLe_int, gGt_int, gGe_int, gIsN_eq, gNotN_eq, isNon, gInt_int, gLen_lst, gLen_tup, gTru_bl, argsD, lentOf, iosOk, putOuts, allHot, outsOf, D.frz, frzL, frost_own, frost_frz, frost_fix, nameG, consG, nilG, tupG, unlG, tyD, le_size, lt_size, gEq_eq, gNe_eq, deq_int, deq_ints, deq_three, shp_int, shp_ints, shp_three, shp_non, shp_bl, Env.wipe, Env.back, coldL_ints, hotL_ints, frzL_ints, coldL_strs, hotL_strs, frzL_strs, s55, rangeL_length, h1, h3, e2, e3, e4, hix, hset, hsl, f1, f2, f3, f5, hq, hlt]
  · refine ⟨lineOf n X, a4, b4, ?_, by rw [lineOf_len, hsl], lineOf_rng hn hs⟩
    generalize lineOf n X = L at *
    simp [-List.map_map, seqS, ifS, skipS, exprS, asgS, setS, retS, unpS, boolT, testT, notT, andT, orT, ifT, yesT, op2E, op1E, ixE, varE, constE, callE, fnE, consA, nilA, lateA, lstE, tupE, ifE, andE, orE, notE, chainE, methE, sliceE, partO, noO, takeL, take1, taken, srcSlots, Env.get, Env.putAt, Env.cools_nil, D.put, D.imm, immL, D.cold, coldL, D.hot, hotL, Z.cold, Z.hot, Src.fresh, gAdd_int, gSub_int, gMul_int, gFdiv_int, gMod_int, gNeg_int, gLt_int, gLe_int, gGt_int, gGe_int, gIsN_eq, gNotN_eq, isNon, gInt_int, gLen_lst, gLen_tup, gTru_bl, argsD, lentOf, iosOk, putOuts, allHot, outsOf, D.frz, frzL, frost_own, frost_frz, frost_fix, nameG, consG, nilG, tupG, unlG, tyD, le_size, lt_size, gEq_eq, gNe_eq, deq_int, deq_ints, deq_three, shp_int, shp_ints, shp_three, shp_non, shp_bl, Env.wipe, Env.back, coldL_ints, hotL_ints, frzL_ints, coldL_strs, hotL_strs, frzL_strs, s55, rangeL_length, h1, h3, e2, e3, e4, hix, hset, hsl, f4, hq, hlt]
end KL

set_option Elab.async false
set_option linter.all false
set_option maxRecDepth 100000
set_option maxHeartbeats 4000000
namespace KL
open PySem VC KN
def lF (ls : List (List Int)) : List D := ls.map fun l => .lst .frz (dI l)
theorem frz_lD (ls : List (List Int)) : frzL (lD ls) = lF ls := by
  induction ls with
  | nil => rfl
  | cons l ls ih =>
    unfold lD lF at ih ⊢
    simp only [List.map_cons, frzL, D.frz, frzL_ints, ih, Z.frost]
theorem frz_lF (ls : List (List Int)) : frzL (lF ls) = lF ls := by
  induction ls with
  | nil => rfl
  | cons l ls ih =>
    unfold lF at ih ⊢
    simp only [List.map_cons, frzL, D.frz, frzL_ints, ih, Z.frost]
theorem cold_lF (ls : List (List Int)) : coldL (lF ls) = true := coldL_of fun d hd => by
  obtain ⟨l, _, rfl⟩ := List.mem_map.mp hd
  simp only [D.cold, coldL_ints, Z.cold, Bool.and_self]
def Good (ls : List (List Int)) : Prop := ∀ l ∈ ls, l.length = 60 ∧ ∀ x ∈ l, 0 ≤ x ∧ x < 97
theorem len_lD (ls : List (List Int)) : (lD ls).length = ls.length := by unfold lD; simp
theorem len_lF (ls : List (List Int)) : (lF ls).length = ls.length := by unfold lF; simp
theorem set_lD (ls : List (List Int)) (j : Nat) (l : List Int) : (lD ls).set j (.lst .own (dI l)) = lD (ls.set j l) := by unfold lD; rw [List.map_set]
theorem get_lD {ls : List (List Int)} {j : Nat} {l : List Int} (h : ls[j]? = some l) : (lD ls)[j]? = some (.lst .own (dI l)) := by
  unfold lD; rw [List.getElem?_map, h]; rfl
theorem chg_body (a b : Int) (ls : List (List Int)) (hn : 0 < ls.length ∧ ls.length ≤ 90) (hg : Good ls) (o2 o3 : Option D) : ∃ a' b' ls' o3', b_law_changed_1 [some (stD a b), some (.lst .own (lD ls)), o2, o3, none, none, none, none, none] =
    some (.nx [some (stD a' b'), some (.lst .own (lD ls')), o2, o3', none, none, none, none, none]) ∧ ls'.length = ls.length ∧ Good ls' := by
  obtain ⟨x1, a1, b1, e1, g1, g2⟩ := digit_ok a b (ls.length : Int) (by omega) (by omega)
  obtain ⟨j, rfl⟩ := Int.eq_ofNat_of_zero_le g1
  obtain ⟨v, a2, b2, e2, g3, g4⟩ := digit_ok a1 b1 97 (by omega) (by omega)
  obtain ⟨x3, a3, b3, e3, g5, g6⟩ := digit_ok a2 b2 60 (by omega) (by omega)
  obtain ⟨i, rfl⟩ := Int.eq_ofNat_of_zero_le g5
  obtain ⟨l, hl⟩ : ∃ l, ls[j]? = some l := ⟨_, List.getElem?_eq_getElem (by omega)⟩
  have hl60 := hg l (List.mem_of_getElem? hl)
  have hl1 := hl60.1
  have i1 : L2.ixN ls.length (j : Int) = some j := ixN_nat (by omega)
  have i2 : L2.ixN 60 (i : Int) = some i := ixN_nat (by omega)
  have hget := get_lD hl
  have hs1 : (dI l).set i (.int v) = dI (l.set i v) := (List.map_set ..).symm
  have hs2 := set_lD ls j (l.set i v)
  refine ⟨a3, b3, ls.set j (l.set i v), some (.int (j : Nat)), ?_, by rw [List.length_set], fun m hm => ?_⟩
  · rw [← hs2, ← hs1]
    have hLl := len_lD ls
    generalize lD ls = LL at *
    unfold b_law_changed_1
    simp [-List.map_map, seqS, ifS, skipS, exprS, asgS, setS, retS, unpS, boolT, testT, notT, andT, orT, ifT, yesT, op2E, op1E, ixE, varE, constE, callE, fnE, consA, nilA, lateA, lstE, tupE, ifE, andE, orE, notE, chainE, methE, sliceE, partO, noO, takeL, take1, taken, srcSlots, Env.get, Env.putAt, Env.cools_nil, D.put, D.imm, immL, D.cold, coldL, D.hot, hotL, Z.cold, Z.hot, Src.fresh, gAdd_int, gSub_int, gMul_int, gFdiv_int, gMod_int, gNeg_int, gLt_int, gLe_int, gGt_int, gGe_int, gIsN_eq, gNotN_eq, isNon, gInt_int, gLen_lst, gLen_tup, gTru_bl, argsD, lentOf, iosOk, putOuts, allHot, outsOf, D.frz, frzL, frost_own, frost_frz, frost_fix, nameG, consG, nilG, tupG, unlG, tyD, le_size, lt_size, gEq_eq, gNe_eq, deq_int, deq_ints, deq_three, shp_int, shp_ints, shp_three, shp_non, shp_bl, Env.wipe, Env.back, coldL_ints, hotL_ints, frzL_ints, coldL_strs, hotL_strs, frzL_strs, e1, e2, e3, i1, i2, hLl, hget, hl1]
  · rcases List.mem_or_eq_of_mem_set hm with h | h
    · exact hg m h
    · rw [h]
      refine ⟨by rw [List.length_set]; exact hl1, fun x hx => ?_⟩
      rcases List.mem_or_eq_of_mem_set hx with h | h
      · exact hl60.2 x h
      · rw [h]; exact ⟨g3, g4⟩
theorem cut_S (l : List Nat) (hl : l.length ≤ 1000) (lo hi : Option Int) : ∃ m, gSl (.str (S l)) lo hi = some (.str (S m)) ∧ m.length ≤ l.length := by
  refine ⟨(L2.cutS (S l) lo hi).cps.toList, ?_, ?_⟩
  · rw [gSl_str _ _ _ (by rw [SX.S_len]; exact le_sz (by omega))]
  · have := L2.cutS_length (S l) lo hi
    rw [SX.S_len] at this
    rw [Array.length_toList]
    exact this
theorem add_S (A B : List Nat) (h : A.length + B.length ≤ 100000) : gAdd (.str (S A)) (.str (S B)) = some (.str (S (A ++ B))) := by
  rw [gAdd_str _ _ (by rw [SX.S_len, SX.S_len]; exact le_sz h), SX.S_cat]
def RowsOk (rows : List (List Nat)) : Prop := rows.length ≤ 100 ∧ ∀ l ∈ rows, l.length ≤ 1000
theorem set_rows (rows : List (List Nat)) (j : Nat) (l : List Nat) : (dL rows).set j (.str (S l)) = dL (rows.set j l) := (List.map_set ..).symm
def gOwn : D → D
  | .lst _ xs => .lst .own xs
  | d => d
theorem comp_own (a b : Int) (ls : List (List Int)) : compL [8] [] (nameG 8 []) yesT ce_law_changed_2 (lF ls) [some (stD a b), some (.lst .frz (lF ls)), none, none, none, none, none, none, none] = some (lD ls, [some (stD a b), some (.lst .frz (lF ls)), none, none, none, none, none, none, none]) := by
  rw [compL_map gOwn]
  · refine congrArg (fun x => some (x, _)) ?_
    unfold lF lD
    simp only [List.map_map]
    rfl
  · intro d hd
    obtain ⟨l, hl, rfl⟩ := List.mem_map.mp hd
    refine ⟨[some (stD a b), some (.lst .frz (lF ls)), none, none, none, none, none, none, some (.lst .frz (dI l))], ?_, ?_, by simp [Env.wipe]⟩
    · generalize lF ls = LL at *
      simp [-List.map_map, seqS, ifS, skipS, exprS, asgS, setS, retS, unpS, boolT, testT, notT, andT, orT, ifT, yesT, op2E, op1E, ixE, varE, constE, callE, fnE, consA, nilA, lateA, lstE, tupE, ifE, andE, orE, notE, chainE, methE, sliceE, partO, noO, takeL, take1, taken, srcSlots, Env.get, Env.putAt, Env.cools_nil, D.put, D.imm, immL, D.cold, coldL, D.hot, hotL, Z.cold, Z.hot, Src.fresh, gAdd_int, gSub_int, gMul_int, gFdiv_int, gMod_int, gNeg_int, gLt_int, gLe_int, gGt_int, gGe_int, gIsN_eq, gNotN_eq, isNon, gInt_int, gLen_lst, gLen_tup, gTru_bl, argsD, lentOf, iosOk, putOuts, allHot, outsOf, D.frz, frzL, frost_own, frost_frz, frost_fix, nameG, consG, nilG, tupG, unlG, tyD, le_size, lt_size, gEq_eq, gNe_eq, deq_int, deq_ints, deq_three, shp_int, shp_ints, shp_three, shp_non, shp_bl, Env.wipe, Env.back, coldL_ints, hotL_ints, frzL_ints, coldL_strs, hotL_strs, frzL_strs]
    · generalize lF ls = LL at *
      unfold ce_law_changed_2
      simp [-List.map_map, seqS, ifS, skipS, exprS, asgS, setS, retS, unpS, boolT, testT, notT, andT, orT, ifT, yesT, op2E, op1E, ixE, varE, constE, callE, fnE, consA, nilA, lateA, lstE, tupE, ifE, andE, orE, notE, chainE, methE, sliceE, partO, noO, takeL, take1, taken, srcSlots, Env.get, Env.putAt, Env.cools_nil, D.put, D.imm, immL, D.cold, coldL, D.hot, hotL, Z.cold, Z.hot, Src.fresh, gAdd_int, gSub_int, gMul_int, gFdiv_int, gMod_int, gNeg_int, gLt_int, gLe_int, gGt_int, gGe_int, gIsN_eq, gNotN_eq, isNon, gInt_int, gLen_lst, gLen_tup, gTru_bl, argsD, lentOf, iosOk, putOuts, allHot, outsOf, D.frz, frzL, frost_own, frost_frz, frost_fix, nameG, consG, nilG, tupG, unlG, tyD, le_size, lt_size, gEq_eq, gNe_eq, deq_int, deq_ints, deq_three, shp_int, shp_ints, shp_three, shp_non, shp_bl, Env.wipe, Env.back, coldL_ints, hotL_ints, frzL_ints, coldL_strs, hotL_strs, frzL_strs, gList_lst, gOwn]
def gWr : D → D
  | .lst _ xs => .str (S (twos ((intsOf xs).getD [])))
  | d => d
theorem comp_wr (a b : Int) (ls : List (List Int)) (hg : Good ls) (o2 o3 : Option D) : compL [8] [] (nameG 8 []) yesT ce_law_changed_1 (lF ls) [some (stD a b), some (.lst .own (lF ls)), o2, o3, none, none, none, none, none] = some (dL (ls.map twos), [some (stD a b), some (.lst .own (lF ls)), o2, o3, none, none, none, none, none]) := by
  rw [compL_map gWr]
  · refine congrArg (fun x => some (x, _)) ?_
    unfold lF
    simp only [List.map_map]
    apply List.map_congr_left
    intro l _
    simp only [Function.comp_apply, gWr, intsOf_ints, Option.getD_some]
  · intro d hd
    obtain ⟨l, hl, rfl⟩ := List.mem_map.mp hd
    have e1 := law_written_ok .frz l (by have := (hg l hl).1; omega) (hg l hl).2
    refine ⟨[some (stD a b), some (.lst .own (lF ls)), o2, o3, none, none, none, none, some (.lst .frz (dI l))], ?_, ?_, by simp [Env.wipe]⟩
    · generalize lF ls = LL at *
      simp [-List.map_map, seqS, ifS, skipS, exprS, asgS, setS, retS, unpS, boolT, testT, notT, andT, orT, ifT, yesT, op2E, op1E, ixE, varE, constE, callE, fnE, consA, nilA, lateA, lstE, tupE, ifE, andE, orE, notE, chainE, methE, sliceE, partO, noO, takeL, take1, taken, srcSlots, Env.get, Env.putAt, Env.cools_nil, D.put, D.imm, immL, D.cold, coldL, D.hot, hotL, Z.cold, Z.hot, Src.fresh, gAdd_int, gSub_int, gMul_int, gFdiv_int, gMod_int, gNeg_int, gLt_int, gLe_int, gGt_int, gGe_int, gIsN_eq, gNotN_eq, isNon, gInt_int, gLen_lst, gLen_tup, gTru_bl, argsD, lentOf, iosOk, putOuts, allHot, outsOf, D.frz, frzL, frost_own, frost_frz, frost_fix, nameG, consG, nilG, tupG, unlG, tyD, le_size, lt_size, gEq_eq, gNe_eq, deq_int, deq_ints, deq_three, shp_int, shp_ints, shp_three, shp_non, shp_bl, Env.wipe, Env.back, coldL_ints, hotL_ints, frzL_ints, coldL_strs, hotL_strs, frzL_strs]
    · generalize lF ls = LL at *
      unfold ce_law_changed_1
      simp [-List.map_map, seqS, ifS, skipS, exprS, asgS, setS, retS, unpS, boolT, testT, notT, andT, orT, ifT, yesT, op2E, op1E, ixE, varE, constE, callE, fnE, consA, nilA, lateA, lstE, tupE, ifE, andE, orE, notE, chainE, methE, sliceE, partO, noO, takeL, take1, taken, srcSlots, Env.get, Env.putAt, Env.cools_nil, D.put, D.imm, immL, D.cold, coldL, D.hot, hotL, Z.cold, Z.hot, Src.fresh, gAdd_int, gSub_int, gMul_int, gFdiv_int, gMod_int, gNeg_int, gLt_int, gLe_int, gGt_int, gGe_int, gIsN_eq, gNotN_eq, isNon, gInt_int, gLen_lst, gLen_tup, gTru_bl, argsD, lentOf, iosOk, putOuts, allHot, outsOf, D.frz, frzL, frost_own, frost_frz, frost_fix, nameG, consG, nilG, tupG, unlG, tyD, le_size, lt_size, gEq_eq, gNe_eq, deq_int, deq_ints, deq_three, shp_int, shp_ints, shp_three, shp_non, shp_bl, Env.wipe, Env.back, coldL_ints, hotL_ints, frzL_ints, coldL_strs, hotL_strs, frzL_strs, e1, gWr, intsOf_ints]
theorem chg_loop (a b : Int) (ls : List (List Int)) (hn : 0 < ls.length ∧ ls.length ≤ 90) (hg : Good ls) (k : Nat) : ∃ a' b' ls' o2 o3, forL (nameG 2 [0]) b_law_changed_1 (rangeL 0 1 k) [some (stD a b), some (.lst .own (lD ls)), none, none, none, none, none, none, none] =
    some (.nx [some (stD a' b'), some (.lst .own (lD ls')), o2, o3, none, none, none, none, none]) ∧ ls'.length = ls.length ∧ Good ls' := by
  obtain ⟨e, h, _, a', b', ls', o2, o3, rfl, h2, h3⟩ := forL_go (bd := nameG 2 [0]) (body := b_law_changed_1) (fun ds env => (∀ d ∈ ds, ∃ i, d = .int i) ∧ ∃ a' b' ls' o2 o3, env = [some (stD a' b'), some (.lst .own (lD ls')), o2, o3, none, none, none, none, none] ∧ ls'.length = ls.length ∧ Good ls') (by
    rintro d ds env ⟨hd, a1, b1, l1, o2, o3, rfl, h1, h2⟩
    obtain ⟨i, rfl⟩ := hd d (by simp)
    obtain ⟨a', b', ls', o3', hb, h3, h4⟩ := chg_body a1 b1 l1 (by omega) h2 (some (.int i)) o3
    refine ⟨_, _, ?_, .inl hb, fun d hd' => hd d (by simp [hd']), a', b', ls', _, _, rfl, by omega, h4⟩
    generalize lD l1 = LL
    simp [-List.map_map, seqS, ifS, skipS, exprS, asgS, setS, retS, unpS, boolT, testT, notT, andT, orT, ifT, yesT, op2E, op1E, ixE, varE, constE, callE, fnE, consA, nilA, lateA, lstE, tupE, ifE, andE, orE, notE, chainE, methE, sliceE, partO, noO, takeL, take1, taken, srcSlots, Env.get, Env.putAt, Env.cools_nil, D.put, D.imm, immL, D.cold, coldL, D.hot, hotL, Z.cold, Z.hot, Src.fresh, gAdd_int, gSub_int, gMul_int, gFdiv_int, gMod_int, gNeg_int, gLt_int, gLe_int, gGt_int, gGe_int, gIsN_eq, gNotN_eq, isNon, gInt_int, gLen_lst, gLen_tup, gTru_bl, argsD, lentOf, iosOk, putOuts, allHot, outsOf, D.frz, frzL, frost_own, frost_frz, frost_fix, nameG, consG, nilG, tupG, unlG, tyD, le_size, lt_size, gEq_eq, gNe_eq, deq_int, deq_ints, deq_three, shp_int, shp_ints, shp_three, shp_non, shp_bl, Env.wipe, Env.back, coldL_ints, hotL_ints, frzL_ints, coldL_strs, hotL_strs, frzL_strs]) (rangeL 0 1 k) [some (stD a b), some (.lst .own (lD ls)), none, none, none, none, none, none, none] ⟨fun d hd => by
      unfold rangeL at hd
      obtain ⟨i, _, rfl⟩ := List.mem_map.mp hd
      exact ⟨_, rfl⟩, a, b, ls, none, none, rfl, rfl, hg⟩
  exact ⟨a', b', ls', o2, o3, h, h2, h3⟩
end KL

set_option Elab.async false
set_option linter.all false
set_option maxRecDepth 100000
set_option maxHeartbeats 4000000
namespace KL
open PySem VC KN
theorem len_dL (rows : List (List Nat)) : (dL rows).length = rows.length := by simp
theorem get_dL {rows : List (List Nat)} {j : Nat} {l : List Nat} (h : rows[j]? = some l) : (dL rows)[j]? = some (.str (S l)) := by
  rw [List.getElem?_map, h]; rfl
theorem get_of {α : Type} {l : List α} {k : Nat} {x : α} (h : l[k]? = some x) : ∀ h : k < l.length, l[k]'h = x := fun h' => by
  have := List.getElem?_eq_getElem h'
  rw [h] at this
  exact (Option.some.inj this).symm
theorem pop_rows (rows : List (List Nat)) (j : Nat) (hj : j < rows.length) (hl : rows.length ≤ 1000) : ∃ y, gPopAt (dL rows) [.int (j : Nat)] = some (dL (rows.eraseIdx j), y) := by
  have h1 : small63 (j : Int) = true := grd_iff.mpr ⟨by omega, by omega⟩
  have hneg : ¬ ((j : Int) < 0) := by omega
  have h2 : seqIndex? (j : Int) (dL rows).length = some j := by
    rw [len_dL]
    simp [seqIndex?, hneg]
    omega
  obtain ⟨l, h3⟩ : ∃ l, rows[j]? = some l := ⟨_, List.getElem?_eq_getElem hj⟩
  refine ⟨.str (S l), ?_⟩
  unfold gPopAt
  dsimp only
  rw [if_pos h1, h2, Option.bind_some, get_dL h3, Option.map_some]
  have : (dL rows).eraseIdx j = dL (rows.eraseIdx j) := by simp [List.eraseIdx_eq_take_drop_succ, List.map_take, List.map_drop]
  rw [this]
theorem ins_rows (rows : List (List Nat)) (j : Nat) (l : List Nat) (hj : j < rows.length) (hl : rows.length ≤ 1000) : gInsert (dL rows) [.int (j : Nat), .str (S l)] = some (dL (rows.take j ++ [l] ++ rows.drop j), .non) := by
  have h1 : small63 (j : Int) = true := grd_iff.mpr ⟨by omega, by omega⟩
  have h2 : (dL rows).length < sizeLine := of_eq_true (lt_size (by rw [len_dL]; omega))
  unfold gInsert
  dsimp only
  rw [if_pos ⟨h2, by omega, h1⟩, Int.toNat_natCast]
  simp [List.map_take, List.map_drop]
theorem pick_str (a b : Int) : ∃ m a' b', f_law_pick [stD a b, .tup [.str (Str.ofString "97"), .str (Str.ofString "99"), .str (Str.ofString "-1"), .str (Str.ofString "a0"), .str (Str.ofString "1")]] = some (.str (S m), [stD a' b']) ∧ m.length ≤ 2 := by
  obtain ⟨d, a', b', h, hd⟩ := pick_tup a b [.str (Str.ofString "97"), .str (Str.ofString "99"), .str (Str.ofString "-1"), .str (Str.ofString "a0"), .str (Str.ofString "1")] rfl rfl rfl (by simp) (by simp)
  have : ∃ m, d = .str (S m) ∧ m.length ≤ 2 := by
    simp only [List.mem_cons, List.not_mem_nil, or_false] at hd
    rcases hd with rfl | rfl | rfl | rfl | rfl
    · exact ⟨[57, 55], congrArg D.str (by decide), by simp⟩
    · exact ⟨[57, 57], congrArg D.str (by decide), by simp⟩
    · exact ⟨[45, 49], congrArg D.str (by decide), by simp⟩
    · exact ⟨[97, 48], congrArg D.str (by decide), by simp⟩
    · exact ⟨[49], congrArg D.str (by decide), by simp⟩
  obtain ⟨m, rfl, hm⟩ := this
  exact ⟨m, a', b', h, hm⟩
theorem set_ok {rows : List (List Nat)} (h : ∀ l ∈ rows, l.length ≤ 120) (j : Nat) (m : List Nat) (hm : m.length ≤ 1000) : ∀ l ∈ rows.set j m, l.length ≤ 1000 := fun l hl => by
  rcases List.mem_or_eq_of_mem_set hl with h' | h'
  · have := h l h'; omega
  · rw [h']; exact hm
theorem changed_ok (a b : Int) (ls : List (List Int)) (hn : 0 < ls.length ∧ ls.length ≤ 90) (hg : Good ls) : ∃ rows a' b', f_law_changed [stD a b, .lst .frz (lF ls)] = some (.lst .own (dL rows), [stD a' b']) ∧ RowsOk rows := by
  have hc1 := comp_own a b ls
  have hcd := cold_lF ls
  have hlen1 := len_lF ls
  obtain ⟨q0, a0, b0, e0, g1, g2⟩ := digit_ok a b 4 (by omega) (by omega)
  have s0 : small62 q0 = true := small62_of (by omega)
  obtain ⟨a1, b1, l1, o2, o3, hloop, hl1, hg1⟩ := chg_loop a0 b0 ls hn hg q0.toNat
  have hc2 := comp_wr a1 b1 l1 hg1 o2 o3
  have hfz := frz_lD l1
  have hlen2 := len_lF l1
  obtain ⟨R, hR⟩ : ∃ R, l1.map twos = R := ⟨_, rfl⟩
  rw [hR] at hc2
  have hRl : R.length = ls.length := by rw [← hR, List.length_map, hl1]
  have hRr : ∀ l ∈ R, l.length ≤ 120 := fun l hl => by
    rw [← hR] at hl
    obtain ⟨m, hm, rfl⟩ := List.mem_map.mp hl
    rw [twos_len]
    have := (hg1 m hm).1
    omega
  obtain ⟨q1, a2, b2, e1, g3, g4⟩ := digit_ok a1 b1 (ls.length : Int) (by omega) (by omega)
  obtain ⟨j, rfl⟩ := Int.eq_ofNat_of_zero_le g3
  have hj : j < R.length := by omega
  obtain ⟨ch, a3, b3, e2, g5, g6⟩ := digit_ok a2 b2 9 (by omega) (by omega)
  have hRL := len_dL R
  rw [hRl] at hRL
  have hcR := coldL_rows R
  obtain ⟨r1, hr1⟩ : ∃ l, R[j]? = some l := ⟨_, List.getElem?_eq_getElem hj⟩
  have hr1l := hRr r1 (List.mem_of_getElem? hr1)
  have hget := get_dL hr1
  have hix : L2.ixN ls.length (j : Int) = some j := ixN_nat (by omega)
  have hz1 : (ls.length < sizeLine) = True := lt_size (by omega)
  have hz2 : (l1.length < sizeLine) = True := lt_size (by omega)
  obtain ⟨y, hpop⟩ := pop_rows R j hj (by omega)
  obtain ⟨q2, a4, b4, e3, g7, g8⟩ := digit_ok a3 b3 (ls.length : Int) (by omega) (by omega)
  obtain ⟨j2, rfl⟩ := Int.eq_ofNat_of_zero_le g7
  obtain ⟨r2, hr2⟩ : ∃ l, R[j2]? = some l := ⟨_, List.getElem?_eq_getElem (by omega)⟩
  have hr2l := hRr r2 (List.mem_of_getElem? hr2)
  have hget2 := get_dL hr2
  have hix2 : L2.ixN ls.length (j2 : Int) = some j2 := ixN_nat (by omega)
  have hins := ins_rows R j r2 hj (by omega)
  have hswap : ((dL R).set j (.str (S r2))).set j2 (.str (S r1)) = dL ((R.set j r2).set j2 r1) := by rw [set_rows, set_rows]
  unfold f_law_changed runF m_law_changed c_law_changed_2 c_law_changed_1 l_law_changed_1 compE seqI seqKI forS range1I
  by_cases c0 : ch = 0
  · refine ⟨R.eraseIdx j, a3, b3, ?_, by rw [List.length_eraseIdx]; split <;> omega, fun l hl => by have := hRr l (List.mem_of_mem_eraseIdx hl); omega⟩
    generalize dL (R.eraseIdx j) = R2 at *
    generalize dL R = RR at *
    generalize lF ls = L1 at *
    generalize lD l1 = L2' at *
    generalize lF l1 = L3 at *
    generalize hLD : lD ls = L4 at *
    simp [-List.map_map, seqS, ifS, skipS, exprS, asgS, setS, retS, unpS, boolT, testT, notT, andT, orT, ifT, yesT, op2E, op1E, ixE, varE, constE, callE, fnE, consA, nilA, lateA, lstE, tupE, ifE, andE, orE, notE, chainE, methE, sliceE, partO, noO, takeL, take1, taken, srcSlots, Env.get, Env.putAt, Env.cools_nil, D.put, D.imm, immL, D.cold, coldL, D.hot, hotL, Z.cold, Z.hot, Src.fresh, gAdd_int, gSub_int, gMul_int, gFdiv_int, gMod_int, gNeg_int, gLt_int, gLe_int, gGt_int, gGe_int, gIsN_eq, gNotN_eq, isNon, gInt_int, gLen_lst, gLen_tup, gTru_bl, argsD, lentOf, iosOk, putOuts, allHot, outsOf, D.frz, frzL, frost_own, frost_frz, frost_fix, nameG, consG, nilG, tupG, unlG, tyD, le_size, lt_size, gEq_eq, gNe_eq, deq_int, deq_ints, deq_three, shp_int, shp_ints, shp_three, shp_non, shp_bl, Env.wipe, Env.back, coldL_ints, hotL_ints, frzL_ints, coldL_strs, hotL_strs, frzL_strs, hc1, hcd, hlen1, hlen2, e0, s0, hloop, hfz, hc2, hRL, e1, e2, c0, hcR, hpop, hz1, hz2, mutE]
  by_cases c1 : ch = 1
  · refine ⟨R.take j ++ [r2] ++ R.drop j, a4, b4, ?_, by simp; omega, fun l hl => ?_⟩
    · generalize dL (R.take j ++ [r2] ++ R.drop j) = R2 at *
      generalize dL R = RR at *
      generalize lF ls = L1 at *
      generalize lD l1 = L2' at *
      generalize lF l1 = L3 at *
      generalize hLD : lD ls = L4 at *
      simp [-List.map_map, seqS, ifS, skipS, exprS, asgS, setS, retS, unpS, boolT, testT, notT, andT, orT, ifT, yesT, op2E, op1E, ixE, varE, constE, callE, fnE, consA, nilA, lateA, lstE, tupE, ifE, andE, orE, notE, chainE, methE, sliceE, partO, noO, takeL, take1, taken, srcSlots, Env.get, Env.putAt, Env.cools_nil, D.put, D.imm, immL, D.cold, coldL, D.hot, hotL, Z.cold, Z.hot, Src.fresh, gAdd_int, gSub_int, gMul_int, gFdiv_int, gMod_int, gNeg_int, gLt_int, gLe_int, gGt_int, gGe_int, gIsN_eq, gNotN_eq, isNon, gInt_int, gLen_lst, gLen_tup, gTru_bl, argsD, lentOf, iosOk, putOuts, allHot, outsOf, D.frz, frzL, frost_own, frost_frz, frost_fix, nameG, consG, nilG, tupG, unlG, tyD, le_size, lt_size, gEq_eq, gNe_eq, deq_int, deq_ints, deq_three, shp_int, shp_ints, shp_three, shp_non, shp_bl, Env.wipe, Env.back, coldL_ints, hotL_ints, frzL_ints, coldL_strs, hotL_strs, frzL_strs, hc1, hcd, hlen1, hlen2, e0, s0, hloop, hfz, hc2, hRL, e1, e2, c1, hcR, hz1, hz2, mutE, e3, hix2, hget2, get_of hget2, hins]
    · simp only [List.mem_append, List.mem_singleton] at hl
      rcases hl with (hl | hl) | hl
      · have := hRr l (List.mem_of_mem_take hl); omega
      · rw [hl]; omega
      · have := hRr l (List.mem_of_mem_drop hl); omega
  by_cases c2 : ch = 2
  · refine ⟨(R.set j r2).set j2 r1, a4, b4, ?_, by rw [List.length_set, List.length_set]; omega, fun l hl => ?_⟩
    · generalize dL ((R.set j r2).set j2 r1) = R2 at *
      generalize dL R = RR at *
      generalize lF ls = L1 at *
      generalize lD l1 = L2' at *
      generalize lF l1 = L3 at *
      generalize hLD : lD ls = L4 at *
      simp [-List.map_map, seqS, ifS, skipS, exprS, asgS, setS, retS, unpS, boolT, testT, notT, andT, orT, ifT, yesT, op2E, op1E, ixE, varE, constE, callE, fnE, consA, nilA, lateA, lstE, tupE, ifE, andE, orE, notE, chainE, methE, sliceE, partO, noO, takeL, take1, taken, srcSlots, Env.get, Env.putAt, Env.cools_nil, D.put, D.imm, immL, D.cold, coldL, D.hot, hotL, Z.cold, Z.hot, Src.fresh, gAdd_int, gSub_int, gMul_int, gFdiv_int, gMod_int, gNeg_int, gLt_int, gLe_int, gGt_int, gGe_int, gIsN_eq, gNotN_eq, isNon, gInt_int, gLen_lst, gLen_tup, gTru_bl, argsD, lentOf, iosOk, putOuts, allHot, outsOf, D.frz, frzL, frost_own, frost_frz, frost_fix, nameG, consG, nilG, tupG, unlG, tyD, le_size, lt_size, gEq_eq, gNe_eq, deq_int, deq_ints, deq_three, shp_int, shp_ints, shp_three, shp_non, shp_bl, Env.wipe, Env.back, coldL_ints, hotL_ints, frzL_ints, coldL_strs, hotL_strs, frzL_strs, hc1, hcd, hlen1, hlen2, e0, s0, hloop, hfz, hc2, hRL, e1, e2, c2, hcR, hz1, hz2, e3, hix, hget, get_of hget, hix2, hget2, get_of hget2, swapS, setV, hswap]
    · rcases List.mem_or_eq_of_mem_set hl with h | h
      · rcases List.mem_or_eq_of_mem_set h with h | h
        · have := hRr l h; omega
        · rw [h]; omega
      · rw [h]; omega
  by_cases c3 : ch = 3
  · obtain ⟨q3, a5, b5, e4, g9, g10⟩ := digit_ok a3 b3 120 (by omega) (by omega)
    obtain ⟨m1, f1, f1l⟩ := cut_S r1 (by omega) none (some q3)
    obtain ⟨m2, f2, f2l⟩ := cut_S r1 (by omega) none (some 50)
    have f3 : gAdd (.str (S m1)) (.str (Str.ofString "x")) = some (.str (S (m1 ++ [120]))) := by
      rw [show Str.ofString "x" = S [120] from by decide]; exact add_S _ _ (by simp; omega)
    have f4 := add_S (m1 ++ [120]) m2 (by simp; omega)
    have hset := set_rows R j (m1 ++ [120] ++ m2)
    refine ⟨R.set j (m1 ++ [120] ++ m2), a5, b5, ?_, by rw [List.length_set]; omega, set_ok hRr j _ (by simp; omega)⟩
    generalize m1 ++ [120] ++ m2 = M2 at *
    generalize m1 ++ [120] = M1 at *
    generalize dL (R.set j M2) = R2 at *
    generalize dL R = RR at *
    generalize lF ls = L1 at *
    generalize lD l1 = L2' at *
    generalize lF l1 = L3 at *
    generalize hLD : lD ls = L4 at *
    simp [-List.map_map, seqS, ifS, skipS, exprS, asgS, setS, retS, unpS, boolT, testT, notT, andT, orT, ifT, yesT, op2E, op1E, ixE, varE, constE, callE, fnE, consA, nilA, lateA, lstE, tupE, ifE, andE, orE, notE, chainE, methE, sliceE, partO, noO, takeL, take1, taken, srcSlots, Env.get, Env.putAt, Env.cools_nil, D.put, D.imm, immL, D.cold, coldL, D.hot, hotL, Z.cold, Z.hot, Src.fresh, gAdd_int, gSub_int, gMul_int, gFdiv_int, gMod_int, gNeg_int, gLt_int, gLe_int, gGt_int, gGe_int, gIsN_eq, gNotN_eq, isNon, gInt_int, gLen_lst, gLen_tup, gTru_bl, argsD, lentOf, iosOk, putOuts, allHot, outsOf, D.frz, frzL, frost_own, frost_frz, frost_fix, nameG, consG, nilG, tupG, unlG, tyD, le_size, lt_size, gEq_eq, gNe_eq, deq_int, deq_ints, deq_three, shp_int, shp_ints, shp_three, shp_non, shp_bl, Env.wipe, Env.back, coldL_ints, hotL_ints, frzL_ints, coldL_strs, hotL_strs, frzL_strs, hc1, hcd, hlen1, hlen2, e0, s0, hloop, hfz, hc2, hRL, e1, e2, c3, hcR, hz1, hz2, e4, hix, hget, get_of hget, f1, f2, f3, f4, hset]
  by_cases c4 : ch = 4
  · obtain ⟨q3, a5, b5, e4, g9, g10⟩ := digit_ok a3 b3 60 (by omega) (by omega)
    obtain ⟨mp, a6, b6, e5, mpl⟩ := pick_str a5 b5
    have s2 : small64 2 = true := small64_of (by omega)
    obtain ⟨m1, f1, f1l⟩ := cut_S r1 (by omega) none (some (2 * q3))
    obtain ⟨m2, f2, f2l⟩ := cut_S r1 (by omega) (some (2 * q3 + 2)) none
    have f3 := add_S m1 mp (by omega)
    have f4 := add_S (m1 ++ mp) m2 (by simp; omega)
    have hset := set_rows R j (m1 ++ mp ++ m2)
    refine ⟨R.set j (m1 ++ mp ++ m2), a6, b6, ?_, by rw [List.length_set]; omega, set_ok hRr j _ (by simp; omega)⟩
    generalize m1 ++ mp ++ m2 = M2 at *
    generalize m1 ++ mp = M1 at *
    generalize dL (R.set j M2) = R2 at *
    generalize dL R = RR at *
    generalize lF ls = L1 at *
    generalize lD l1 = L2' at *
    generalize lF l1 = L3 at *
    generalize hLD : lD ls = L4 at *
    simp [-List.map_map, seqS, ifS, skipS, exprS, asgS, setS, retS, unpS, boolT, testT, notT, andT, orT, ifT, yesT, op2E, op1E, ixE, varE, constE, callE, fnE, consA, nilA, lateA, lstE, tupE, ifE, andE, orE, notE, chainE, methE, sliceE, partO, noO, takeL, take1, taken, srcSlots, Env.get, Env.putAt, Env.cools_nil, D.put, D.imm, immL, D.cold, coldL, D.hot, hotL, Z.cold, Z.hot, Src.fresh, gAdd_int, gSub_int, gMul_int, gFdiv_int, gMod_int, gNeg_int, gLt_int, gLe_int, gGt_int, gGe_int, gIsN_eq, gNotN_eq, isNon, gInt_int, gLen_lst, gLen_tup, gTru_bl, argsD, lentOf, iosOk, putOuts, allHot, outsOf, D.frz, frzL, frost_own, frost_frz, frost_fix, nameG, consG, nilG, tupG, unlG, tyD, le_size, lt_size, gEq_eq, gNe_eq, deq_int, deq_ints, deq_three, shp_int, shp_ints, shp_three, shp_non, shp_bl, Env.wipe, Env.back, coldL_ints, hotL_ints, frzL_ints, coldL_strs, hotL_strs, frzL_strs, hc1, hcd, hlen1, hlen2, e0, s0, hloop, hfz, hc2, hRL, e1, e2, c4, hcR, hz1, hz2, e4, e5, s2, hix, hget, get_of hget, f1, f2, f3, f4, hset]
  · refine ⟨R, a3, b3, ?_, by omega, fun l hl => by have := hRr l hl; omega⟩
    generalize dL R = RR at *
    generalize lF ls = L1 at *
    generalize lD l1 = L2' at *
    generalize lF l1 = L3 at *
    generalize hLD : lD ls = L4 at *
    simp [-List.map_map, seqS, ifS, skipS, exprS, asgS, setS, retS, unpS, boolT, testT, notT, andT, orT, ifT, yesT, op2E, op1E, ixE, varE, constE, callE, fnE, consA, nilA, lateA, lstE, tupE, ifE, andE, orE, notE, chainE, methE, sliceE, partO, noO, takeL, take1, taken, srcSlots, Env.get, Env.putAt, Env.cools_nil, D.put, D.imm, immL, D.cold, coldL, D.hot, hotL, Z.cold, Z.hot, Src.fresh, gAdd_int, gSub_int, gMul_int, gFdiv_int, gMod_int, gNeg_int, gLt_int, gLe_int, gGt_int, gGe_int, gIsN_eq, gNotN_eq, isNon, gInt_int, gLen_lst, gLen_tup, gTru_bl, argsD, lentOf, iosOk, putOuts, allHot, outsOf, D.frz, frzL, frost_own, frost_frz, frost_fix, nameG, consG, nilG, tupG, unlG, tyD, le_size, lt_size, gEq_eq, gNe_eq, deq_int, deq_ints, deq_three, shp_int, shp_ints, shp_three, shp_non, shp_bl, Env.wipe, Env.back, coldL_ints, hotL_ints, frzL_ints, coldL_strs, hotL_strs, frzL_strs, hc1, hcd, hlen1, hlen2, e0, s0, hloop, hfz, hc2, hRL, e1, e2, c0, c1, c2, c3, c4, hcR, hz1, hz2]
end KL

set_option Elab.async false
set_option linter.all false
set_option maxRecDepth 100000
set_option maxHeartbeats 4000000
namespace KL
open PySem VC KN
theorem rD_ne (x : Option (List Int)) : gNe (rD x) (rD x) = some (.bl false) := by
  cases x with
  | none => rw [show rD none = .non from rfl, gNe_eq _ _ shp_non shp_non]; rfl
  | some xs =>
    rw [show rD (some xs) = .lst .own (dI xs) from rfl, gNe_eq _ _ (shp_ints _ _) (shp_ints _ _), deq_refl_ints]; rfl
theorem ints_ne (z y : Z) (xs : List Int) : gNe (.lst z (dI xs)) (.lst y (dI xs)) = some (.bl false) := by
  rw [gNe_eq _ _ (shp_ints _ _) (shp_ints _ _), deq_refl_ints]; rfl
abbrev EV (sc nm : D) (a b : Int) (o3 o4 o5 o6 o7 o8 o9 o10 o11 o12 o13 : Option D) : VC.Env := [some sc, some nm, some (stD a b), o3, o4, o5, o6, o7, o8, o9, o10, o11, o12, o13]
theorem law_body2 (sc nm : D) (a b : Int) (R : List Int) (hl : R.length = 60) (hr : ∀ x ∈ R, 0 ≤ x ∧ x < 97) (o3 o4 o5 o7 o8 o9 o10 o11 o12 o13 : Option D) : ∃ a' b' R', b_law_2 (EV sc nm a b o3 o4 o5 (some (.lst .own (dI R))) o7 o8 o9 o10 o11 o12 o13) = some (.nx (EV sc nm a' b' o3 o4 o5 (some (.lst .own (dI R'))) o7 o8 o9 o10 o11 o12 o13)) ∧ R'.length = 60 ∧ ∀ x ∈ R', 0 ≤ x ∧ x < 97 := by
  obtain ⟨v, a2, b2, e2, g3, g4⟩ := digit_ok a b 97 (by omega) (by omega)
  obtain ⟨x3, a3, b3, e3, g5, g6⟩ := digit_ok a2 b2 60 (by omega) (by omega)
  obtain ⟨i, rfl⟩ := Int.eq_ofNat_of_zero_le g5
  have i2 : L2.ixN 60 (i : Int) = some i := ixN_nat (by omega)
  have hs1 : (dI R).set i (.int v) = dI (R.set i v) := (List.map_set ..).symm
  refine ⟨a3, b3, R.set i v, ?_, by rw [List.length_set]; exact hl, fun x hx => ?_⟩
  · generalize R.set i v = R2 at *
    unfold b_law_2
    simp (config := { maxSteps := 3000000 }) [-List.map_map, seqS, ifS, skipS, exprS, asgS, setS, retS, unpS, boolT, testT, notT, andT, orT, ifT, yesT, op2E, op1E, ixE, varE, constE, callE, fnE, consA, nilA, lateA, lstE, tupE, ifE, andE, orE, notE, chainE, methE, sliceE, partO, noO, takeL, take1, taken, srcSlots, Env.get, Env.putAt, Env.cools_nil, D.put, D.imm, immL, D.cold, coldL, D.hot, hotL, Z.cold, Z.hot, Src.fresh, gAdd_int, gSub_int, gMul_int, gFdiv_int, gMod_int, gNeg_int, gLt_int, gLe_int, gGt_int, gGe_int, gIsN_eq, gNotN_eq, isNon, gInt_int, gLen_lst, gLen_tup, gTru_bl, argsD, lentOf, iosOk, putOuts, allHot, outsOf, D.frz, frzL, frost_own, frost_frz, frost_fix, nameG, consG, nilG, tupG, unlG, tyD, le_size, lt_size, gEq_eq, gNe_eq, deq_int, deq_ints, deq_three, shp_int, shp_ints, shp_three, shp_non, shp_bl, Env.wipe, Env.back, coldL_ints, hotL_ints, frzL_ints, coldL_strs, hotL_strs, frzL_strs, e2, e3, i2, hl, hs1]
  · rcases List.mem_or_eq_of_mem_set hx with h | h
    · exact hr x h
    · rw [h]; exact ⟨g3, g4⟩
theorem law_loop2 (sc nm : D) (a b : Int) (R : List Int) (hl : R.length = 60) (hr : ∀ x ∈ R, 0 ≤ x ∧ x < 97) (o3 o4 o5 o7 o8 o9 o10 o11 o12 o13 : Option D) (k : Nat) : ∃ a' b' R' o7', forL (nameG 7 []) b_law_2 (rangeL 0 1 k) (EV sc nm a b o3 o4 o5 (some (.lst .own (dI R))) o7 o8 o9 o10 o11 o12 o13) = some (.nx (EV sc nm a' b' o3 o4 o5 (some (.lst .own (dI R'))) o7' o8 o9 o10 o11 o12 o13)) ∧ R'.length = 60 ∧ ∀ x ∈ R', 0 ≤ x ∧ x < 97 := by
  obtain ⟨e, h, _, a', b', R', o7', rfl, h2, h3⟩ := forL_go (bd := nameG 7 []) (body := b_law_2) (fun ds env => (∀ d ∈ ds, ∃ i, d = .int i) ∧ ∃ a' b' R' o7', env = EV sc nm a' b' o3 o4 o5 (some (.lst .own (dI R'))) o7' o8 o9 o10 o11 o12 o13 ∧ R'.length = 60 ∧ ∀ x ∈ R', 0 ≤ x ∧ x < 97) (by
    rintro d ds env ⟨hd, a1, b1, R1, o7, rfl, h1, h2⟩
    obtain ⟨i, rfl⟩ := hd d (by simp)
    obtain ⟨a', b', R', hb, h3, h4⟩ := law_body2 sc nm a1 b1 R1 h1 h2 o3 o4 o5 (some (.int i)) o8 o9 o10 o11 o12 o13
    refine ⟨_, _, ?_, .inl hb, fun d hd' => hd d (by simp [hd']), a', b', R', _, rfl, h3, h4⟩
    simp (config := { maxSteps := 3000000 }) [-List.map_map, seqS, ifS, skipS, exprS, asgS, setS, retS, unpS, boolT, testT, notT, andT, orT, ifT, yesT, op2E, op1E, ixE, varE, constE, callE, fnE, consA, nilA, lateA, lstE, tupE, ifE, andE, orE, notE, chainE, methE, sliceE, partO, noO, takeL, take1, taken, srcSlots, Env.get, Env.putAt, Env.cools_nil, D.put, D.imm, immL, D.cold, coldL, D.hot, hotL, Z.cold, Z.hot, Src.fresh, gAdd_int, gSub_int, gMul_int, gFdiv_int, gMod_int, gNeg_int, gLt_int, gLe_int, gGt_int, gGe_int, gIsN_eq, gNotN_eq, isNon, gInt_int, gLen_lst, gLen_tup, gTru_bl, argsD, lentOf, iosOk, putOuts, allHot, outsOf, D.frz, frzL, frost_own, frost_frz, frost_fix, nameG, consG, nilG, tupG, unlG, tyD, le_size, lt_size, gEq_eq, gNe_eq, deq_int, deq_ints, deq_three, shp_int, shp_ints, shp_three, shp_non, shp_bl, Env.wipe, Env.back, coldL_ints, hotL_ints, frzL_ints, coldL_strs, hotL_strs, frzL_strs]) (rangeL 0 1 k) (EV sc nm a b o3 o4 o5 (some (.lst .own (dI R))) o7 o8 o9 o10 o11 o12 o13) ⟨fun d hd => by
      unfold rangeL at hd
      obtain ⟨i, _, rfl⟩ := List.mem_map.mp hd
      exact ⟨_, rfl⟩, a, b, R, o7, rfl, hl, hr⟩
  exact ⟨a', b', R', o7', h, h2, h3⟩
theorem law_body3 (sc nm : D) (a b : Int) (o3 o4 o5 o6 o7 o8 o9 o10 o11 o12 o13 : Option D) : ∃ a' b' o4' o5' o6' o7' o8', b_law_3 (EV sc nm a b o3 o4 o5 o6 o7 o8 o9 o10 o11 o12 o13) = some (.nx (EV sc nm a' b' o3 o4' o5' o6' o7' o8' o9 o10 o11 o12 o13)) := by
  obtain ⟨q, a1, b1, e1, g1, g2⟩ := digit_ok a b 9408 (by omega) (by omega)
  obtain ⟨d, a2, b2, e2, hd⟩ := pick_tup a1 b1 [.int 1, .int 2, .int 97, .int 98, .int 9408, .int (1 + q)] rfl rfl rfl (by simp) (by simp)
  obtain ⟨w, rfl, hw⟩ : ∃ w : Int, d = .int w ∧ 0 ≤ w ∧ w < 9409 := by
    simp only [List.mem_cons, List.not_mem_nil, or_false] at hd
    rcases hd with rfl | rfl | rfl | rfl | rfl | rfl <;> exact ⟨_, rfl, by omega, by omega⟩
  have s55 : small62 55 = true := small62_of (by omega)
  obtain ⟨ys, e', h1, ⟨a3, b3, rfl⟩, h3, h4⟩ := compL_inv (vs := [7]) (Mc := []) (bd := nameG 7 []) (fe := ce_law_3) (fun env => ∃ a b, env = EV sc nm a b o3 (some (.int w)) o5 o6 none o8 o9 o10 o11 o12 o13) R97 (ds := rangeL 0 1 55) (env := EV sc nm a2 b2 o3 (some (.int w)) o5 o6 none o8 o9 o10 o11 o12 o13) (by
    intro d hd env ⟨a, b, he⟩
    subst he
    obtain ⟨x, a', b', e1, g1, g2⟩ := digit_ok a b 97 (by omega) (by omega)
    unfold rangeL at hd
    obtain ⟨i, hi, rfl⟩ := List.mem_map.mp hd
    refine ⟨EV sc nm a b o3 (some (.int w)) o5 o6 (some (.int (0 + (i : Nat) * 1))) o8 o9 o10 o11 o12 o13, .int x, EV sc nm a' b' o3 (some (.int w)) o5 o6 (some (.int (0 + (i : Nat) * 1))) o8 o9 o10 o11 o12 o13, by simp (config := { maxSteps := 3000000 }) [-List.map_map, seqS, ifS, skipS, exprS, asgS, setS, retS, unpS, boolT, testT, notT, andT, orT, ifT, yesT, op2E, op1E, ixE, varE, constE, callE, fnE, consA, nilA, lateA, lstE, tupE, ifE, andE, orE, notE, chainE, methE, sliceE, partO, noO, takeL, take1, taken, srcSlots, Env.get, Env.putAt, Env.cools_nil, D.put, D.imm, immL, D.cold, coldL, D.hot, hotL, Z.cold, Z.hot, Src.fresh, gAdd_int, gSub_int, gMul_int, gFdiv_int, gMod_int, gNeg_int, gLt_int, gLe_int, gGt_int, gGe_int, gIsN_eq, gNotN_eq, isNon, gInt_int, gLen_lst, gLen_tup, gTru_bl, argsD, lentOf, iosOk, putOuts, allHot, outsOf, D.frz, frzL, frost_own, frost_frz, frost_fix, nameG, consG, nilG, tupG, unlG, tyD, le_size, lt_size, gEq_eq, gNe_eq, deq_int, deq_ints, deq_three, shp_int, shp_ints, shp_three, shp_non, shp_bl, Env.wipe, Env.back, coldL_ints, hotL_ints, frzL_ints, coldL_strs, hotL_strs, frzL_strs], ?_, ⟨x, rfl, by omega, by omega⟩, ⟨a', b', by simp [Env.wipe]⟩⟩
    unfold ce_law_3
    simp (config := { maxSteps := 3000000 }) [-List.map_map, seqS, ifS, skipS, exprS, asgS, setS, retS, unpS, boolT, testT, notT, andT, orT, ifT, yesT, op2E, op1E, ixE, varE, constE, callE, fnE, consA, nilA, lateA, lstE, tupE, ifE, andE, orE, notE, chainE, methE, sliceE, partO, noO, takeL, take1, taken, srcSlots, Env.get, Env.putAt, Env.cools_nil, D.put, D.imm, immL, D.cold, coldL, D.hot, hotL, Z.cold, Z.hot, Src.fresh, gAdd_int, gSub_int, gMul_int, gFdiv_int, gMod_int, gNeg_int, gLt_int, gLe_int, gGt_int, gGe_int, gIsN_eq, gNotN_eq, isNon, gInt_int, gLen_lst, gLen_tup, gTru_bl, argsD, lentOf, iosOk, putOuts, allHot, outsOf, D.frz, frzL, frost_own, frost_frz, frost_fix, nameG, consG, nilG, tupG, unlG, tyD, le_size, lt_size, gEq_eq, gNe_eq, deq_int, deq_ints, deq_three, shp_int, shp_ints, shp_three, shp_non, shp_bl, Env.wipe, Env.back, coldL_ints, hotL_ints, frzL_ints, coldL_strs, hotL_strs, frzL_strs, e1]) ⟨a2, b2, rfl⟩
  obtain ⟨xs, rfl, hxs⟩ := ints_of h4
  rw [List.length_map, rangeL_length] at h3
  have f1 := law_line_ok .frz (by decide) w xs h3
  have f2 := line_of_ok .frz (by decide) w xs (by omega)
  have hLl : (lineOf w xs).length = 60 := by rw [lineOf_len, h3]
  have hLr := lineOf_rng hw hxs
  generalize lineOf w xs = Ln at *
  obtain ⟨d2, a4, b4, e4, hd2⟩ := pick_tup a3 b3 [.int 0, .int 1, .int 1, .int 2, .int 3, .int 60] rfl rfl rfl (by simp) (by simp)
  obtain ⟨kk, rfl, hkk⟩ : ∃ w : Int, d2 = .int w ∧ 0 ≤ w ∧ w < 100 := by
    simp only [List.mem_cons, List.not_mem_nil, or_false] at hd2
    rcases hd2 with rfl | rfl | rfl | rfl | rfl | rfl <;> exact ⟨_, rfl, by omega, by omega⟩
  have skk : small62 kk = true := small62_of (by omega)
  obtain ⟨a5, b5, R, o7', hl2, hRl, hRr⟩ := law_loop2 sc nm a4 b4 Ln hLl hLr o3 (some (.int w)) (some (.lst .own (dI xs))) o7 o8 o9 o10 o11 o12 o13 kk.toNat
  have f3 := righted_ok .frz R hRl
  have f4 := law_righted_ok .frz (by decide) R hRl
  have f5 := rD_ne (prR R)
  have f6 := rD_hot (prR R)
  generalize rD (prR R) = RD at *
  have f7 := ints_ne .own .own R
  have f8 := ints_ne .own .own Ln
  refine ⟨a5, b5, some (.int w), some (.lst .own (dI xs)), some (.lst .own (dI R)), o7', some (.lst .own (dI R)), ?_⟩
  unfold b_law_3 c_law_3 compE range1I l_law_2 forS range1I
  simp (config := { maxSteps := 3000000 }) [-List.map_map, seqS, ifS, skipS, exprS, asgS, setS, retS, unpS, boolT, testT, notT, andT, orT, ifT, yesT, op2E, op1E, ixE, varE, constE, callE, fnE, consA, nilA, lateA, lstE, tupE, ifE, andE, orE, notE, chainE, methE, sliceE, partO, noO, takeL, take1, taken, srcSlots, Env.get, Env.putAt, Env.cools_nil, D.put, D.imm, immL, D.cold, coldL, D.hot, hotL, Z.cold, Z.hot, Src.fresh, gAdd_int, gSub_int, gMul_int, gFdiv_int, gMod_int, gNeg_int, gLt_int, gLe_int, gGt_int, gGe_int, gIsN_eq, gNotN_eq, isNon, gInt_int, gLen_lst, gLen_tup, gTru_bl, argsD, lentOf, iosOk, putOuts, allHot, outsOf, D.frz, frzL, frost_own, frost_frz, frost_fix, nameG, consG, nilG, tupG, unlG, tyD, le_size, lt_size, gEq_eq, gNe_eq, deq_int, deq_ints, deq_three, shp_int, shp_ints, shp_three, shp_non, shp_bl, Env.wipe, Env.back, coldL_ints, hotL_ints, frzL_ints, coldL_strs, hotL_strs, frzL_strs, -gNe_eq, e1, e2, s55, rangeL_length, h1, f1, f2, f8, e4, skk, hl2, f3, f4, f5, f6, f7, gList_lst]
end KL

set_option Elab.async false
set_option linter.all false
set_option maxRecDepth 100000
set_option maxHeartbeats 4000000
namespace KL
open PySem VC KN
theorem law_loop3 (sc nm : D) (a b : Int) (o3 o4 o5 o6 o7 o8 o9 o10 o11 o12 o13 : Option D) (k : Nat) : ∃ a' b' o3' o4' o5' o6' o7' o8', forL (nameG 3 []) b_law_3 (rangeL 0 1 k) (EV sc nm a b o3 o4 o5 o6 o7 o8 o9 o10 o11 o12 o13) = some (.nx (EV sc nm a' b' o3' o4' o5' o6' o7' o8' o9 o10 o11 o12 o13)) := by
  obtain ⟨e, h, _, a', b', o3', o4', o5', o6', o7', o8', rfl⟩ := forL_go (bd := nameG 3 []) (body := b_law_3) (fun ds env => (∀ d ∈ ds, ∃ i, d = .int i) ∧ ∃ a' b' o3' o4' o5' o6' o7' o8', env = EV sc nm a' b' o3' o4' o5' o6' o7' o8' o9 o10 o11 o12 o13) (by
    rintro d ds env ⟨hd, a1, b1, o3, o4, o5, o6, o7, o8, rfl⟩
    obtain ⟨i, rfl⟩ := hd d (by simp)
    obtain ⟨a', b', o4', o5', o6', o7', o8', hb⟩ := law_body3 sc nm a1 b1 (some (.int i)) o4 o5 o6 o7 o8 o9 o10 o11 o12 o13
    refine ⟨_, _, ?_, .inl hb, fun d hd' => hd d (by simp [hd']), a', b', _, o4', o5', o6', o7', o8', rfl⟩
    simp [-List.map_map, seqS, ifS, skipS, exprS, asgS, setS, retS, unpS, boolT, testT, notT, andT, orT, ifT, yesT, op2E, op1E, ixE, varE, constE, callE, fnE, consA, nilA, lateA, lstE, tupE, ifE, andE, orE, notE, chainE, methE, sliceE, partO, noO, takeL, take1, taken, srcSlots, Env.get, Env.putAt, Env.cools_nil, D.put, D.imm, immL, D.cold, coldL, D.hot, hotL, Z.cold, Z.hot, Src.fresh, gAdd_int, gSub_int, gMul_int, gFdiv_int, gMod_int, gNeg_int, gLt_int, gLe_int, gGt_int, gGe_int, gIsN_eq, gNotN_eq, isNon, gInt_int, gLen_lst, gLen_tup, gTru_bl, argsD, lentOf, iosOk, putOuts, allHot, outsOf, D.frz, frzL, frost_own, frost_frz, frost_fix, nameG, consG, nilG, tupG, unlG, tyD, le_size, lt_size, gEq_eq, gNe_eq, deq_int, deq_ints, deq_three, shp_int, shp_ints, shp_three, shp_non, shp_bl, Env.wipe, Env.back, coldL_ints, hotL_ints, frzL_ints, coldL_strs, hotL_strs, frzL_strs]) (rangeL 0 1 k) (EV sc nm a b o3 o4 o5 o6 o7 o8 o9 o10 o11 o12 o13) ⟨fun d hd => by
      unfold rangeL at hd
      obtain ⟨i, _, rfl⟩ := List.mem_map.mp hd
      exact ⟨_, rfl⟩, a, b, o3, o4, o5, o6, o7, o8, rfl⟩
  exact ⟨a', b', o3', o4', o5', o6', o7', o8', h⟩
theorem tell_hot (rows k F) : (tell rows k F).hot = true ∧ (tell rows k F).imm = true := by
  rcases tell_form rows k F with ⟨n, h⟩ | ⟨G, h⟩
  · rw [h]; exact ⟨rfl, rfl⟩
  · rw [h]; exact ⟨rfl, rfl⟩
theorem tell_ne (rows k F) : gNe (tell rows k F) (tell rows k F) = some (.bl false) := by
  have h := tell_shp rows k F
  rw [gNe_eq _ _ h.1 h.1, h.2]; rfl
theorem rows_ne (z y : Z) (rows : List (List Nat)) (h : ∀ l ∈ rows, ∀ c ∈ l, c < 1114112) : gNe (.lst z (dL rows)) (.lst y (dL rows)) = some (.bl false) := by
  have e : dL rows = dS (rows.map SX.S) := by simp only [List.map_map]; rfl
  have hs : ∀ w, shp (.lst w (dL rows)) = true := fun w => by
    rw [e]
    refine shp_strs _ _ fun x hx => ?_
    obtain ⟨l, hl, rfl⟩ := List.mem_map.mp hx
    exact strOk_S (h l hl)
  rw [gNe_eq _ _ (hs _) (hs _), e, deq_strs]
  simp
theorem law_body1 (sc nm : D) (a b : Int) (M : List D) (L : List (List Int)) (hM : frzL M = lF L) (hn : 0 < L.length ∧ L.length ≤ 90) (hg : Good L) (o3 o4 o5 o6 o7 o8 o9 o10 o12 o13 : Option D) : ∃ a' b' o12', b_law_1 (EV sc nm a b o3 o4 o5 o6 o7 o8 o9 o10 (some (.lst .own M)) o12 o13) = some (.nx (EV sc nm a' b' o3 o4 o5 o6 o7 o8 o9 o10 (some (.lst .own M)) o12' o13)) := by
  obtain ⟨rows, a1, b1, e1, hr1, hr2⟩ := changed_ok a b L hn hg
  have e2 := text_of_ok .frz rows hr1 hr2
  have e3 := law_told_ok .frz rows hr1 hr2
  have h1 := (tell_hot rows 0 []).1
  have h3 := tell_ne rows 0 []
  have hc := coldL_rows rows
  have hf := frzL_rows rows
  have hh := hotL_rows rows
  refine ⟨a1, b1, some (.lst .own (dL rows)), ?_⟩
  generalize tell rows 0 [] = T at *
  generalize dL rows = RR at *
  generalize lF L = L1 at *
  unfold b_law_1
  simp [-List.map_map, seqS, ifS, skipS, exprS, asgS, setS, retS, unpS, boolT, testT, notT, andT, orT, ifT, yesT, op2E, op1E, ixE, varE, constE, callE, fnE, consA, nilA, lateA, lstE, tupE, ifE, andE, orE, notE, chainE, methE, sliceE, partO, noO, takeL, take1, taken, srcSlots, Env.get, Env.putAt, Env.cools_nil, D.put, D.imm, immL, D.cold, coldL, D.hot, hotL, Z.cold, Z.hot, Src.fresh, gAdd_int, gSub_int, gMul_int, gFdiv_int, gMod_int, gNeg_int, gLt_int, gLe_int, gGt_int, gGe_int, gIsN_eq, gNotN_eq, isNon, gInt_int, gLen_lst, gLen_tup, gTru_bl, argsD, lentOf, iosOk, putOuts, allHot, outsOf, D.frz, frzL, frost_own, frost_frz, frost_fix, nameG, consG, nilG, tupG, unlG, tyD, le_size, lt_size, gEq_eq, gNe_eq, deq_int, deq_ints, deq_three, shp_int, shp_ints, shp_three, shp_non, shp_bl, Env.wipe, Env.back, coldL_ints, hotL_ints, frzL_ints, coldL_strs, hotL_strs, frzL_strs, -gNe_eq, hM, e1, e2, e3, h1, h3, hc, hf, hh, gList_lst]
theorem law_loop1 (sc nm : D) (a b : Int) (M : List D) (L : List (List Int)) (hM : frzL M = lF L) (hn : 0 < L.length ∧ L.length ≤ 90) (hg : Good L) (o3 o4 o5 o6 o7 o8 o9 o10 o12 o13 : Option D) (k : Nat) : ∃ a' b' o3' o12', forL (nameG 3 []) b_law_1 (rangeL 0 1 k) (EV sc nm a b o3 o4 o5 o6 o7 o8 o9 o10 (some (.lst .own M)) o12 o13) = some (.nx (EV sc nm a' b' o3' o4 o5 o6 o7 o8 o9 o10 (some (.lst .own M)) o12' o13)) := by
  obtain ⟨e, h, _, a', b', o3', o12', rfl⟩ := forL_go (bd := nameG 3 []) (body := b_law_1) (fun ds env => (∀ d ∈ ds, ∃ i, d = .int i) ∧ ∃ a' b' o3' o12', env = EV sc nm a' b' o3' o4 o5 o6 o7 o8 o9 o10 (some (.lst .own M)) o12' o13) (by
    rintro d ds env ⟨hd, a1, b1, o3, o12, rfl⟩
    obtain ⟨i, rfl⟩ := hd d (by simp)
    obtain ⟨a', b', o12', hb⟩ := law_body1 sc nm a1 b1 M L hM hn hg (some (.int i)) o4 o5 o6 o7 o8 o9 o10 o12 o13
    refine ⟨_, _, ?_, .inl hb, fun d hd' => hd d (by simp [hd']), a', b', _, o12', rfl⟩
    simp [-List.map_map, seqS, ifS, skipS, exprS, asgS, setS, retS, unpS, boolT, testT, notT, andT, orT, ifT, yesT, op2E, op1E, ixE, varE, constE, callE, fnE, consA, nilA, lateA, lstE, tupE, ifE, andE, orE, notE, chainE, methE, sliceE, partO, noO, takeL, take1, taken, srcSlots, Env.get, Env.putAt, Env.cools_nil, D.put, D.imm, immL, D.cold, coldL, D.hot, hotL, Z.cold, Z.hot, Src.fresh, gAdd_int, gSub_int, gMul_int, gFdiv_int, gMod_int, gNeg_int, gLt_int, gLe_int, gGt_int, gGe_int, gIsN_eq, gNotN_eq, isNon, gInt_int, gLen_lst, gLen_tup, gTru_bl, argsD, lentOf, iosOk, putOuts, allHot, outsOf, D.frz, frzL, frost_own, frost_frz, frost_fix, nameG, consG, nilG, tupG, unlG, tyD, le_size, lt_size, gEq_eq, gNe_eq, deq_int, deq_ints, deq_three, shp_int, shp_ints, shp_three, shp_non, shp_bl, Env.wipe, Env.back, coldL_ints, hotL_ints, frzL_ints, coldL_strs, hotL_strs, frzL_strs]) (rangeL 0 1 k) (EV sc nm a b o3 o4 o5 o6 o7 o8 o9 o10 (some (.lst .own M)) o12 o13) ⟨fun d hd => by
      unfold rangeL at hd
      obtain ⟨i, _, rfl⟩ := List.mem_map.mp hd
      exact ⟨_, rfl⟩, a, b, o3, o12, rfl⟩
  exact ⟨a', b', o3', o12', h⟩
def RS (d : D) : Prop := ∃ c ∈ sg, d = .str (S [c])
theorem strs_of : ∀ {ys : List D}, (∀ y ∈ ys, RS y) → ∃ T : List Nat, ys = dS ((T.map fun c => [c]).map SX.S) ∧ ∀ c ∈ T, c ∈ sg
  | [], _ => ⟨[], rfl, by simp⟩
  | y :: ys, h => by
    obtain ⟨c, hc, rfl⟩ := h y (by simp)
    obtain ⟨T, rfl, hT⟩ := strs_of (ys := ys) fun y hy => h y (by simp [hy])
    refine ⟨c :: T, rfl, fun z hz => ?_⟩
    rcases List.mem_cons.mp hz with rfl | hz
    · exact hc
    · exact hT z hz
theorem flat1 (T : List Nat) : (T.map fun c => [c]).flatten = T := by
  induction T with
  | nil => rfl
  | cons a A ih => simp only [List.map_cons, List.flatten_cons, ih, List.singleton_append]
theorem twos_ok (l : List Int) (h : ∀ x ∈ l, 0 ≤ x ∧ x < 97) : ∀ c ∈ twos l, c < 1114112 := by
  intro c hc
  unfold twos at hc
  obtain ⟨m, hm, hc⟩ := List.mem_flatten.mp hc
  obtain ⟨x, hx, rfl⟩ := List.mem_map.mp hm
  have := h x hx
  unfold two at hc
  simp only [List.mem_cons, List.not_mem_nil, or_false] at hc
  rcases hc with rfl | rfl <;> omega
theorem comp_wr2 (sc nm : D) (a b : Int) (L : List (List Int)) (hg : Good L) (o3 o4 o5 o6 o7 o8 o9 o10 o12 : Option D) : compL [13] [] (nameG 13 []) yesT ce_law_1 (lF L) (EV sc nm a b o3 o4 o5 o6 o7 o8 o9 o10 (some (.lst .own (lF L))) o12 none) = some (dL (L.map twos), EV sc nm a b o3 o4 o5 o6 o7 o8 o9 o10 (some (.lst .own (lF L))) o12 none) := by
  rw [compL_map gWr]
  · refine congrArg (fun x => some (x, _)) ?_
    unfold lF
    simp only [List.map_map]
    apply List.map_congr_left
    intro l _
    simp only [Function.comp_apply, gWr, intsOf_ints, Option.getD_some]
  · intro d hd
    obtain ⟨l, hl, rfl⟩ := List.mem_map.mp hd
    have e1 := law_written_ok .frz l (by have := (hg l hl).1; omega) (hg l hl).2
    refine ⟨EV sc nm a b o3 o4 o5 o6 o7 o8 o9 o10 (some (.lst .own (lF L))) o12 (some (.lst .frz (dI l))), ?_, ?_, by simp [Env.wipe]⟩
    · generalize lF L = LL at *
      simp [-List.map_map, seqS, ifS, skipS, exprS, asgS, setS, retS, unpS, boolT, testT, notT, andT, orT, ifT, yesT, op2E, op1E, ixE, varE, constE, callE, fnE, consA, nilA, lateA, lstE, tupE, ifE, andE, orE, notE, chainE, methE, sliceE, partO, noO, takeL, take1, taken, srcSlots, Env.get, Env.putAt, Env.cools_nil, D.put, D.imm, immL, D.cold, coldL, D.hot, hotL, Z.cold, Z.hot, Src.fresh, gAdd_int, gSub_int, gMul_int, gFdiv_int, gMod_int, gNeg_int, gLt_int, gLe_int, gGt_int, gGe_int, gIsN_eq, gNotN_eq, isNon, gInt_int, gLen_lst, gLen_tup, gTru_bl, argsD, lentOf, iosOk, putOuts, allHot, outsOf, D.frz, frzL, frost_own, frost_frz, frost_fix, nameG, consG, nilG, tupG, unlG, tyD, le_size, lt_size, gEq_eq, gNe_eq, deq_int, deq_ints, deq_three, shp_int, shp_ints, shp_three, shp_non, shp_bl, Env.wipe, Env.back, coldL_ints, hotL_ints, frzL_ints, coldL_strs, hotL_strs, frzL_strs]
    · generalize lF L = LL at *
      unfold ce_law_1
      simp [-List.map_map, seqS, ifS, skipS, exprS, asgS, setS, retS, unpS, boolT, testT, notT, andT, orT, ifT, yesT, op2E, op1E, ixE, varE, constE, callE, fnE, consA, nilA, lateA, lstE, tupE, ifE, andE, orE, notE, chainE, methE, sliceE, partO, noO, takeL, take1, taken, srcSlots, Env.get, Env.putAt, Env.cools_nil, D.put, D.imm, immL, D.cold, coldL, D.hot, hotL, Z.cold, Z.hot, Src.fresh, gAdd_int, gSub_int, gMul_int, gFdiv_int, gMod_int, gNeg_int, gLt_int, gLe_int, gGt_int, gGe_int, gIsN_eq, gNotN_eq, isNon, gInt_int, gLen_lst, gLen_tup, gTru_bl, argsD, lentOf, iosOk, putOuts, allHot, outsOf, D.frz, frzL, frost_own, frost_frz, frost_fix, nameG, consG, nilG, tupG, unlG, tyD, le_size, lt_size, gEq_eq, gNe_eq, deq_int, deq_ints, deq_three, shp_int, shp_ints, shp_three, shp_non, shp_bl, Env.wipe, Env.back, coldL_ints, hotL_ints, frzL_ints, coldL_strs, hotL_strs, frzL_strs, e1, gWr, intsOf_ints]
theorem law_body4 (ns : List Int) (hl : ns.length ≤ 63) (k : Nat) (o2 o3 o4 o5 o6 o7 o8 o9 o10 o11 o12 o13 : Option D) : ∃ a b o3' o4' o5' o6' o7' o8' o9' o10' o11' o12' o13', b_law_4 [some (.lst .fix (dI ns)), some (.int (k : Nat)), o2, o3, o4, o5, o6, o7, o8, o9, o10, o11, o12, o13] = some (.nx (EV (.lst .fix (dI ns)) (.int (k : Nat)) a b o3' o4' o5' o6' o7' o8' o9' o10' o11' o12' o13')) := by
  obtain ⟨a, b, e0⟩ := stream_ok .fix ns hl k
  have s4 : small62 4 = true := small62_of (by omega)
  have hsc : frzL (dI ns) = dI ns := frzL_ints ns
  have hsi : D.imm (.lst .fix (dI ns)) = false := rfl
  obtain ⟨a1, b1, p3, p4, p5, p6, p7, p8, h3⟩ := law_loop3 (.lst .fix (dI ns)) (.int (k : Nat)) a b o3 o4 o5 o6 o7 o8 o9 o10 o11 o12 o13 4
  obtain ⟨q, a2, b2, e1, g1, g2⟩ := digit_ok a1 b1 160 (by omega) (by omega)
  obtain ⟨d, a3, b3, e2, hd⟩ := pick_tup a2 b2 [.int 0, .int 54, .int 55, .int 109, .int q] rfl rfl rfl (by simp) (by simp)
  obtain ⟨m, rfl, hm⟩ : ∃ w : Int, d = .int w ∧ 0 ≤ w ∧ w < 160 := by
    simp only [List.mem_cons, List.not_mem_nil, or_false] at hd
    rcases hd with rfl | rfl | rfl | rfl | rfl <;> exact ⟨_, rfl, by omega, by omega⟩
  have sm : small62 m = true := small62_of (by omega)
  obtain ⟨ys, e', h1, ⟨a4, b4, rfl⟩, h5, h6⟩ := compL_inv (vs := [7]) (Mc := []) (bd := nameG 7 []) (fe := ce_law_2) (fun env => ∃ a b, env = EV (.lst .fix (dI ns)) (.int (k : Nat)) a b p3 p4 p5 p6 none p8 (some (.int m)) o10 o11 o12 o13) RS (ds := rangeL 0 1 m.toNat) (env := EV (.lst .fix (dI ns)) (.int (k : Nat)) a3 b3 p3 p4 p5 p6 none p8 (some (.int m)) o10 o11 o12 o13) (by
    intro d hd env ⟨a, b, he⟩
    subst he
    obtain ⟨c, a', b', e1, hc⟩ := pick_sg a b
    unfold rangeL at hd
    obtain ⟨i, hi, rfl⟩ := List.mem_map.mp hd
    refine ⟨EV (.lst .fix (dI ns)) (.int (k : Nat)) a b p3 p4 p5 p6 (some (.int (0 + (i : Nat) * 1))) p8 (some (.int m)) o10 o11 o12 o13, .str (S [c]), EV (.lst .fix (dI ns)) (.int (k : Nat)) a' b' p3 p4 p5 p6 (some (.int (0 + (i : Nat) * 1))) p8 (some (.int m)) o10 o11 o12 o13, ?_, ?_, ⟨c, hc, rfl⟩, ⟨a', b', by simp [Env.wipe]⟩⟩
    · generalize D.lst .fix (dI ns) = SC at *
      simp [-List.map_map, seqS, ifS, skipS, exprS, asgS, setS, retS, unpS, boolT, testT, notT, andT, orT, ifT, yesT, op2E, op1E, ixE, varE, constE, callE, fnE, consA, nilA, lateA, lstE, tupE, ifE, andE, orE, notE, chainE, methE, sliceE, partO, noO, takeL, take1, taken, srcSlots, Env.get, Env.putAt, Env.cools_nil, D.put, D.imm, immL, D.cold, coldL, D.hot, hotL, Z.cold, Z.hot, Src.fresh, gAdd_int, gSub_int, gMul_int, gFdiv_int, gMod_int, gNeg_int, gLt_int, gLe_int, gGt_int, gGe_int, gIsN_eq, gNotN_eq, isNon, gInt_int, gLen_lst, gLen_tup, gTru_bl, argsD, lentOf, iosOk, putOuts, allHot, outsOf, D.frz, frzL, frost_own, frost_frz, frost_fix, nameG, consG, nilG, tupG, unlG, tyD, le_size, lt_size, gEq_eq, gNe_eq, deq_int, deq_ints, deq_three, shp_int, shp_ints, shp_three, shp_non, shp_bl, Env.wipe, Env.back, coldL_ints, hotL_ints, frzL_ints, coldL_strs, hotL_strs, frzL_strs]
    · unfold ce_law_2
      generalize D.lst .fix (dI ns) = SC at *
      simp [-List.map_map, seqS, ifS, skipS, exprS, asgS, setS, retS, unpS, boolT, testT, notT, andT, orT, ifT, yesT, op2E, op1E, ixE, varE, constE, callE, fnE, consA, nilA, lateA, lstE, tupE, ifE, andE, orE, notE, chainE, methE, sliceE, partO, noO, takeL, take1, taken, srcSlots, Env.get, Env.putAt, Env.cools_nil, D.put, D.imm, immL, D.cold, coldL, D.hot, hotL, Z.cold, Z.hot, Src.fresh, gAdd_int, gSub_int, gMul_int, gFdiv_int, gMod_int, gNeg_int, gLt_int, gLe_int, gGt_int, gGe_int, gIsN_eq, gNotN_eq, isNon, gInt_int, gLen_lst, gLen_tup, gTru_bl, argsD, lentOf, iosOk, putOuts, allHot, outsOf, D.frz, frzL, frost_own, frost_frz, frost_fix, nameG, consG, nilG, tupG, unlG, tyD, le_size, lt_size, gEq_eq, gNe_eq, deq_int, deq_ints, deq_three, shp_int, shp_ints, shp_three, shp_non, shp_bl, Env.wipe, Env.back, coldL_ints, hotL_ints, frzL_ints, coldL_strs, hotL_strs, frzL_strs, e1, law_signs_ok]) ⟨a3, b3, rfl⟩
  obtain ⟨T, rfl, hT⟩ := strs_of h6
  rw [List.length_map, List.length_map, List.length_map, rangeL_length] at h5
  have hj := join_nil .own (T.map fun c => [c]) (by rw [flat1]; omega)
  rw [flat1] at hj
  have f1 := law_text_lines_ok T hT (by omega)
  have f2 := lines_of_ok T hT (by omega)
  have hLr := linesL_rng T hT (by omega)
  have hLl : 0 < (linesL T).length ∧ (linesL T).length ≤ 19 := by
    have := codes_len T
    unfold linesL
    rw [List.length_map, List.length_range]
    unfold cnt
    omega
  generalize hL : linesL T = L at *
  have hG : Good L := hLr
  have f3 := comp_wr2 (.lst .fix (dI ns)) (.int (k : Nat)) a4 b4 L hG p3 p4 p5 p6 p7 p8 (some (.int m)) (some (.str (S T))) o12
  have f4 := rows_ne .own .own (L.map twos) (fun l hl => by
    obtain ⟨x, hx, rfl⟩ := List.mem_map.mp hl
    exact twos_ok x (hG x hx).2)
  have f5 := frz_lD L
  have f5' := frz_lF L
  have fl := len_lF L
  have fz : (L.length < sizeLine) = True := lt_size (by omega)
  have fm : (m.toNat < sizeLine) = True := lt_size (by omega)
  obtain ⟨c, a5, b5, e6, g3, g4⟩ := digit_ok a4 b4 3 (by omega) (by omega)
  obtain ⟨ol, a6, b6, e7, gol, gol2⟩ := odd_ok a5 b5 (L.length : Int) (by omega)
  have hix : L2.ixN L.length (-1) = some (L.length - 1) := by
    unfold L2.ixN
    rw [if_neg (by omega), if_pos (by omega)]
    congr 1
    omega
  by_cases hc : c = 0
  · obtain ⟨a7, b7, p3', p12, h7⟩ := law_loop1 (.lst .fix (dI ns)) (.int (k : Nat)) a6 b6 ((lF L).set (L.length - 1) (.lst .own (dI ol))) (L.set (L.length - 1) ol) (by
        have : ∀ (L : List (List Int)) (n : Nat), frzL ((lF L).set n (.lst .own (dI ol))) = lF (L.set n ol) := by
          intro L
          induction L with
          | nil => intro n; rfl
          | cons l L ih =>
            intro n
            cases n with
            | zero =>
              show frzL (.lst .own (dI ol) :: lF L) = .lst .frz (dI ol) :: lF L
              simp only [frzL, D.frz, frzL_ints, frz_lF, Z.frost]
            | succ n =>
              show frzL (.lst .frz (dI l) :: (lF L).set n _) = .lst .frz (dI l) :: lF (L.set n ol)
              simp only [frzL, D.frz, frzL_ints, ih, Z.frost]
        exact this L _) (by rw [List.length_set]; omega) (fun l hl => by
        rcases List.mem_or_eq_of_mem_set hl with h | h
        · exact hG l h
        · rw [h]; exact ⟨gol, gol2⟩) p3 p4 p5 p6 p7 p8 (some (.int m)) (some (.str (S T))) o12 o13 4
    refine ⟨a7, b7, p3', p4, p5, p6, p7, p8, some (.int m), some (.str (S T)), some (.lst .own ((lF L).set (L.length - 1) (.lst .own (dI ol)))), p12, o13, ?_⟩
    generalize dL (L.map twos) = RR at *
    generalize lF L = L1 at *
    generalize lD L = L3 at *
    generalize hSG : S sg = SG at *
    unfold b_law_4 l_law_3 l_law_1 c_law_2 c_law_1 compE forS range1I seqKI
    simp (config := { maxSteps := 5000000 }) [-List.map_map, seqS, ifS, skipS, exprS, asgS, setS, retS, unpS, boolT, testT, notT, andT, orT, ifT, yesT, op2E, op1E, ixE, varE, constE, callE, fnE, consA, nilA, lateA, lstE, tupE, ifE, andE, orE, notE, chainE, methE, sliceE, partO, noO, takeL, take1, taken, srcSlots, Env.get, Env.putAt, Env.cools_nil, D.put, D.imm, immL, D.cold, coldL, D.hot, hotL, Z.cold, Z.hot, Src.fresh, gAdd_int, gSub_int, gMul_int, gFdiv_int, gMod_int, gNeg_int, gLt_int, gLe_int, gGt_int, gGe_int, gIsN_eq, gNotN_eq, isNon, gInt_int, gLen_lst, gLen_tup, gTru_bl, argsD, lentOf, iosOk, putOuts, allHot, outsOf, D.frz, frzL, frost_own, frost_frz, frost_fix, nameG, consG, nilG, tupG, unlG, tyD, le_size, lt_size, gEq_eq, gNe_eq, deq_int, deq_ints, deq_three, shp_int, shp_ints, shp_three, shp_non, shp_bl, Env.wipe, Env.back, coldL_ints, hotL_ints, frzL_ints, coldL_strs, hotL_strs, frzL_strs, -gNe_eq, e0, s4, h3, e1, e2, sm, rangeL_length, h1, hj, f1, f2, f3, f4, f5, f5', fl, fz, fm, e6, e7, hix, hc, h7]
  · obtain ⟨a7, b7, p3', p12, h7⟩ := law_loop1 (.lst .fix (dI ns)) (.int (k : Nat)) a5 b5 (lF L) L f5' (by omega) hG p3 p4 p5 p6 p7 p8 (some (.int m)) (some (.str (S T))) o12 o13 4
    refine ⟨a7, b7, p3', p4, p5, p6, p7, p8, some (.int m), some (.str (S T)), some (.lst .own (lF L)), p12, o13, ?_⟩
    generalize dL (L.map twos) = RR at *
    generalize lF L = L1 at *
    generalize lD L = L3 at *
    unfold b_law_4 l_law_3 l_law_1 c_law_2 c_law_1 compE forS range1I seqKI
    simp (config := { maxSteps := 5000000 }) [-List.map_map, seqS, ifS, skipS, exprS, asgS, setS, retS, unpS, boolT, testT, notT, andT, orT, ifT, yesT, op2E, op1E, ixE, varE, constE, callE, fnE, consA, nilA, lateA, lstE, tupE, ifE, andE, orE, notE, chainE, methE, sliceE, partO, noO, takeL, take1, taken, srcSlots, Env.get, Env.putAt, Env.cools_nil, D.put, D.imm, immL, D.cold, coldL, D.hot, hotL, Z.cold, Z.hot, Src.fresh, gAdd_int, gSub_int, gMul_int, gFdiv_int, gMod_int, gNeg_int, gLt_int, gLe_int, gGt_int, gGe_int, gIsN_eq, gNotN_eq, isNon, gInt_int, gLen_lst, gLen_tup, gTru_bl, argsD, lentOf, iosOk, putOuts, allHot, outsOf, D.frz, frzL, frost_own, frost_frz, frost_fix, nameG, consG, nilG, tupG, unlG, tyD, le_size, lt_size, gEq_eq, gNe_eq, deq_int, deq_ints, deq_three, shp_int, shp_ints, shp_three, shp_non, shp_bl, Env.wipe, Env.back, coldL_ints, hotL_ints, frzL_ints, coldL_strs, hotL_strs, frzL_strs, -gNe_eq, e0, s4, h3, e1, e2, sm, rangeL_length, h1, hj, f1, f2, f3, f4, f5, f5', fl, fz, fm, e6, hc, h7]
theorem law_loop4 (ns : List Int) (hl : ns.length ≤ 63) : ∀ (cnt lo : Nat) (o1 o2 o3 o4 o5 o6 o7 o8 o9 o10 o11 o12 o13 : Option D), ∃ e, forL (nameG 1 []) b_law_4 (rangeL (lo : Int) 1 cnt) [some (.lst .fix (dI ns)), o1, o2, o3, o4, o5, o6, o7, o8, o9, o10, o11, o12, o13] = some (.nx e)
  | 0, lo, _, _, _, _, _, _, _, _, _, _, _, _, _ => ⟨_, rfl⟩
  | cnt + 1, lo, o1, o2, o3, o4, o5, o6, o7, o8, o9, o10, o11, o12, o13 => by
    obtain ⟨a, b, p3, p4, p5, p6, p7, p8, p9, p10, p11, p12, p13, hb⟩ := law_body4 ns hl lo o2 o3 o4 o5 o6 o7 o8 o9 o10 o11 o12 o13
    obtain ⟨e, h⟩ := law_loop4 ns hl cnt (lo + 1) (some (.int (lo : Nat))) (some (stD a b)) p3 p4 p5 p6 p7 p8 p9 p10 p11 p12 p13
    have hnm : nameG 1 [] (.int (lo : Nat)) [some (.lst .fix (dI ns)), o1, o2, o3, o4, o5, o6, o7, o8, o9, o10, o11, o12, o13] = some [some (.lst .fix (dI ns)), some (.int (lo : Nat)), o2, o3, o4, o5, o6, o7, o8, o9, o10, o11, o12, o13] := by simp [-List.map_map, seqS, ifS, skipS, exprS, asgS, setS, retS, unpS, boolT, testT, notT, andT, orT, ifT, yesT, op2E, op1E, ixE, varE, constE, callE, fnE, consA, nilA, lateA, lstE, tupE, ifE, andE, orE, notE, chainE, methE, sliceE, partO, noO, takeL, take1, taken, srcSlots, Env.get, Env.putAt, Env.cools_nil, D.put, D.imm, immL, D.cold, coldL, D.hot, hotL, Z.cold, Z.hot, Src.fresh, gAdd_int, gSub_int, gMul_int, gFdiv_int, gMod_int, gNeg_int, gLt_int, gLe_int, gGt_int, gGe_int, gIsN_eq, gNotN_eq, isNon, gInt_int, gLen_lst, gLen_tup, gTru_bl, argsD, lentOf, iosOk, putOuts, allHot, outsOf, D.frz, frzL, frost_own, frost_frz, frost_fix, nameG, consG, nilG, tupG, unlG, tyD, le_size, lt_size, gEq_eq, gNe_eq, deq_int, deq_ints, deq_three, shp_int, shp_ints, shp_three, shp_non, shp_bl, Env.wipe, Env.back, coldL_ints, hotL_ints, frzL_ints, coldL_strs, hotL_strs, frzL_strs]
    refine ⟨e, ?_⟩
    rw [rangeL_succ, forL_nx hnm hb, show (lo : Int) + 1 = ((lo + 1 : Nat) : Int) by omega]
    exact h
theorem law_true (ns : List Int) (hl : ns.length ≤ 63) : f_law [.lst .fix (ns.map D.int)] = some (.bl true, []) := by
  obtain ⟨e, h⟩ := law_loop4 ns hl 3 0 none none none none none none none none none none none none none
  rw [show ((0 : Nat) : Int) = 0 from rfl] at h
  have s3 : small62 3 = true := small62_of (by omega)
  unfold f_law runF m_law l_law_4 forS range1I
  simp [-List.map_map, seqS, ifS, skipS, exprS, asgS, setS, retS, unpS, boolT, testT, notT, andT, orT, ifT, yesT, op2E, op1E, ixE, varE, constE, callE, fnE, consA, nilA, lateA, lstE, tupE, ifE, andE, orE, notE, chainE, methE, sliceE, partO, noO, takeL, take1, taken, srcSlots, Env.get, Env.putAt, Env.cools_nil, D.put, D.imm, immL, D.cold, coldL, D.hot, hotL, Z.cold, Z.hot, Src.fresh, gAdd_int, gSub_int, gMul_int, gFdiv_int, gMod_int, gNeg_int, gLt_int, gLe_int, gGt_int, gGe_int, gIsN_eq, gNotN_eq, isNon, gInt_int, gLen_lst, gLen_tup, gTru_bl, argsD, lentOf, iosOk, putOuts, allHot, outsOf, D.frz, frzL, frost_own, frost_frz, frost_fix, nameG, consG, nilG, tupG, unlG, tyD, le_size, lt_size, gEq_eq, gNe_eq, deq_int, deq_ints, deq_three, shp_int, shp_ints, shp_three, shp_non, shp_bl, Env.wipe, Env.back, coldL_ints, hotL_ints, frzL_ints, coldL_strs, hotL_strs, frzL_strs, s3, h]
end KL

/-! printed by gen.py from the linked text: what its defs compute, and that they compute it. -/
set_option Elab.async false
set_option linter.all false
set_option maxRecDepth 100000
set_option maxHeartbeats 4000000
namespace KL
open PySem PySem.Spec PyProof.Rows L2 VC
def topS (i : Nat) : Stmt := PySem.Challenge.pw_pleatproof_k01_lines_righted_by_trying_a.main.body.getD i (.Pass ⟨0, 0, 0, 0⟩)
abbrev s_sums : Stmt := topS 6
theorem sc_sums : FnScope ["numbers", "found", "at", "number", "place"] ["numbers"] (defScope s_sums) := ⟨rfl, rfl, rfl, by decide +kernel, rfl, by decide +kernel, by decide +kernel⟩
abbrev s_inverse : Stmt := topS 7
theorem sc_inverse : FnScope ["number", "other"] ["number"] (defScope s_inverse) := ⟨rfl, rfl, rfl, by decide +kernel, rfl, by decide +kernel, by decide +kernel⟩
abbrev s_line_of : Stmt := topS 8
theorem sc_line_of : FnScope ["number", "signs", "told", "zero", "one", "two", "last", "half", "third", "second", "first"] ["number", "signs"] (defScope s_line_of) := ⟨rfl, rfl, rfl, by decide +kernel, rfl, by decide +kernel, by decide +kernel⟩
abbrev s_righted : Stmt := topS 9
theorem sc_righted : FnScope ["numbers", "zero", "one", "two", "place", "found"] ["numbers"] (defScope s_righted) := ⟨rfl, rfl, rfl, by decide +kernel, rfl, by decide +kernel, by decide +kernel⟩
abbrev s_written : Stmt := topS 10
theorem sc_written : FnScope ["numbers", "number"] ["numbers"] (defScope s_written) := ⟨rfl, rfl, rfl, by decide +kernel, rfl, by decide +kernel, by decide +kernel⟩
abbrev s_numbers_in : Stmt := topS 11
theorem sc_numbers_in : FnScope ["line", "found", "sign", "at"] ["line"] (defScope s_numbers_in) := ⟨rfl, rfl, rfl, by decide +kernel, rfl, by decide +kernel, by decide +kernel⟩
abbrev s_lines_of : Stmt := topS 12
theorem sc_lines_of : FnScope ["text", "told", "count", "sign", "at"] ["text"] (defScope s_lines_of) := ⟨rfl, rfl, rfl, by decide +kernel, rfl, by decide +kernel, by decide +kernel⟩
abbrev s_signs_in : Stmt := topS 13
theorem sc_signs_in : FnScope ["line", "number", "numbers", "right"] ["line", "number"] (defScope s_signs_in) := ⟨rfl, rfl, rfl, by decide +kernel, rfl, by decide +kernel, by decide +kernel⟩
abbrev s_are_of_text : Stmt := topS 14
theorem sc_are_of_text : FnScope ["numbers", "end", "number"] ["numbers"] (defScope s_are_of_text) := ⟨rfl, rfl, rfl, by decide +kernel, rfl, by decide +kernel, by decide +kernel⟩
abbrev s_text_of : Stmt := topS 15
theorem sc_text_of : FnScope ["lines", "found", "at", "line", "told", "end", "number"] ["lines"] (defScope s_text_of) := ⟨rfl, rfl, rfl, by decide +kernel, rfl, by decide +kernel, by decide +kernel⟩
abbrev s_law_mixed : Stmt := topS 17
theorem sc_law_mixed : FnScope ["number", "prime", "first", "second"] ["number"] (defScope s_law_mixed) := ⟨rfl, rfl, rfl, by decide +kernel, rfl, by decide +kernel, by decide +kernel⟩
abbrev s_law_stream : Stmt := topS 18
theorem sc_law_stream : FnScope ["script", "k", "seed", "j"] ["script", "k"] (defScope s_law_stream) := ⟨rfl, rfl, rfl, by decide +kernel, rfl, by decide +kernel, by decide +kernel⟩
abbrev s_law_digit : Stmt := topS 19
theorem sc_law_digit : FnScope ["state", "many", "digit"] ["state", "many"] (defScope s_law_digit) := ⟨rfl, rfl, rfl, by decide +kernel, rfl, by decide +kernel, by decide +kernel⟩
abbrev s_law_pick : Stmt := topS 20
theorem sc_law_pick : FnScope ["state", "things"] ["state", "things"] (defScope s_law_pick) := ⟨rfl, rfl, rfl, by decide +kernel, rfl, by decide +kernel, by decide +kernel⟩
abbrev s_law_signs : Stmt := topS 21
theorem sc_law_signs : FnScope [] [] (defScope s_law_signs) := ⟨rfl, rfl, rfl, by decide +kernel, rfl, by decide +kernel, by decide +kernel⟩
abbrev s_law_totals : Stmt := topS 22
theorem sc_law_totals : FnScope ["numbers", "first", "second", "third", "k"] ["numbers"] (defScope s_law_totals) := ⟨rfl, rfl, rfl, by decide +kernel, rfl, by decide +kernel, by decide +kernel⟩
abbrev s_law_line : Stmt := topS 23
theorem sc_law_line : FnScope ["number", "signs", "told", "a", "first", "second", "third", "c", "b", "found"] ["number", "signs"] (defScope s_law_line) := ⟨rfl, rfl, rfl, by decide +kernel, rfl, by decide +kernel, by decide +kernel⟩
abbrev s_law_righted : Stmt := topS 24
theorem sc_law_righted : FnScope ["numbers", "total", "k", "other", "found"] ["numbers"] (defScope s_law_righted) := ⟨rfl, rfl, rfl, by decide +kernel, rfl, by decide +kernel, by decide +kernel⟩
abbrev s_law_written : Stmt := topS 25
theorem sc_law_written : FnScope ["numbers", "number"] ["numbers"] (defScope s_law_written) := ⟨rfl, rfl, rfl, by decide +kernel, rfl, by decide +kernel, by decide +kernel⟩
abbrev s_law_text_lines : Stmt := topS 26
theorem sc_law_text_lines : FnScope ["text", "told", "found", "at", "signs", "sign"] ["text"] (defScope s_law_text_lines) := ⟨rfl, rfl, rfl, by decide +kernel, rfl, by decide +kernel, by decide +kernel⟩
abbrev s_law_numbers : Stmt := topS 27
theorem sc_law_numbers : FnScope ["line", "found", "sign", "at"] ["line"] (defScope s_law_numbers) := ⟨rfl, rfl, rfl, by decide +kernel, rfl, by decide +kernel, by decide +kernel⟩
abbrev s_law_told : Stmt := topS 28
theorem sc_law_told : FnScope ["lines", "text", "ended", "k", "numbers", "number"] ["lines"] (defScope s_law_told) := ⟨rfl, rfl, rfl, by decide +kernel, rfl, by decide +kernel, by decide +kernel⟩
abbrev s_law_changed : Stmt := topS 29
theorem sc_law_changed : FnScope ["state", "lines", "k", "at", "rows", "choice", "other", "place", "line"] ["state", "lines"] (defScope s_law_changed) := ⟨rfl, rfl, rfl, by decide +kernel, rfl, by decide +kernel, by decide +kernel⟩
abbrev s_law_odd_line : Stmt := topS 30
theorem sc_law_odd_line : FnScope ["state", "number", "signs", "at", "k"] ["state", "number"] (defScope s_law_odd_line) := ⟨rfl, rfl, rfl, by decide +kernel, rfl, by decide +kernel, by decide +kernel⟩
abbrev s_law : Stmt := topS 31
theorem sc_law : FnScope ["script", "number", "state", "turn", "which", "signs", "right", "k", "kept", "many", "text", "lines", "rows", "line"] ["script"] (defScope s_law) := ⟨rfl, rfl, rfl, by decide +kernel, rfl, by decide +kernel, by decide +kernel⟩
structure Txt (K : PySem.W.Frag) (mg : Str → Option Value) where
  a_sums : Addr
  d_sums : FuncData
  F_sums : Fun K "sums" "sums" s_sums a_sums d_sums
  g_sums : mg "sums" = some (.ref a_sums)
  b_sums : Binds K d_sums ["numbers"] []
  a_inverse : Addr
  d_inverse : FuncData
  F_inverse : Fun K "inverse" "inverse" s_inverse a_inverse d_inverse
  g_inverse : mg "inverse" = some (.ref a_inverse)
  b_inverse : Binds K d_inverse ["number"] []
  a_line_of : Addr
  d_line_of : FuncData
  F_line_of : Fun K "line_of" "line_of" s_line_of a_line_of d_line_of
  g_line_of : mg "line_of" = some (.ref a_line_of)
  b_line_of : Binds K d_line_of ["number", "signs"] []
  a_righted : Addr
  d_righted : FuncData
  F_righted : Fun K "righted" "righted" s_righted a_righted d_righted
  g_righted : mg "righted" = some (.ref a_righted)
  b_righted : Binds K d_righted ["numbers"] []
  a_written : Addr
  d_written : FuncData
  F_written : Fun K "written" "written" s_written a_written d_written
  g_written : mg "written" = some (.ref a_written)
  b_written : Binds K d_written ["numbers"] []
  a_numbers_in : Addr
  d_numbers_in : FuncData
  F_numbers_in : Fun K "numbers_in" "numbers_in" s_numbers_in a_numbers_in d_numbers_in
  g_numbers_in : mg "numbers_in" = some (.ref a_numbers_in)
  b_numbers_in : Binds K d_numbers_in ["line"] []
  a_lines_of : Addr
  d_lines_of : FuncData
  F_lines_of : Fun K "lines_of" "lines_of" s_lines_of a_lines_of d_lines_of
  g_lines_of : mg "lines_of" = some (.ref a_lines_of)
  b_lines_of : Binds K d_lines_of ["text"] []
  a_signs_in : Addr
  d_signs_in : FuncData
  F_signs_in : Fun K "signs_in" "signs_in" s_signs_in a_signs_in d_signs_in
  g_signs_in : mg "signs_in" = some (.ref a_signs_in)
  b_signs_in : Binds K d_signs_in ["line", "number"] []
  a_are_of_text : Addr
  d_are_of_text : FuncData
  F_are_of_text : Fun K "are_of_text" "are_of_text" s_are_of_text a_are_of_text d_are_of_text
  g_are_of_text : mg "are_of_text" = some (.ref a_are_of_text)
  b_are_of_text : Binds K d_are_of_text ["numbers"] []
  a_text_of : Addr
  d_text_of : FuncData
  F_text_of : Fun K "text_of" "text_of" s_text_of a_text_of d_text_of
  g_text_of : mg "text_of" = some (.ref a_text_of)
  b_text_of : Binds K d_text_of ["lines"] []
  a_law_mixed : Addr
  d_law_mixed : FuncData
  F_law_mixed : Fun K "_law_mixed" "_law_mixed" s_law_mixed a_law_mixed d_law_mixed
  g_law_mixed : mg "_law_mixed" = some (.ref a_law_mixed)
  b_law_mixed : Binds K d_law_mixed ["number"] []
  a_law_stream : Addr
  d_law_stream : FuncData
  F_law_stream : Fun K "_law_stream" "_law_stream" s_law_stream a_law_stream d_law_stream
  g_law_stream : mg "_law_stream" = some (.ref a_law_stream)
  b_law_stream : Binds K d_law_stream ["script", "k"] []
  a_law_digit : Addr
  d_law_digit : FuncData
  F_law_digit : Fun K "_law_digit" "_law_digit" s_law_digit a_law_digit d_law_digit
  g_law_digit : mg "_law_digit" = some (.ref a_law_digit)
  b_law_digit : Binds K d_law_digit ["state", "many"] []
  a_law_pick : Addr
  d_law_pick : FuncData
  F_law_pick : Fun K "_law_pick" "_law_pick" s_law_pick a_law_pick d_law_pick
  g_law_pick : mg "_law_pick" = some (.ref a_law_pick)
  b_law_pick : Binds K d_law_pick ["state", "things"] []
  a_law_signs : Addr
  d_law_signs : FuncData
  F_law_signs : Fun K "_law_signs" "_law_signs" s_law_signs a_law_signs d_law_signs
  g_law_signs : mg "_law_signs" = some (.ref a_law_signs)
  b_law_signs : Binds K d_law_signs [] []
  a_law_totals : Addr
  d_law_totals : FuncData
  F_law_totals : Fun K "_law_totals" "_law_totals" s_law_totals a_law_totals d_law_totals
  g_law_totals : mg "_law_totals" = some (.ref a_law_totals)
  b_law_totals : Binds K d_law_totals ["numbers"] []
  a_law_line : Addr
  d_law_line : FuncData
  F_law_line : Fun K "_law_line" "_law_line" s_law_line a_law_line d_law_line
  g_law_line : mg "_law_line" = some (.ref a_law_line)
  b_law_line : Binds K d_law_line ["number", "signs"] []
  a_law_righted : Addr
  d_law_righted : FuncData
  F_law_righted : Fun K "_law_righted" "_law_righted" s_law_righted a_law_righted d_law_righted
  g_law_righted : mg "_law_righted" = some (.ref a_law_righted)
  b_law_righted : Binds K d_law_righted ["numbers"] []
  a_law_written : Addr
  d_law_written : FuncData
  F_law_written : Fun K "_law_written" "_law_written" s_law_written a_law_written d_law_written
  g_law_written : mg "_law_written" = some (.ref a_law_written)
  b_law_written : Binds K d_law_written ["numbers"] []
  a_law_text_lines : Addr
  d_law_text_lines : FuncData
  F_law_text_lines : Fun K "_law_text_lines" "_law_text_lines" s_law_text_lines a_law_text_lines d_law_text_lines
  g_law_text_lines : mg "_law_text_lines" = some (.ref a_law_text_lines)
  b_law_text_lines : Binds K d_law_text_lines ["text"] []
  a_law_numbers : Addr
  d_law_numbers : FuncData
  F_law_numbers : Fun K "_law_numbers" "_law_numbers" s_law_numbers a_law_numbers d_law_numbers
  g_law_numbers : mg "_law_numbers" = some (.ref a_law_numbers)
  b_law_numbers : Binds K d_law_numbers ["line"] []
  a_law_told : Addr
  d_law_told : FuncData
  F_law_told : Fun K "_law_told" "_law_told" s_law_told a_law_told d_law_told
  g_law_told : mg "_law_told" = some (.ref a_law_told)
  b_law_told : Binds K d_law_told ["lines"] []
  a_law_changed : Addr
  d_law_changed : FuncData
  F_law_changed : Fun K "_law_changed" "_law_changed" s_law_changed a_law_changed d_law_changed
  g_law_changed : mg "_law_changed" = some (.ref a_law_changed)
  b_law_changed : Binds K d_law_changed ["state", "lines"] []
  a_law_odd_line : Addr
  d_law_odd_line : FuncData
  F_law_odd_line : Fun K "_law_odd_line" "_law_odd_line" s_law_odd_line a_law_odd_line d_law_odd_line
  g_law_odd_line : mg "_law_odd_line" = some (.ref a_law_odd_line)
  b_law_odd_line : Binds K d_law_odd_line ["state", "number"] []
  a_law : Addr
  d_law : FuncData
  F_law : Fun K "law" "law" s_law a_law d_law
  g_law : mg "law" = some (.ref a_law)
  b_law : Binds K d_law ["script"] []
  t_SIGNS : Tok
  c_SIGNS : mg "SIGNS" = some (.str k_SIGNS t_SIGNS)
  t_PRIME : Tok
  c_PRIME : mg "PRIME" = some (.int (97) t_PRIME)
  t_WIDE : Tok
  c_WIDE : mg "WIDE" = some (.int (60) t_WIDE)
  t_DATA : Tok
  c_DATA : mg "DATA" = some (.int (55) t_DATA)
  t_END : Tok
  c_END : mg "END" = some (.int (74) t_END)
  z_all : mg "all" = none
  z_any : mg "any" = none
  z_enumerate : mg "enumerate" = none
  z_int : mg "int" = none
  z_isinstance : mg "isinstance" = none
  z_len : mg "len" = none
  z_list : mg "list" = none
  z_max : mg "max" = none
  z_min : mg "min" = none
  z_range : mg "range" = none
  z_str : mg "str" = none
section
variable {P : Program} {w : World} {K : PySem.W.Frag} {mg : Str → Option Value} {base : Heap}
theorem ok_sums (T : Txt K mg) : FnOk P w K mg base CX0 1 T.a_sums T.d_sums ["numbers"] (spOf K [] f_sums) :=
  fn_ok (N := ["numbers", "found", "at", "number", "place"]) (ps := ["numbers"]) (fb := m_sums) (io := []) T.F_sums sc_sums rfl (fun cdv A outer s H E hr =>
  (cb_cons (cs_set (i := 1) [] sc_sums.nd rfl (by first | exact Or.inl rfl | exact Or.inr rfl) (ce_lst [] (ca_cons ce_int (ca_cons ce_int (ca_cons ce_int ca_nil)))))
  (cb_cons (cs_for PassesOwn.never rfl (ci_enum (by rfl) T.z_enumerate (ca_cons (ce_var 0) ca_nil)) (cg_tup rfl (cgs_cons (cg_name (i := 2) sc_sums.nd rfl (by first | exact Or.inl rfl | exact Or.inr rfl)) (cgs_cons (cg_name (i := 3) sc_sums.nd rfl (by first | exact Or.inl rfl | exact Or.inr rfl)) cgs_nil)))
  (cb_cons (cs_set (i := 4) [] sc_sums.nd rfl (by first | exact Or.inl rfl | exact Or.inr rfl) (ce_op op_addD g_add (ce_var 2) ce_int))
  (cb_cons (cs_set (i := 1) [] sc_sums.nd rfl (by first | exact Or.inl rfl | exact Or.inr rfl) (ce_lst [] (ca_cons (ce_op op_modN g_mod (ce_op op_addD g_add (ce_at (ce_var 1) ce_int) (ce_var 3)) (ce_glob (v := .int 97) (d := .int 97) (by rfl) T.c_PRIME ⟨_, rfl⟩ (fun _ _ _ _ => rfl))) (ca_cons (ce_op op_modN g_mod (ce_op op_addD g_add (ce_at (ce_var 1) ce_int) (ce_op op_mulD g_mul (ce_var 4) (ce_var 3))) (ce_glob (v := .int 97) (d := .int 97) (by rfl) T.c_PRIME ⟨_, rfl⟩ (fun _ _ _ _ => rfl))) (ca_cons (ce_op op_addD g_add (ce_at (ce_var 1) ce_int) (ce_op op_mulD g_mul (ce_op op_mulD g_mul (ce_var 4) (ce_var 4)) (ce_var 3))) ca_nil)))))
  (cb_cons (cs_setitem [1] [] (ce_op op_modN g_mod (ce_at (ce_var 1) ce_int) (ce_glob (v := .int 97) (d := .int 97) (by rfl) T.c_PRIME ⟨_, rfl⟩ (fun _ _ _ _ => rfl))) (ce_var 1) ce_int)
  cb_nil))))
  (cb_cons (cs_ret (ce_var 1))
  cb_nil))))
theorem ok_inverse (T : Txt K mg) : FnOk P w K mg base CX0 1 T.a_inverse T.d_inverse ["number"] (spOf K [] f_inverse) :=
  fn_ok (N := ["number", "other"]) (ps := ["number"]) (fb := m_inverse) (io := []) T.F_inverse sc_inverse rfl (fun cdv A outer s H E hr =>
  (cb_cons (cs_ret (ce_at (ce_lc (own := [("other", 1)]) [] rfl sc_inverse.nd  (ci_range1 (by rfl) T.z_range (ca_cons (ce_glob (v := .int 97) (d := .int 97) (by rfl) T.c_PRIME ⟨_, rfl⟩ (fun _ _ _ _ => rfl)) ca_nil)) (blkOk_by (N := ["number", "other"]) (sc := defScope s_inverse) (by decide +kernel)) (fun _ _ _ _ _ => (cg_name (i := 1) sc_inverse.nd rfl (by first | exact Or.inl rfl | exact Or.inr rfl))) (fun _ _ _ _ _ => (cts_one (ct_cmp (op_eqD hr.units) g_eq (ce_op op_modN g_mod (ce_op op_mulD g_mul (ce_var 0) (ce_var 1)) (ce_glob (v := .int 97) (d := .int 97) (by rfl) T.c_PRIME ⟨_, rfl⟩ (fun _ _ _ _ => rfl))) ce_int))) (fun _ _ _ _ _ => (ce_var 1)) (by decide) (by decide)) ce_int))
  cb_nil))
theorem ok_line_of (T : Txt K mg) : FnOk P w K mg base CX0 2 T.a_line_of T.d_line_of ["number", "signs"] (spOf K [] f_line_of) :=
  fn_ok (N := ["number", "signs", "told", "zero", "one", "two", "last", "half", "third", "second", "first"]) (ps := ["number", "signs"]) (fb := m_line_of) (io := []) T.F_line_of sc_line_of rfl (fun cdv A outer s H E hr =>
  (cb_cons (cs_set (i := 2) [] sc_line_of.nd rfl (by first | exact Or.inl rfl | exact Or.inr rfl) (ce_op op_addD g_add (ce_lst [] (ca_cons (ce_op op_fdivN g_fdiv (ce_var 0) (ce_glob (v := .int 97) (d := .int 97) (by rfl) T.c_PRIME ⟨_, rfl⟩ (fun _ _ _ _ => rfl))) (ca_cons (ce_op op_modN g_mod (ce_var 0) (ce_glob (v := .int 97) (d := .int 97) (by rfl) T.c_PRIME ⟨_, rfl⟩ (fun _ _ _ _ => rfl))) ca_nil))) (ce_var 1)))
  (cb_cons (cs_unp (ce_call (ios := []) (Ml := []) (by decide) (by decide) (ok_sums T) (hr.mono (by decide)) (by rfl) T.g_sums T.F_sums.kp T.b_sums pass0 (ca_cons (ce_var 2) ca_nil)) (cg_unl rfl (cgs_cons (cg_name (i := 3) sc_line_of.nd rfl (by first | exact Or.inl rfl | exact Or.inr rfl)) (cgs_cons (cg_name (i := 4) sc_line_of.nd rfl (by first | exact Or.inl rfl | exact Or.inr rfl)) (cgs_cons (cg_name (i := 5) sc_line_of.nd rfl (by first | exact Or.inl rfl | exact Or.inr rfl)) cgs_nil)))))
  (cb_cons (cs_set (i := 6) [] sc_line_of.nd rfl (by first | exact Or.inl rfl | exact Or.inr rfl) (ce_glob (v := .int 60) (d := .int 60) (by rfl) T.c_WIDE ⟨_, rfl⟩ (fun _ _ _ _ => rfl)))
  (cb_cons (cs_set (i := 7) [] sc_line_of.nd rfl (by first | exact Or.inl rfl | exact Or.inr rfl) (ce_call (ios := []) (Ml := []) (by decide) (by decide) (ok_inverse T) (hr.mono (by decide)) (by rfl) T.g_inverse T.F_inverse.kp T.b_inverse pass0 (ca_cons ce_int ca_nil)))
  (cb_cons (cs_set (i := 8) [] sc_line_of.nd rfl (by first | exact Or.inl rfl | exact Or.inr rfl) (ce_op op_mulD g_mul (ce_op op_addD g_add (ce_op op_sub g_sub (ce_var 5) (ce_op op_mulD g_mul (ce_op op_sub g_sub (ce_op op_mulD g_mul ce_int (ce_var 6)) ce_int) (ce_var 4))) (ce_op op_mulD g_mul (ce_op op_mulD g_mul (ce_op op_sub g_sub (ce_var 6) ce_int) (ce_op op_sub g_sub (ce_var 6) ce_int)) (ce_var 3))) (ce_var 7)))
  (cb_cons (cs_set (i := 9) [] sc_line_of.nd rfl (by first | exact Or.inl rfl | exact Or.inr rfl) (ce_op op_addD g_add (ce_op op_sub g_sub (ce_var 5) (ce_op op_mulD g_mul (ce_op op_sub g_sub (ce_op op_mulD g_mul ce_int (ce_var 6)) ce_int) (ce_var 4))) (ce_op op_mulD g_mul (ce_op op_mulD g_mul (ce_var 6) (ce_op op_sub g_sub (ce_var 6) ce_int)) (ce_var 3))))
  (cb_cons (cs_set (i := 10) [] sc_line_of.nd rfl (by first | exact Or.inl rfl | exact Or.inr rfl) (ce_op op_mulD g_mul (ce_op op_addD g_add (ce_op op_sub g_sub (ce_var 5) (ce_op op_mulD g_mul (ce_op op_sub g_sub (ce_op op_mulD g_mul ce_int (ce_var 6)) ce_int) (ce_var 4))) (ce_op op_mulD g_mul (ce_op op_mulD g_mul (ce_var 6) (ce_op op_sub g_sub (ce_var 6) ce_int)) (ce_var 3))) (ce_var 7)))
  (cb_cons (cs_ret (ce_op op_addD g_add (ce_var 2) (ce_lst [] (ca_cons (ce_op op_modN g_mod (ce_un un_neg g_neg (ce_var 10)) (ce_glob (v := .int 97) (d := .int 97) (by rfl) T.c_PRIME ⟨_, rfl⟩ (fun _ _ _ _ => rfl))) (ca_cons (ce_op op_modN g_mod (ce_var 9) (ce_glob (v := .int 97) (d := .int 97) (by rfl) T.c_PRIME ⟨_, rfl⟩ (fun _ _ _ _ => rfl))) (ca_cons (ce_op op_modN g_mod (ce_un un_neg g_neg (ce_var 8)) (ce_glob (v := .int 97) (d := .int 97) (by rfl) T.c_PRIME ⟨_, rfl⟩ (fun _ _ _ _ => rfl))) ca_nil))))))
  cb_nil)))))))))
theorem ok_righted (T : Txt K mg) : FnOk P w K mg base CX0 2 T.a_righted T.d_righted ["numbers"] (spOf K [] f_righted) :=
  fn_ok (N := ["numbers", "zero", "one", "two", "place", "found"]) (ps := ["numbers"]) (fb := m_righted) (io := []) T.F_righted sc_righted rfl (fun cdv A outer s H E hr =>
  (cb_cons (cs_unp (ce_call (ios := []) (Ml := []) (by decide) (by decide) (ok_sums T) (hr.mono (by decide)) (by rfl) T.g_sums T.F_sums.kp T.b_sums pass0 (ca_cons (ce_var 0) ca_nil)) (cg_unl rfl (cgs_cons (cg_name (i := 1) sc_righted.nd rfl (by first | exact Or.inl rfl | exact Or.inr rfl)) (cgs_cons (cg_name (i := 2) sc_righted.nd rfl (by first | exact Or.inl rfl | exact Or.inr rfl)) (cgs_cons (cg_name (i := 3) sc_righted.nd rfl (by first | exact Or.inl rfl | exact Or.inr rfl)) cgs_nil)))))
  (cb_cons (cs_if (ct_cmp (op_eqD hr.units) g_eq (ce_lst [] (ca_cons (ce_var 1) (ca_cons (ce_var 2) (ca_cons (ce_var 3) ca_nil)))) (ce_lst [] (ca_cons ce_int (ca_cons ce_int (ca_cons ce_int ca_nil)))))
  (cb_cons (cs_ret (ce_callTy call_list_of g_list (by rfl) T.z_list (by decide +kernel) (ca_cons (ce_var 0) ca_nil)))
  cb_nil)
  cb_nil)
  (cb_cons (cs_if (ct_cmp (op_eqD hr.units) g_eq (ce_var 1) ce_int)
  (cb_cons (cs_ret ce_non)
  cb_nil)
  cb_nil)
  (cb_cons (cs_set (i := 4) [] sc_righted.nd rfl (by first | exact Or.inl rfl | exact Or.inr rfl) (ce_op op_modN g_mod (ce_op op_mulD g_mul (ce_var 2) (ce_call (ios := []) (Ml := []) (by decide) (by decide) (ok_inverse T) (hr.mono (by decide)) (by rfl) T.g_inverse T.F_inverse.kp T.b_inverse pass0 (ca_cons (ce_var 1) ca_nil))) (ce_glob (v := .int 97) (d := .int 97) (by rfl) T.c_PRIME ⟨_, rfl⟩ (fun _ _ _ _ => rfl))))
  (cb_cons (cs_if (ct_w (cw_or (ct_not (ct_chain op_le g_le op_le g_le ce_int (ce_var 4) (ce_glob (v := .int 60) (d := .int 60) (by rfl) T.c_WIDE ⟨_, rfl⟩ (fun _ _ _ _ => rfl)))) (cw_or1 (ct_cmp (op_neD hr.units) g_ne (ce_var 3) (ce_op op_modN g_mod (ce_op op_mulD g_mul (ce_var 4) (ce_var 2)) (ce_glob (v := .int 97) (d := .int 97) (by rfl) T.c_PRIME ⟨_, rfl⟩ (fun _ _ _ _ => rfl)))))))
  (cb_cons (cs_ret ce_non)
  cb_nil)
  cb_nil)
  (cb_cons (cs_set (i := 5) [] sc_righted.nd rfl (by first | exact Or.inl rfl | exact Or.inr rfl) (ce_callTy call_list_of g_list (by rfl) T.z_list (by decide +kernel) (ca_cons (ce_var 0) ca_nil)))
  (cb_cons (cs_setitem [5] [] (ce_op op_modN g_mod (ce_op op_sub g_sub (ce_at (ce_var 5) (ce_op op_sub g_sub (ce_var 4) ce_int)) (ce_var 1)) (ce_glob (v := .int 97) (d := .int 97) (by rfl) T.c_PRIME ⟨_, rfl⟩ (fun _ _ _ _ => rfl))) (ce_var 5) (ce_op op_sub g_sub (ce_var 4) ce_int))
  (cb_cons (cs_ret (ce_var 5))
  cb_nil)))))))))
theorem ok_written (T : Txt K mg) : FnOk P w K mg base CX0 1 T.a_written T.d_written ["numbers"] (spOf K [] f_written) :=
  fn_ok (N := ["numbers", "number"]) (ps := ["numbers"]) (fb := m_written) (io := []) T.F_written sc_written rfl (fun cdv A outer s H E hr =>
  (cb_cons (cs_ret (ce_meth (by decide) PySem.F.plainAttrs_str PySem.F.slot_str_join PySem.F.type_str_join mt_join g_join ce_str (ca_cons (ce_lc (own := [("number", 1)]) [] rfl sc_written.nd  (ci_seq (ce_var 0)) (blkOk_by (N := ["numbers", "number"]) (sc := defScope s_written) (by decide +kernel)) (fun _ _ _ _ _ => (cg_name (i := 1) sc_written.nd rfl (by first | exact Or.inl rfl | exact Or.inr rfl))) (fun _ _ _ _ _ => cts_nil) (fun _ _ _ _ _ => (ce_op op_addD g_add (ce_callTy call_str_int g_str (by rfl) T.z_str (by decide +kernel) (ca_cons (ce_op op_fdivN g_fdiv (ce_var 1) ce_int) ca_nil)) (ce_callTy call_str_int g_str (by rfl) T.z_str (by decide +kernel) (ca_cons (ce_op op_modN g_mod (ce_var 1) ce_int) ca_nil)))) (by decide) (by decide)) ca_nil)))
  cb_nil))
theorem ok_numbers_in (T : Txt K mg) : FnOk P w K mg base CX0 1 T.a_numbers_in T.d_numbers_in ["line"] (spOf K [] f_numbers_in) :=
  fn_ok (N := ["line", "found", "sign", "at"]) (ps := ["line"]) (fb := m_numbers_in) (io := []) T.F_numbers_in sc_numbers_in rfl (fun cdv A outer s H E hr =>
  (cb_cons (cs_if (ct_w (cw_or (ct_not (ct_truth (ce_isi (by rfl) T.z_isinstance (by rfl) T.z_str (by decide +kernel) (by decide +kernel) (ce_var 0)))) (cw_or (ct_cmp (op_neD hr.units) g_ne (ce_callB call_len g_len (by rfl) T.z_len (by decide +kernel) (ca_cons (ce_var 0) ca_nil)) (ce_op op_mulD g_mul ce_int (ce_glob (v := .int 60) (d := .int 60) (by rfl) T.c_WIDE ⟨_, rfl⟩ (fun _ _ _ _ => rfl)))) (cw_or1 (ct_not (ct_truth (ce_callB (call_allP rfl) g_all (by rfl) T.z_all (by decide +kernel) (ca_cons (ce_lc (own := [("sign", 2)]) [] rfl sc_numbers_in.nd  (ci_seq (ce_var 0)) (blkOk_by (N := ["line", "found", "sign", "at"]) (sc := defScope s_numbers_in) (by decide +kernel)) (fun _ _ _ _ _ => (cg_name (i := 2) sc_numbers_in.nd rfl (by first | exact Or.inl rfl | exact Or.inr rfl))) (fun _ _ _ _ _ => cts_nil) (fun _ _ _ _ _ => (ce_cmp op_inD g_in (ce_var 2) ce_str)) (by decide) (by decide)) ca_nil))))))))
  (cb_cons (cs_ret ce_non)
  cb_nil)
  cb_nil)
  (cb_cons (cs_setLc (i := 1) (own := [("at", 3)]) [] rfl sc_numbers_in.nd rfl rfl (sw_true rfl rfl rfl (by decide +kernel)) (ci_range3 (by rfl) T.z_range (ca_cons ce_int (ca_cons (ce_op op_mulD g_mul ce_int (ce_glob (v := .int 60) (d := .int 60) (by rfl) T.c_WIDE ⟨_, rfl⟩ (fun _ _ _ _ => rfl))) (ca_cons ce_int ca_nil)))) (blkOk_by (N := ["line", "found", "sign", "at"]) (sc := defScope s_numbers_in) (by decide +kernel)) (fun _ _ _ _ _ => (cg_name (i := 3) sc_numbers_in.nd rfl (by first | exact Or.inl rfl | exact Or.inr rfl))) (fun _ _ _ _ _ => cts_nil) (fun _ _ _ _ _ => (ce_callTy call_intD g_int (by rfl) T.z_int (by decide +kernel) (ca_cons (ce_slice sl_D g_sl (ce_var 0) (co_some (ce_var 3)) (co_some (ce_op op_addD g_add (ce_var 3) ce_int))) ca_nil))) (by decide) (by decide))
  (cb_cons (cs_ret (ce_if (ct_cmp op_lt g_lt (ce_callB (call_maxD rfl) g_max (by rfl) T.z_max (by decide +kernel) (ca_cons (ce_var 1) ca_nil)) (ce_glob (v := .int 97) (d := .int 97) (by rfl) T.c_PRIME ⟨_, rfl⟩ (fun _ _ _ _ => rfl))) (ce_var 1) ce_non))
  cb_nil))))
theorem ok_lines_of (T : Txt K mg) : FnOk P w K mg base CX0 3 T.a_lines_of T.d_lines_of ["text"] (spOf K [] f_lines_of) :=
  fn_ok (N := ["text", "told", "count", "sign", "at"]) (ps := ["text"]) (fb := m_lines_of) (io := []) T.F_lines_of sc_lines_of rfl (fun cdv A outer s H E hr =>
  (cb_cons (cs_set (i := 1) [] sc_lines_of.nd rfl (by first | exact Or.inl rfl | exact Or.inr rfl) (ce_op op_addD g_add (ce_lc (own := [("sign", 3)]) [] rfl sc_lines_of.nd  (ci_seq (ce_var 0)) (blkOk_by (N := ["text", "told", "count", "sign", "at"]) (sc := defScope s_lines_of) (by decide +kernel)) (fun _ _ _ _ _ => (cg_name (i := 3) sc_lines_of.nd rfl (by first | exact Or.inl rfl | exact Or.inr rfl))) (fun _ _ _ _ _ => cts_nil) (fun _ _ _ _ _ => (ce_op op_addD g_add (ce_meth (by decide) PySem.F.plainAttrs_str PySem.F.slot_str_index PySem.F.type_str_index mt_sindex g_sindex (ce_glob (v := .str k_SIGNS) (d := .str k_SIGNS) (by rfl) T.c_SIGNS ⟨_, rfl⟩ (fun _ _ _ _ => rfl)) (ca_cons (ce_var 3) ca_nil)) ce_int)) (by decide) (by decide)) (ce_lst [] (ca_cons (ce_glob (v := .int 74) (d := .int 74) (by rfl) T.c_END ⟨_, rfl⟩ (fun _ _ _ _ => rfl)) ca_nil))))
  (cb_cons (cs_set (i := 2) [] sc_lines_of.nd rfl (by first | exact Or.inl rfl | exact Or.inr rfl) (ce_un un_neg g_neg (ce_op op_fdivN g_fdiv (ce_un un_neg g_neg (ce_callB call_len g_len (by rfl) T.z_len (by decide +kernel) (ca_cons (ce_var 1) ca_nil))) (ce_glob (v := .int 55) (d := .int 55) (by rfl) T.c_DATA ⟨_, rfl⟩ (fun _ _ _ _ => rfl)))))
  (cb_cons (cs_set (i := 1) [] sc_lines_of.nd rfl (by first | exact Or.inl rfl | exact Or.inr rfl) (ce_op op_addD g_add (ce_var 1) (ce_op op_mulD g_mul (ce_lst [] (ca_cons ce_int ca_nil)) (ce_op op_sub g_sub (ce_op op_mulD g_mul (ce_var 2) (ce_glob (v := .int 55) (d := .int 55) (by rfl) T.c_DATA ⟨_, rfl⟩ (fun _ _ _ _ => rfl))) (ce_callB call_len g_len (by rfl) T.z_len (by decide +kernel) (ca_cons (ce_var 1) ca_nil))))))
  (cb_cons (cs_ret (ce_lc (own := [("at", 4)]) [] rfl sc_lines_of.nd  (ci_range1 (by rfl) T.z_range (ca_cons (ce_var 2) ca_nil)) (blkOk_by (N := ["text", "told", "count", "sign", "at"]) (sc := defScope s_lines_of) (by decide +kernel)) (fun _ _ _ _ _ => (cg_name (i := 4) sc_lines_of.nd rfl (by first | exact Or.inl rfl | exact Or.inr rfl))) (fun _ _ _ _ _ => cts_nil) (fun _ _ _ _ _ => (ce_call (ios := []) (Ml := []) (by decide) (by decide) (ok_written T) (hr.mono (by decide)) (by rfl) T.g_written T.F_written.kp T.b_written pass0 (ca_cons (ce_call (ios := []) (Ml := []) (by decide) (by decide) (ok_line_of T) (hr.mono (by decide)) (by rfl) T.g_line_of T.F_line_of.kp T.b_line_of pass0 (ca_cons (ce_op op_addD g_add (ce_var 4) ce_int) (ca_cons (ce_slice sl_D g_sl (ce_var 1) (co_some (ce_op op_mulD g_mul (ce_var 4) (ce_glob (v := .int 55) (d := .int 55) (by rfl) T.c_DATA ⟨_, rfl⟩ (fun _ _ _ _ => rfl)))) (co_some (ce_op op_mulD g_mul (ce_op op_addD g_add (ce_var 4) ce_int) (ce_glob (v := .int 55) (d := .int 55) (by rfl) T.c_DATA ⟨_, rfl⟩ (fun _ _ _ _ => rfl))))) ca_nil))) ca_nil))) (by decide) (by decide)))
  cb_nil)))))
theorem ok_signs_in (T : Txt K mg) : FnOk P w K mg base CX0 3 T.a_signs_in T.d_signs_in ["line", "number"] (spOf K [] f_signs_in) :=
  fn_ok (N := ["line", "number", "numbers", "right"]) (ps := ["line", "number"]) (fb := m_signs_in) (io := []) T.F_signs_in sc_signs_in rfl (fun cdv A outer s H E hr =>
  (cb_cons (cs_set (i := 2) [] sc_signs_in.nd rfl (by first | exact Or.inl rfl | exact Or.inr rfl) (ce_call (ios := []) (Ml := []) (by decide) (by decide) (ok_numbers_in T) (hr.mono (by decide)) (by rfl) T.g_numbers_in T.F_numbers_in.kp T.b_numbers_in pass0 (ca_cons (ce_var 0) ca_nil)))
  (cb_cons (cs_set (i := 3) [] sc_signs_in.nd rfl (by first | exact Or.inl rfl | exact Or.inr rfl) (ce_if (ct_cmp op_notN g_notN (ce_var 2) ce_non) (ce_call (ios := []) (Ml := []) (by decide) (by decide) (ok_righted T) (hr.mono (by decide)) (by rfl) T.g_righted T.F_righted.kp T.b_righted pass0 (ca_cons (ce_var 2) ca_nil)) ce_non))
  (cb_cons (cs_if (ct_w (cw_or (ct_cmp op_isN g_isN (ce_var 3) ce_non) (cw_or1 (ct_cmp (op_neD hr.units) g_ne (ce_op op_addD g_add (ce_op op_mulD g_mul (ce_glob (v := .int 97) (d := .int 97) (by rfl) T.c_PRIME ⟨_, rfl⟩ (fun _ _ _ _ => rfl)) (ce_at (ce_var 3) ce_int)) (ce_at (ce_var 3) ce_int)) (ce_var 1)))))
  (cb_cons (cs_ret ce_non)
  cb_nil)
  cb_nil)
  (cb_cons (cs_ret (ce_slice sl_D g_sl (ce_var 3) (co_some ce_int) (co_some (ce_op op_addD g_add ce_int (ce_glob (v := .int 55) (d := .int 55) (by rfl) T.c_DATA ⟨_, rfl⟩ (fun _ _ _ _ => rfl))))))
  cb_nil)))))
theorem ok_are_of_text (T : Txt K mg) : FnOk P w K mg base CX0 1 T.a_are_of_text T.d_are_of_text ["numbers"] (spOf K [] f_are_of_text) :=
  fn_ok (N := ["numbers", "end", "number"]) (ps := ["numbers"]) (fb := m_are_of_text) (io := []) T.F_are_of_text sc_are_of_text rfl (fun cdv A outer s H E hr =>
  (cb_cons (cs_set (i := 1) [] sc_are_of_text.nd rfl (by first | exact Or.inl rfl | exact Or.inr rfl) (ce_if (ct_cmp op_inD g_in (ce_glob (v := .int 74) (d := .int 74) (by rfl) T.c_END ⟨_, rfl⟩ (fun _ _ _ _ => rfl)) (ce_var 0)) (ce_meth (by decide) PySem.F.plainAttrs_list PySem.F.slot_list_index PySem.F.type_list_index mt_index g_lindex (ce_var 0) (ca_cons (ce_glob (v := .int 74) (d := .int 74) (by rfl) T.c_END ⟨_, rfl⟩ (fun _ _ _ _ => rfl)) ca_nil)) (ce_callB call_len g_len (by rfl) T.z_len (by decide +kernel) (ca_cons (ce_var 0) ca_nil))))
  (cb_cons (cs_ret (ce_and (ce_callB (call_allP rfl) g_all (by rfl) T.z_all (by decide +kernel) (ca_cons (ce_lc (own := [("number", 2)]) [] rfl sc_are_of_text.nd  (ci_seq (ce_slice sl_D g_sl (ce_var 0) co_none (co_some (ce_var 1)))) (blkOk_by (N := ["numbers", "end", "number"]) (sc := defScope s_are_of_text) (by decide +kernel)) (fun _ _ _ _ _ => (cg_name (i := 2) sc_are_of_text.nd rfl (by first | exact Or.inl rfl | exact Or.inr rfl))) (fun _ _ _ _ _ => cts_nil) (fun _ _ _ _ _ => (ce_chain op_lt g_lt op_le g_le ce_int (ce_var 2) (ce_callB call_len g_len (by rfl) T.z_len (by decide +kernel) (ca_cons (ce_glob (v := .str k_SIGNS) (d := .str k_SIGNS) (by rfl) T.c_SIGNS ⟨_, rfl⟩ (fun _ _ _ _ => rfl)) ca_nil)))) (by decide) (by decide)) ca_nil)) (ce_one (ce_not (ce_callB (call_anyP rfl) g_any (by rfl) T.z_any (by decide +kernel) (ca_cons (ce_slice sl_D g_sl (ce_var 0) (co_some (ce_op op_addD g_add (ce_var 1) ce_int)) co_none) ca_nil))))))
  cb_nil)))
theorem ok_text_of (T : Txt K mg) : FnOk P w K mg base CX0 4 T.a_text_of T.d_text_of ["lines"] (spOf K [] f_text_of) :=
  fn_ok (N := ["lines", "found", "at", "line", "told", "end", "number"]) (ps := ["lines"]) (fb := m_text_of) (io := []) T.F_text_of sc_text_of rfl (fun cdv A outer s H E hr =>
  (cb_cons (cs_set (i := 1) [] sc_text_of.nd rfl (by first | exact Or.inl rfl | exact Or.inr rfl) (ce_lst [] ca_nil))
  (cb_cons (cs_for PassesOwn.never rfl (ci_enum (by rfl) T.z_enumerate (ca_cons (ce_var 0) ca_nil)) (cg_tup rfl (cgs_cons (cg_name (i := 2) sc_text_of.nd rfl (by first | exact Or.inl rfl | exact Or.inr rfl)) (cgs_cons (cg_name (i := 3) sc_text_of.nd rfl (by first | exact Or.inl rfl | exact Or.inr rfl)) cgs_nil)))
  (cb_cons (cs_set (i := 4) [] sc_text_of.nd rfl (by first | exact Or.inl rfl | exact Or.inr rfl) (ce_call (ios := []) (Ml := []) (by decide) (by decide) (ok_signs_in T) (hr.mono (by decide)) (by rfl) T.g_signs_in T.F_signs_in.kp T.b_signs_in pass0 (ca_cons (ce_var 3) (ca_cons (ce_op op_addD g_add (ce_var 2) ce_int) ca_nil))))
  (cb_cons (cs_if (ct_w (cw_or (ct_cmp op_isN g_isN (ce_var 4) ce_non) (cw_or (ct_cmp op_inD g_in (ce_glob (v := .int 74) (d := .int 74) (by rfl) T.c_END ⟨_, rfl⟩ (fun _ _ _ _ => rfl)) (ce_var 1)) (cw_or1 (ct_not (ct_truth (ce_call (ios := []) (Ml := []) (by decide) (by decide) (ok_are_of_text T) (hr.mono (by decide)) (by rfl) T.g_are_of_text T.F_are_of_text.kp T.b_are_of_text pass0 (ca_cons (ce_var 4) ca_nil))))))))
  (cb_cons (cs_ret (ce_tup [] (ca_cons ce_str (ca_cons (ce_op op_addD g_add (ce_var 2) ce_int) ca_nil))))
  cb_nil)
  cb_nil)
  (cb_cons (cs_set (i := 1) [] sc_text_of.nd rfl (by first | exact Or.inl rfl | exact Or.inr rfl) (ce_op op_addD g_add (ce_var 1) (ce_var 4)))
  cb_nil))))
  (cb_cons (cs_if (ct_cmp op_notInD g_notIn (ce_glob (v := .int 74) (d := .int 74) (by rfl) T.c_END ⟨_, rfl⟩ (fun _ _ _ _ => rfl)) (ce_var 1))
  (cb_cons (cs_ret (ce_tup [] (ca_cons ce_str (ca_cons (ce_op op_addD g_add (ce_callB call_len g_len (by rfl) T.z_len (by decide +kernel) (ca_cons (ce_var 0) ca_nil)) ce_int) ca_nil))))
  cb_nil)
  cb_nil)
  (cb_cons (cs_set (i := 5) [] sc_text_of.nd rfl (by first | exact Or.inl rfl | exact Or.inr rfl) (ce_meth (by decide) PySem.F.plainAttrs_list PySem.F.slot_list_index PySem.F.type_list_index mt_index g_lindex (ce_var 1) (ca_cons (ce_glob (v := .int 74) (d := .int 74) (by rfl) T.c_END ⟨_, rfl⟩ (fun _ _ _ _ => rfl)) ca_nil)))
  (cb_cons (cs_ret (ce_tup [] (ca_cons ce_str (ca_cons (ce_meth (by decide) PySem.F.plainAttrs_str PySem.F.slot_str_join PySem.F.type_str_join mt_join g_join ce_str (ca_cons (ce_lc (own := [("number", 6)]) [] rfl sc_text_of.nd  (ci_seq (ce_slice sl_D g_sl (ce_var 1) co_none (co_some (ce_var 5)))) (blkOk_by (N := ["lines", "found", "at", "line", "told", "end", "number"]) (sc := defScope s_text_of) (by decide +kernel)) (fun _ _ _ _ _ => (cg_name (i := 6) sc_text_of.nd rfl (by first | exact Or.inl rfl | exact Or.inr rfl))) (fun _ _ _ _ _ => cts_nil) (fun _ _ _ _ _ => (ce_at (ce_glob (v := .str k_SIGNS) (d := .str k_SIGNS) (by rfl) T.c_SIGNS ⟨_, rfl⟩ (fun _ _ _ _ => rfl)) (ce_op op_sub g_sub (ce_var 6) ce_int))) (by decide) (by decide)) ca_nil)) ca_nil))))
  cb_nil))))))
theorem ok_law_mixed (T : Txt K mg) : FnOk P w K mg base CX0 1 T.a_law_mixed T.d_law_mixed ["number"] (spOf K [] f_law_mixed) :=
  fn_ok (N := ["number", "prime", "first", "second"]) (ps := ["number"]) (fb := m_law_mixed) (io := []) T.F_law_mixed sc_law_mixed rfl (fun cdv A outer s H E hr =>
  (cb_cons (cs_set (i := 1) [] sc_law_mixed.nd rfl (by first | exact Or.inl rfl | exact Or.inr rfl) ce_int)
  (cb_cons (cs_set (i := 2) [] sc_law_mixed.nd rfl (by first | exact Or.inl rfl | exact Or.inr rfl) (ce_op op_modN g_mod (ce_callTy call_intD g_int (by rfl) T.z_int (by decide +kernel) (ca_cons (ce_op op_addD g_add (ce_op op_mulD g_mul (ce_var 0) ce_int) ce_int) ca_nil)) (ce_var 1)))
  (cb_cons (cs_set (i := 3) [] sc_law_mixed.nd rfl (by first | exact Or.inl rfl | exact Or.inr rfl) (ce_op op_modN g_mod (ce_callTy call_intD g_int (by rfl) T.z_int (by decide +kernel) (ca_cons (ce_op op_addD g_add (ce_op op_addD g_add (ce_op op_mulD g_mul (ce_var 2) (ce_var 2)) (ce_op op_mulD g_mul ce_int (ce_var 2))) ce_int) ca_nil)) (ce_var 1)))
  (cb_cons (cs_ret (ce_op op_modN g_mod (ce_callTy call_intD g_int (by rfl) T.z_int (by decide +kernel) (ca_cons (ce_op op_addD g_add (ce_op op_addD g_add (ce_op op_mulD g_mul (ce_var 3) ce_int) (ce_op op_mulD g_mul (ce_var 2) ce_int)) ce_int) ca_nil)) (ce_var 1)))
  cb_nil)))))
theorem ok_law_stream (T : Txt K mg) : FnOk P w K mg base CX0 2 T.a_law_stream T.d_law_stream ["script", "k"] (spOf K [] f_law_stream) :=
  fn_ok (N := ["script", "k", "seed", "j"]) (ps := ["script", "k"]) (fb := m_law_stream) (io := []) T.F_law_stream sc_law_stream rfl (fun cdv A outer s H E hr =>
  (cb_cons (cs_if (ct_w (cw_and (ct_cmp op_lt g_lt (ce_var 1) (ce_callB call_len g_len (by rfl) T.z_len (by decide +kernel) (ca_cons (ce_var 0) ca_nil))) (cw_and1 (ct_cmp op_ge g_ge (ce_at (ce_var 0) (ce_var 1)) ce_int))))
  (cb_cons (cs_ret (ce_lst [] (ca_cons (ce_callTy call_intD g_int (by rfl) T.z_int (by decide +kernel) (ca_cons (ce_at (ce_var 0) (ce_var 1)) ca_nil)) (ca_cons (ce_op op_addD g_add (ce_op op_mulD g_mul ce_int (ce_var 1)) ce_int) ca_nil))))
  cb_nil)
  cb_nil)
  (cb_cons (cs_set (i := 2) [] sc_law_stream.nd rfl (by first | exact Or.inl rfl | exact Or.inr rfl) (ce_call (ios := []) (Ml := []) (by decide) (by decide) (ok_law_mixed T) (hr.mono (by decide)) (by rfl) T.g_law_mixed T.F_law_mixed.kp T.b_law_mixed pass0 (ca_cons (ce_op op_addD g_add (ce_op op_mulD g_mul ce_int (ce_var 1)) ce_int) ca_nil)))
  (cb_cons (cs_for PassesOwn.never rfl (ci_range1 (by rfl) T.z_range (ca_cons (ce_callB (call_minD rfl) g_min (by rfl) T.z_min (by decide +kernel) (ca_cons ce_int (ca_cons (ce_callB call_len g_len (by rfl) T.z_len (by decide +kernel) (ca_cons (ce_var 0) ca_nil)) ca_nil))) ca_nil)) (cg_name (i := 3) sc_law_stream.nd rfl (by first | exact Or.inl rfl | exact Or.inr rfl))
  (cb_cons (cs_if (ct_w (cw_or (ct_cmp op_ge g_ge (ce_var 1) (ce_callB call_len g_len (by rfl) T.z_len (by decide +kernel) (ca_cons (ce_var 0) ca_nil))) (cw_or1 (ct_cmp (op_eqD hr.units) g_eq (ce_var 3) (ce_var 1)))))
  (cb_cons (cs_set (i := 2) [] sc_law_stream.nd rfl (by first | exact Or.inl rfl | exact Or.inr rfl) (ce_call (ios := []) (Ml := []) (by decide) (by decide) (ok_law_mixed T) (hr.mono (by decide)) (by rfl) T.g_law_mixed T.F_law_mixed.kp T.b_law_mixed pass0 (ca_cons (ce_op op_addD g_add (ce_var 2) (ce_callTy call_intD g_int (by rfl) T.z_int (by decide +kernel) (ca_cons (ce_at (ce_var 0) (ce_var 3)) ca_nil))) ca_nil)))
  cb_nil)
  cb_nil)
  cb_nil))
  (cb_cons (cs_ret (ce_lst [] (ca_cons (ce_op op_addD g_add (ce_op op_mulD g_mul (ce_var 2) ce_int) (ce_call (ios := []) (Ml := []) (by decide) (by decide) (ok_law_mixed T) (hr.mono (by decide)) (by rfl) T.g_law_mixed T.F_law_mixed.kp T.b_law_mixed pass0 (ca_cons (ce_var 2) ca_nil))) (ca_cons (ce_var 2) ca_nil))))
  cb_nil)))))
theorem ok_law_digit (T : Txt K mg) : FnOk P w K mg base CX0 2 T.a_law_digit T.d_law_digit ["state", "many"] (spOf K [0] f_law_digit) :=
  fn_ok (N := ["state", "many", "digit"]) (ps := ["state", "many"]) (fb := m_law_digit) (io := [0]) T.F_law_digit sc_law_digit rfl (fun cdv A outer s H E hr =>
  (cb_cons (cs_if (ct_cmp op_lt g_lt (ce_at (ce_var 0) ce_int) ce_int)
  (cb_cons (cs_setitem [0] [] (ce_call (ios := []) (Ml := []) (by decide) (by decide) (ok_law_mixed T) (hr.mono (by decide)) (by rfl) T.g_law_mixed T.F_law_mixed.kp T.b_law_mixed pass0 (ca_cons (ce_op op_addD g_add (ce_at (ce_var 0) ce_int) ce_int) ca_nil)) (ce_var 0) ce_int)
  (cb_cons (cs_setitem [0] [] (ce_op op_addD g_add (ce_op op_mulD g_mul (ce_at (ce_var 0) ce_int) ce_int) (ce_call (ios := []) (Ml := []) (by decide) (by decide) (ok_law_mixed T) (hr.mono (by decide)) (by rfl) T.g_law_mixed T.F_law_mixed.kp T.b_law_mixed pass0 (ca_cons (ce_op op_addD g_add (ce_at (ce_var 0) ce_int) ce_int) ca_nil))) (ce_var 0) ce_int)
  cb_nil))
  cb_nil)
  (cb_cons (cs_set (i := 2) [] sc_law_digit.nd rfl (by first | exact Or.inl rfl | exact Or.inr rfl) (ce_op op_modN g_mod (ce_callTy call_intD g_int (by rfl) T.z_int (by decide +kernel) (ca_cons (ce_at (ce_var 0) ce_int) ca_nil)) (ce_var 1)))
  (cb_cons (cs_setitem [0] [] (ce_op op_fdivN g_fdiv (ce_at (ce_var 0) ce_int) (ce_var 1)) (ce_var 0) ce_int)
  (cb_cons (cs_ret (ce_var 2))
  cb_nil)))))
theorem ok_law_pick (T : Txt K mg) : FnOk P w K mg base CX0 3 T.a_law_pick T.d_law_pick ["state", "things"] (spOf K [0] f_law_pick) :=
  fn_ok (N := ["state", "things"]) (ps := ["state", "things"]) (fb := m_law_pick) (io := [0]) T.F_law_pick sc_law_pick rfl (fun cdv A outer s H E hr =>
  (cb_cons (cs_ret (ce_at (ce_var 1) (ce_call (ios := [(0, 0)]) (Ml := []) (by decide) (by decide) (ok_law_digit T) (hr.mono (by decide)) (by rfl) T.g_law_digit T.F_law_digit.kp T.b_law_digit pass0 (ca_cons (ce_var 0) (ca_cons (ce_callB call_len g_len (by rfl) T.z_len (by decide +kernel) (ca_cons (ce_var 1) ca_nil)) ca_nil)))))
  cb_nil))
theorem ok_law_signs (T : Txt K mg) : FnOk P w K mg base CX0 1 T.a_law_signs T.d_law_signs [] (spOf K [] f_law_signs) :=
  fn_ok (N := []) (ps := []) (fb := m_law_signs) (io := []) T.F_law_signs sc_law_signs rfl (fun cdv A outer s H E hr =>
  (cb_cons (cs_ret ce_str)
  cb_nil))
theorem ok_law_totals (T : Txt K mg) : FnOk P w K mg base CX0 1 T.a_law_totals T.d_law_totals ["numbers"] (spOf K [] f_law_totals) :=
  fn_ok (N := ["numbers", "first", "second", "third", "k"]) (ps := ["numbers"]) (fb := m_law_totals) (io := []) T.F_law_totals sc_law_totals rfl (fun cdv A outer s H E hr =>
  (cb_cons (cs_set (i := 1) [] sc_law_totals.nd rfl (by first | exact Or.inl rfl | exact Or.inr rfl) ce_int)
  (cb_cons (cs_set (i := 2) [] sc_law_totals.nd rfl (by first | exact Or.inl rfl | exact Or.inr rfl) ce_int)
  (cb_cons (cs_set (i := 3) [] sc_law_totals.nd rfl (by first | exact Or.inl rfl | exact Or.inr rfl) ce_int)
  (cb_cons (cs_for PassesOwn.never rfl (ci_range1 (by rfl) T.z_range (ca_cons (ce_callB call_len g_len (by rfl) T.z_len (by decide +kernel) (ca_cons (ce_var 0) ca_nil)) ca_nil)) (cg_name (i := 4) sc_law_totals.nd rfl (by first | exact Or.inl rfl | exact Or.inr rfl))
  (cb_cons (cs_set (i := 1) [] sc_law_totals.nd rfl (by first | exact Or.inl rfl | exact Or.inr rfl) (ce_op op_addD g_add (ce_var 1) (ce_at (ce_var 0) (ce_var 4))))
  (cb_cons (cs_set (i := 2) [] sc_law_totals.nd rfl (by first | exact Or.inl rfl | exact Or.inr rfl) (ce_op op_addD g_add (ce_var 2) (ce_op op_mulD g_mul (ce_op op_addD g_add (ce_var 4) ce_int) (ce_at (ce_var 0) (ce_var 4)))))
  (cb_cons (cs_set (i := 3) [] sc_law_totals.nd rfl (by first | exact Or.inl rfl | exact Or.inr rfl) (ce_op op_addD g_add (ce_var 3) (ce_op op_mulD g_mul (ce_op op_mulD g_mul (ce_op op_addD g_add (ce_var 4) ce_int) (ce_op op_addD g_add (ce_var 4) ce_int)) (ce_at (ce_var 0) (ce_var 4)))))
  cb_nil))))
  (cb_cons (cs_ret (ce_lst [] (ca_cons (ce_op op_modN g_mod (ce_callTy call_intD g_int (by rfl) T.z_int (by decide +kernel) (ca_cons (ce_var 1) ca_nil)) ce_int) (ca_cons (ce_op op_modN g_mod (ce_callTy call_intD g_int (by rfl) T.z_int (by decide +kernel) (ca_cons (ce_var 2) ca_nil)) ce_int) (ca_cons (ce_op op_modN g_mod (ce_callTy call_intD g_int (by rfl) T.z_int (by decide +kernel) (ca_cons (ce_var 3) ca_nil)) ce_int) ca_nil)))))
  cb_nil))))))
theorem ok_law_line (T : Txt K mg) : FnOk P w K mg base CX0 2 T.a_law_line T.d_law_line ["number", "signs"] (spOf K [] f_law_line) :=
  fn_ok (N := ["number", "signs", "told", "a", "first", "second", "third", "c", "b", "found"]) (ps := ["number", "signs"]) (fb := m_law_line) (io := []) T.F_law_line sc_law_line rfl (fun cdv A outer s H E hr =>
  (cb_cons (cs_set (i := 2) [] sc_law_line.nd rfl (by first | exact Or.inl rfl | exact Or.inr rfl) (ce_op op_addD g_add (ce_lst [] (ca_cons (ce_op op_fdivN g_fdiv (ce_var 0) ce_int) (ca_cons (ce_op op_modN g_mod (ce_callTy call_intD g_int (by rfl) T.z_int (by decide +kernel) (ca_cons (ce_var 0) ca_nil)) ce_int) ca_nil))) (ce_var 1)))
  (cb_cons (cs_for PassesOwn.never rfl (ci_range1 (by rfl) T.z_range (ca_cons ce_int ca_nil)) (cg_name (i := 3) sc_law_line.nd rfl (by first | exact Or.inl rfl | exact Or.inr rfl))
  (cb_cons (cs_unp (ce_call (ios := []) (Ml := []) (by decide) (by decide) (ok_law_totals T) (hr.mono (by decide)) (by rfl) T.g_law_totals T.F_law_totals.kp T.b_law_totals pass0 (ca_cons (ce_op op_addD g_add (ce_var 2) (ce_lst [] (ca_cons (ce_var 3) (ca_cons ce_int (ca_cons ce_int ca_nil))))) ca_nil)) (cg_unl rfl (cgs_cons (cg_name (i := 4) sc_law_line.nd rfl (by first | exact Or.inl rfl | exact Or.inr rfl)) (cgs_cons (cg_name (i := 5) sc_law_line.nd rfl (by first | exact Or.inl rfl | exact Or.inr rfl)) (cgs_cons (cg_name (i := 6) sc_law_line.nd rfl (by first | exact Or.inl rfl | exact Or.inr rfl)) cgs_nil)))))
  (cb_cons (cs_set (i := 7) [] sc_law_line.nd rfl (by first | exact Or.inl rfl | exact Or.inr rfl) (ce_op op_modN g_mod (ce_callTy call_intD g_int (by rfl) T.z_int (by decide +kernel) (ca_cons (ce_op op_sub g_sub (ce_op op_mulD g_mul ce_int (ce_var 4)) (ce_var 5)) ca_nil)) ce_int))
  (cb_cons (cs_set (i := 8) [] sc_law_line.nd rfl (by first | exact Or.inl rfl | exact Or.inr rfl) (ce_op op_modN g_mod (ce_callTy call_intD g_int (by rfl) T.z_int (by decide +kernel) (ca_cons (ce_op op_sub g_sub (ce_op op_sub g_sub ce_int (ce_var 4)) (ce_var 7)) ca_nil)) ce_int))
  (cb_cons (cs_set (i := 9) [] sc_law_line.nd rfl (by first | exact Or.inl rfl | exact Or.inr rfl) (ce_op op_addD g_add (ce_var 2) (ce_lst [] (ca_cons (ce_var 3) (ca_cons (ce_var 8) (ca_cons (ce_var 7) ca_nil))))))
  (cb_cons (cs_if (ct_cmp (op_eqD hr.units) g_eq (ce_call (ios := []) (Ml := []) (by decide) (by decide) (ok_law_totals T) (hr.mono (by decide)) (by rfl) T.g_law_totals T.F_law_totals.kp T.b_law_totals pass0 (ca_cons (ce_var 9) ca_nil)) (ce_lst [] (ca_cons ce_int (ca_cons ce_int (ca_cons ce_int ca_nil)))))
  (cb_cons (cs_ret (ce_var 9))
  cb_nil)
  cb_nil)
  cb_nil))))))
  (cb_cons (cs_ret ce_non)
  cb_nil))))
theorem ok_law_righted (T : Txt K mg) : FnOk P w K mg base CX0 2 T.a_law_righted T.d_law_righted ["numbers"] (spOf K [] f_law_righted) :=
  fn_ok (N := ["numbers", "total", "k", "other", "found"]) (ps := ["numbers"]) (fb := m_law_righted) (io := []) T.F_law_righted sc_law_righted rfl (fun cdv A outer s H E hr =>
  (cb_cons (cs_if (ct_cmp (op_eqD hr.units) g_eq (ce_call (ios := []) (Ml := []) (by decide) (by decide) (ok_law_totals T) (hr.mono (by decide)) (by rfl) T.g_law_totals T.F_law_totals.kp T.b_law_totals pass0 (ca_cons (ce_var 0) ca_nil)) (ce_lst [] (ca_cons ce_int (ca_cons ce_int (ca_cons ce_int ca_nil)))))
  (cb_cons (cs_ret (ce_callTy call_list_of g_list (by rfl) T.z_list (by decide +kernel) (ca_cons (ce_var 0) ca_nil)))
  cb_nil)
  cb_nil)
  (cb_cons (cs_set (i := 1) [] sc_law_righted.nd rfl (by first | exact Or.inl rfl | exact Or.inr rfl) (ce_call (ios := []) (Ml := []) (by decide) (by decide) (ok_law_totals T) (hr.mono (by decide)) (by rfl) T.g_law_totals T.F_law_totals.kp T.b_law_totals pass0 (ca_cons (ce_var 0) ca_nil)))
  (cb_cons (cs_for PassesOwn.never rfl (ci_range1 (by rfl) T.z_range (ca_cons ce_int ca_nil)) (cg_name (i := 2) sc_law_righted.nd rfl (by first | exact Or.inl rfl | exact Or.inr rfl))
  (cb_cons (cs_set (i := 3) [] sc_law_righted.nd rfl (by first | exact Or.inl rfl | exact Or.inr rfl) (ce_op op_modN g_mod (ce_callTy call_intD g_int (by rfl) T.z_int (by decide +kernel) (ca_cons (ce_op op_sub g_sub (ce_at (ce_var 0) (ce_var 2)) (ce_at (ce_var 1) ce_int)) ca_nil)) ce_int))
  (cb_cons (cs_set (i := 4) [] sc_law_righted.nd rfl (by first | exact Or.inl rfl | exact Or.inr rfl) (ce_op op_addD g_add (ce_op op_addD g_add (ce_slice sl_D g_sl (ce_var 0) co_none (co_some (ce_var 2))) (ce_lst [] (ca_cons (ce_var 3) ca_nil))) (ce_slice sl_D g_sl (ce_var 0) (co_some (ce_op op_addD g_add (ce_var 2) ce_int)) co_none)))
  (cb_cons (cs_if (ct_cmp (op_eqD hr.units) g_eq (ce_call (ios := []) (Ml := []) (by decide) (by decide) (ok_law_totals T) (hr.mono (by decide)) (by rfl) T.g_law_totals T.F_law_totals.kp T.b_law_totals pass0 (ca_cons (ce_var 4) ca_nil)) (ce_lst [] (ca_cons ce_int (ca_cons ce_int (ca_cons ce_int ca_nil)))))
  (cb_cons (cs_ret (ce_var 4))
  cb_nil)
  cb_nil)
  cb_nil))))
  (cb_cons (cs_ret ce_non)
  cb_nil)))))
theorem ok_law_written (T : Txt K mg) : FnOk P w K mg base CX0 1 T.a_law_written T.d_law_written ["numbers"] (spOf K [] f_law_written) :=
  fn_ok (N := ["numbers", "number"]) (ps := ["numbers"]) (fb := m_law_written) (io := []) T.F_law_written sc_law_written rfl (fun cdv A outer s H E hr =>
  (cb_cons (cs_ret (ce_meth (by decide) PySem.F.plainAttrs_str PySem.F.slot_str_join PySem.F.type_str_join mt_join g_join ce_str (ca_cons (ce_lc (own := [("number", 1)]) [] rfl sc_law_written.nd  (ci_seq (ce_var 0)) (blkOk_by (N := ["numbers", "number"]) (sc := defScope s_law_written) (by decide +kernel)) (fun _ _ _ _ _ => (cg_name (i := 1) sc_law_written.nd rfl (by first | exact Or.inl rfl | exact Or.inr rfl))) (fun _ _ _ _ _ => cts_nil) (fun _ _ _ _ _ => (ce_slice sl_D g_sl (ce_callTy call_str_int g_str (by rfl) T.z_str (by decide +kernel) (ca_cons (ce_op op_addD g_add ce_int (ce_var 1)) ca_nil)) (co_some ce_int) co_none)) (by decide) (by decide)) ca_nil)))
  cb_nil))
theorem ok_law_text_lines (T : Txt K mg) : FnOk P w K mg base CX0 3 T.a_law_text_lines T.d_law_text_lines ["text"] (spOf K [] f_law_text_lines) :=
  fn_ok (N := ["text", "told", "found", "at", "signs", "sign"]) (ps := ["text"]) (fb := m_law_text_lines) (io := []) T.F_law_text_lines sc_law_text_lines rfl (fun cdv A outer s H E hr =>
  (cb_cons (cs_set (i := 1) [] sc_law_text_lines.nd rfl (by first | exact Or.inl rfl | exact Or.inr rfl) (ce_op op_addD g_add (ce_lc (own := [("sign", 5)]) [] rfl sc_law_text_lines.nd  (ci_seq (ce_var 0)) (blkOk_by (N := ["text", "told", "found", "at", "signs", "sign"]) (sc := defScope s_law_text_lines) (by decide +kernel)) (fun _ _ _ _ _ => (cg_name (i := 5) sc_law_text_lines.nd rfl (by first | exact Or.inl rfl | exact Or.inr rfl))) (fun _ _ _ _ _ => cts_nil) (fun _ _ _ _ _ => (ce_op op_addD g_add (ce_meth (by decide) PySem.F.plainAttrs_str PySem.F.slot_str_index PySem.F.type_str_index mt_sindex g_sindex (ce_call0 (ok_law_signs T) (hr.mono (by decide)) (by rfl) T.g_law_signs T.F_law_signs.kp T.b_law_signs pass0) (ca_cons (ce_var 5) ca_nil)) ce_int)) (by decide) (by decide)) (ce_lst [] (ca_cons ce_int ca_nil))))
  (cb_cons (cs_set (i := 2) [] sc_law_text_lines.nd rfl (by first | exact Or.inl rfl | exact Or.inr rfl) (ce_lst [] ca_nil))
  (cb_cons (cs_for PassesOwn.never rfl (ci_range3 (by rfl) T.z_range (ca_cons ce_int (ca_cons (ce_callB call_len g_len (by rfl) T.z_len (by decide +kernel) (ca_cons (ce_var 1) ca_nil)) (ca_cons ce_int ca_nil)))) (cg_name (i := 3) sc_law_text_lines.nd rfl (by first | exact Or.inl rfl | exact Or.inr rfl))
  (cb_cons (cs_set (i := 4) [] sc_law_text_lines.nd rfl (by first | exact Or.inl rfl | exact Or.inr rfl) (ce_slice sl_D g_sl (ce_var 1) (co_some (ce_var 3)) (co_some (ce_op op_addD g_add (ce_var 3) ce_int))))
  (cb_cons (cs_expr (ce_append [2] [] PySem.F.slot_list_append (ce_var 2) (ca_cons (ce_call (ios := []) (Ml := []) (by decide) (by decide) (ok_law_line T) (hr.mono (by decide)) (by rfl) T.g_law_line T.F_law_line.kp T.b_law_line pass0 (ca_cons (ce_op op_addD g_add (ce_op op_fdivN g_fdiv (ce_var 3) ce_int) ce_int) (ca_cons (ce_op op_addD g_add (ce_var 4) (ce_op op_mulD g_mul (ce_lst [] (ca_cons ce_int ca_nil)) (ce_op op_sub g_sub ce_int (ce_callB call_len g_len (by rfl) T.z_len (by decide +kernel) (ca_cons (ce_var 4) ca_nil))))) ca_nil))) ca_nil)))
  cb_nil)))
  (cb_cons (cs_ret (ce_var 2))
  cb_nil)))))
theorem ok_law_numbers (T : Txt K mg) : FnOk P w K mg base CX0 3 T.a_law_numbers T.d_law_numbers ["line"] (spOf K [] f_law_numbers) :=
  fn_ok (N := ["line", "found", "sign", "at"]) (ps := ["line"]) (fb := m_law_numbers) (io := []) T.F_law_numbers sc_law_numbers rfl (fun cdv A outer s H E hr =>
  (cb_cons (cs_if (ct_w (cw_or (ct_cmp (op_neD hr.units) g_ne (ce_callB call_len g_len (by rfl) T.z_len (by decide +kernel) (ca_cons (ce_var 0) ca_nil)) ce_int) (cw_or1 (ct_cmp op_gt g_gt (ce_callB call_len g_len (by rfl) T.z_len (by decide +kernel) (ca_cons (ce_lc (own := [("sign", 2)]) [] rfl sc_law_numbers.nd  (ci_seq (ce_var 0)) (blkOk_by (N := ["line", "found", "sign", "at"]) (sc := defScope s_law_numbers) (by decide +kernel)) (fun _ _ _ _ _ => (cg_name (i := 2) sc_law_numbers.nd rfl (by first | exact Or.inl rfl | exact Or.inr rfl))) (fun _ _ _ _ _ => (cts_one (ct_cmp op_notInD g_notIn (ce_var 2) ce_str))) (fun _ _ _ _ _ => (ce_var 2)) (by decide) (by decide)) ca_nil)) ce_int))))
  (cb_cons (cs_ret ce_non)
  cb_nil)
  cb_nil)
  (cb_cons (cs_setLc (i := 1) (own := [("at", 3)]) [] rfl sc_law_numbers.nd rfl rfl (sw_true rfl rfl rfl (by decide +kernel)) (ci_range3 (by rfl) T.z_range (ca_cons ce_int (ca_cons ce_int (ca_cons ce_int ca_nil)))) (blkOk_by (N := ["line", "found", "sign", "at"]) (sc := defScope s_law_numbers) (by decide +kernel)) (fun _ _ _ _ _ => (cg_name (i := 3) sc_law_numbers.nd rfl (by first | exact Or.inl rfl | exact Or.inr rfl))) (fun _ _ _ _ _ => cts_nil) (fun _ _ _ _ _ => (ce_callTy call_intD g_int (by rfl) T.z_int (by decide +kernel) (ca_cons (ce_slice sl_D g_sl (ce_var 0) (co_some (ce_var 3)) (co_some (ce_op op_addD g_add (ce_var 3) ce_int))) ca_nil))) (by decide) (by decide))
  (cb_cons (cs_ret (ce_if (ct_cmp op_gt g_gt (ce_callB (call_maxD rfl) g_max (by rfl) T.z_max (by decide +kernel) (ca_cons (ce_var 1) ca_nil)) ce_int) ce_non (ce_call (ios := []) (Ml := []) (by decide) (by decide) (ok_law_righted T) (hr.mono (by decide)) (by rfl) T.g_law_righted T.F_law_righted.kp T.b_law_righted pass0 (ca_cons (ce_var 1) ca_nil))))
  cb_nil))))
theorem ok_law_told (T : Txt K mg) : FnOk P w K mg base CX0 4 T.a_law_told T.d_law_told ["lines"] (spOf K [] f_law_told) :=
  fn_ok (N := ["lines", "text", "ended", "k", "numbers", "number"]) (ps := ["lines"]) (fb := m_law_told) (io := []) T.F_law_told sc_law_told rfl (fun cdv A outer s H E hr =>
  (cb_cons (cs_set (i := 1) [] sc_law_told.nd rfl (by first | exact Or.inl rfl | exact Or.inr rfl) ce_str)
  (cb_cons (cs_set (i := 2) [] sc_law_told.nd rfl (by first | exact Or.inl rfl | exact Or.inr rfl) ce_bl)
  (cb_cons (cs_for PassesOwn.never rfl (ci_range1 (by rfl) T.z_range (ca_cons (ce_callB call_len g_len (by rfl) T.z_len (by decide +kernel) (ca_cons (ce_var 0) ca_nil)) ca_nil)) (cg_name (i := 3) sc_law_told.nd rfl (by first | exact Or.inl rfl | exact Or.inr rfl))
  (cb_cons (cs_set (i := 4) [] sc_law_told.nd rfl (by first | exact Or.inl rfl | exact Or.inr rfl) (ce_call (ios := []) (Ml := []) (by decide) (by decide) (ok_law_numbers T) (hr.mono (by decide)) (by rfl) T.g_law_numbers T.F_law_numbers.kp T.b_law_numbers pass0 (ca_cons (ce_at (ce_var 0) (ce_var 3)) ca_nil)))
  (cb_cons (cs_if (ct_w (cw_or (ct_cmp op_isN g_isN (ce_var 4) ce_non) (cw_or (ct_cmp (op_neD hr.units) g_ne (ce_op op_addD g_add (ce_op op_mulD g_mul ce_int (ce_at (ce_var 4) ce_int)) (ce_at (ce_var 4) ce_int)) (ce_op op_addD g_add (ce_var 3) ce_int)) (cw_or1 (ct_truth (ce_var 2))))))
  (cb_cons (cs_ret (ce_tup [] (ca_cons ce_str (ca_cons (ce_op op_addD g_add (ce_var 3) ce_int) ca_nil))))
  cb_nil)
  cb_nil)
  (cb_cons (cs_for PassesOwn.never rfl (ci_seq (ce_slice sl_D g_sl (ce_var 4) (co_some ce_int) (co_some ce_int))) (cg_name (i := 5) sc_law_told.nd rfl (by first | exact Or.inl rfl | exact Or.inr rfl))
  (cb_cons (cs_if (ct_if (ct_truth (ce_var 2)) (ct_cmp op_gt g_gt (ce_var 5) ce_int) (ct_w (cw_or (ct_cmp (op_eqD hr.units) g_eq (ce_var 5) ce_int) (cw_or1 (ct_cmp op_gt g_gt (ce_var 5) ce_int)))))
  (cb_cons (cs_ret (ce_tup [] (ca_cons ce_str (ca_cons (ce_op op_addD g_add (ce_var 3) ce_int) ca_nil))))
  cb_nil)
  cb_nil)
  (cb_cons (cs_set (i := 2) [] sc_law_told.nd rfl (by first | exact Or.inl rfl | exact Or.inr rfl) (ce_or (ce_var 2) (ce_one (ce_cmp (op_eqD hr.units) g_eq (ce_var 5) ce_int))))
  (cb_cons (cs_set (i := 1) [] sc_law_told.nd rfl (by first | exact Or.inl rfl | exact Or.inr rfl) (ce_op op_addD g_add (ce_var 1) (ce_if (ct_truth (ce_var 2)) ce_str (ce_at (ce_call0 (ok_law_signs T) (hr.mono (by decide)) (by rfl) T.g_law_signs T.F_law_signs.kp T.b_law_signs pass0) (ce_op op_sub g_sub (ce_var 5) ce_int)))))
  cb_nil))))
  cb_nil))))
  (cb_cons (cs_ret (ce_if (ct_truth (ce_var 2)) (ce_tup [] (ca_cons ce_str (ca_cons (ce_var 1) ca_nil))) (ce_tup [] (ca_cons ce_str (ca_cons (ce_op op_addD g_add (ce_callB call_len g_len (by rfl) T.z_len (by decide +kernel) (ca_cons (ce_var 0) ca_nil)) ce_int) ca_nil)))))
  cb_nil)))))
theorem ok_law_changed (T : Txt K mg) : FnOk P w K mg base CX0 4 T.a_law_changed T.d_law_changed ["state", "lines"] (spOf K [0] f_law_changed) :=
  fn_ok (N := ["state", "lines", "k", "at", "rows", "choice", "other", "place", "line"]) (ps := ["state", "lines"]) (fb := m_law_changed) (io := [0]) T.F_law_changed sc_law_changed rfl (fun cdv A outer s H E hr =>
  (cb_cons (cs_setLc (i := 1) (own := [("line", 8)]) [] rfl sc_law_changed.nd rfl rfl (sw_true rfl rfl rfl (by decide +kernel)) (ci_seq (ce_var 1)) (blkOk_by (N := ["state", "lines", "k", "at", "rows", "choice", "other", "place", "line"]) (sc := defScope s_law_changed) (by decide +kernel)) (fun _ _ _ _ _ => (cg_name (i := 8) sc_law_changed.nd rfl (by first | exact Or.inl rfl | exact Or.inr rfl))) (fun _ _ _ _ _ => cts_nil) (fun _ _ _ _ _ => (ce_callTy call_list_of g_list (by rfl) T.z_list (by decide +kernel) (ca_cons (ce_var 8) ca_nil))) (by decide) (by decide))
  (cb_cons (cs_for PassesOwn.never rfl (ci_range1 (by rfl) T.z_range (ca_cons (ce_call (ios := [(0, 0)]) (Ml := []) (by decide) (by decide) (ok_law_digit T) (hr.mono (by decide)) (by rfl) T.g_law_digit T.F_law_digit.kp T.b_law_digit pass0 (ca_cons (ce_var 0) (ca_cons ce_int ca_nil))) ca_nil)) (cg_name (i := 2) sc_law_changed.nd rfl (by first | exact Or.inl rfl | exact Or.inr rfl))
  (cb_cons (cs_set (i := 3) [] sc_law_changed.nd rfl (by first | exact Or.inl rfl | exact Or.inr rfl) (ce_call (ios := [(0, 0)]) (Ml := []) (by decide) (by decide) (ok_law_digit T) (hr.mono (by decide)) (by rfl) T.g_law_digit T.F_law_digit.kp T.b_law_digit pass0 (ca_cons (ce_var 0) (ca_cons (ce_callB call_len g_len (by rfl) T.z_len (by decide +kernel) (ca_cons (ce_var 1) ca_nil)) ca_nil))))
  (cb_cons (cs_setitem [1] [] (ce_call (ios := [(0, 0)]) (Ml := []) (by decide) (by decide) (ok_law_digit T) (hr.mono (by decide)) (by rfl) T.g_law_digit T.F_law_digit.kp T.b_law_digit pass0 (ca_cons (ce_var 0) (ca_cons ce_int ca_nil))) (ce_at (ce_var 1) (ce_var 3)) (ce_call (ios := [(0, 0)]) (Ml := []) (by decide) (by decide) (ok_law_digit T) (hr.mono (by decide)) (by rfl) T.g_law_digit T.F_law_digit.kp T.b_law_digit pass0 (ca_cons (ce_var 0) (ca_cons ce_int ca_nil))))
  cb_nil)))
  (cb_cons (cs_setLc (i := 4) (own := [("line", 8)]) [] rfl sc_law_changed.nd rfl rfl (sw_true rfl rfl rfl (by decide +kernel)) (ci_seqK 1) (blkOk_by (N := ["state", "lines", "k", "at", "rows", "choice", "other", "place", "line"]) (sc := defScope s_law_changed) (by decide +kernel)) (fun _ _ _ _ _ => (cg_name (i := 8) sc_law_changed.nd rfl (by first | exact Or.inl rfl | exact Or.inr rfl))) (fun _ _ _ _ _ => cts_nil) (fun _ _ _ _ _ => (ce_call (ios := []) (Ml := []) (by decide) (by decide) (ok_law_written T) (hr.mono (by decide)) (by rfl) T.g_law_written T.F_law_written.kp T.b_law_written pass0 (ca_cons (ce_var 8) ca_nil))) (by decide) (by decide))
  (cb_cons (cs_set (i := 3) [] sc_law_changed.nd rfl (by first | exact Or.inl rfl | exact Or.inr rfl) (ce_call (ios := [(0, 0)]) (Ml := []) (by decide) (by decide) (ok_law_digit T) (hr.mono (by decide)) (by rfl) T.g_law_digit T.F_law_digit.kp T.b_law_digit pass0 (ca_cons (ce_var 0) (ca_cons (ce_callB call_len g_len (by rfl) T.z_len (by decide +kernel) (ca_cons (ce_var 4) ca_nil)) ca_nil))))
  (cb_cons (cs_set (i := 5) [] sc_law_changed.nd rfl (by first | exact Or.inl rfl | exact Or.inr rfl) (ce_call (ios := [(0, 0)]) (Ml := []) (by decide) (by decide) (ok_law_digit T) (hr.mono (by decide)) (by rfl) T.g_law_digit T.F_law_digit.kp T.b_law_digit pass0 (ca_cons (ce_var 0) (ca_cons ce_int ca_nil))))
  (cb_cons (cs_if (ct_cmp (op_eqD hr.units) g_eq (ce_var 5) ce_int)
  (cb_cons (cs_expr (ce_mut [4] PySem.F.slot_list_pop PySem.F.type_list_pop mt_popAt g_popAt (ce_var 4) (ca_cons (ce_var 3) ca_nil)))
  cb_nil)
  (cb_cons (cs_if (ct_cmp (op_eqD hr.units) g_eq (ce_var 5) ce_int)
  (cb_cons (cs_expr (ce_mut [4] PySem.F.slot_list_insert PySem.F.type_list_insert mt_insert g_insert (ce_var 4) (ca_cons (ce_var 3) (ca_cons (ce_at (ce_var 4) (ce_call (ios := [(0, 0)]) (Ml := []) (by decide) (by decide) (ok_law_digit T) (hr.mono (by decide)) (by rfl) T.g_law_digit T.F_law_digit.kp T.b_law_digit pass0 (ca_cons (ce_var 0) (ca_cons (ce_callB call_len g_len (by rfl) T.z_len (by decide +kernel) (ca_cons (ce_var 4) ca_nil)) ca_nil)))) ca_nil))))
  cb_nil)
  (cb_cons (cs_if (ct_cmp (op_eqD hr.units) g_eq (ce_var 5) ce_int)
  (cb_cons (cs_set (i := 6) [] sc_law_changed.nd rfl (by first | exact Or.inl rfl | exact Or.inr rfl) (ce_call (ios := [(0, 0)]) (Ml := []) (by decide) (by decide) (ok_law_digit T) (hr.mono (by decide)) (by rfl) T.g_law_digit T.F_law_digit.kp T.b_law_digit pass0 (ca_cons (ce_var 0) (ca_cons (ce_callB call_len g_len (by rfl) T.z_len (by decide +kernel) (ca_cons (ce_var 4) ca_nil)) ca_nil))))
  (cb_cons (cs_swap [4] [4] rfl (ce_tup [] (ca_cons (ce_at (ce_var 4) (ce_var 6)) (ca_cons (ce_at (ce_var 4) (ce_var 3)) ca_nil))) (ce_var 4) (ce_var 3) (ce_var 4) (ce_var 6))
  cb_nil))
  (cb_cons (cs_if (ct_cmp (op_eqD hr.units) g_eq (ce_var 5) ce_int)
  (cb_cons (cs_setitem [4] [] (ce_op op_addD g_add (ce_op op_addD g_add (ce_slice sl_D g_sl (ce_at (ce_var 4) (ce_var 3)) co_none (co_some (ce_call (ios := [(0, 0)]) (Ml := []) (by decide) (by decide) (ok_law_digit T) (hr.mono (by decide)) (by rfl) T.g_law_digit T.F_law_digit.kp T.b_law_digit pass0 (ca_cons (ce_var 0) (ca_cons ce_int ca_nil))))) ce_str) (ce_slice sl_D g_sl (ce_at (ce_var 4) (ce_var 3)) co_none (co_some ce_int))) (ce_var 4) (ce_var 3))
  cb_nil)
  (cb_cons (cs_if (ct_cmp (op_eqD hr.units) g_eq (ce_var 5) ce_int)
  (cb_cons (cs_set (i := 7) [] sc_law_changed.nd rfl (by first | exact Or.inl rfl | exact Or.inr rfl) (ce_op op_mulD g_mul ce_int (ce_call (ios := [(0, 0)]) (Ml := []) (by decide) (by decide) (ok_law_digit T) (hr.mono (by decide)) (by rfl) T.g_law_digit T.F_law_digit.kp T.b_law_digit pass0 (ca_cons (ce_var 0) (ca_cons ce_int ca_nil)))))
  (cb_cons (cs_setitem [4] [] (ce_op op_addD g_add (ce_op op_addD g_add (ce_slice sl_D g_sl (ce_at (ce_var 4) (ce_var 3)) co_none (co_some (ce_var 7))) (ce_call (ios := [(0, 0)]) (Ml := []) (by decide) (by decide) (ok_law_pick T) (hr.mono (by decide)) (by rfl) T.g_law_pick T.F_law_pick.kp T.b_law_pick pass0 (ca_cons (ce_var 0) (ca_cons (ce_tup [] (ca_cons ce_str (ca_cons ce_str (ca_cons ce_str (ca_cons ce_str (ca_cons ce_str ca_nil)))))) ca_nil)))) (ce_slice sl_D g_sl (ce_at (ce_var 4) (ce_var 3)) (co_some (ce_op op_addD g_add (ce_var 7) ce_int)) co_none)) (ce_var 4) (ce_var 3))
  cb_nil))
  cb_nil)
  cb_nil))
  cb_nil))
  cb_nil))
  cb_nil))
  (cb_cons (cs_ret (ce_var 4))
  cb_nil))))))))
theorem ok_law_odd_line (T : Txt K mg) : FnOk P w K mg base CX0 4 T.a_law_odd_line T.d_law_odd_line ["state", "number"] (spOf K [0] f_law_odd_line) :=
  fn_ok (N := ["state", "number", "signs", "at", "k"]) (ps := ["state", "number"]) (fb := m_law_odd_line) (io := [0]) T.F_law_odd_line sc_law_odd_line rfl (fun cdv A outer s H E hr =>
  (cb_cons (cs_setLc (i := 2) (own := [("k", 4)]) [] rfl sc_law_odd_line.nd rfl rfl (sw_true rfl rfl rfl (by decide +kernel)) (ci_range1 (by rfl) T.z_range (ca_cons ce_int ca_nil)) (blkOk_by (N := ["state", "number", "signs", "at", "k"]) (sc := defScope s_law_odd_line) (by decide +kernel)) (fun _ _ _ _ _ => (cg_name (i := 4) sc_law_odd_line.nd rfl (by first | exact Or.inl rfl | exact Or.inr rfl))) (fun _ _ _ _ _ => cts_nil) (fun _ _ _ _ _ => (ce_op op_addD g_add ce_int (ce_call (ios := [(0, 0)]) (Ml := []) (by decide) (by decide) (ok_law_digit T) (hr.mono (by decide)) (by rfl) T.g_law_digit T.F_law_digit.kp T.b_law_digit pass0 (ca_cons (ce_var 0) (ca_cons ce_int ca_nil))))) (by decide) (by decide))
  (cb_cons (cs_set (i := 3) [] sc_law_odd_line.nd rfl (by first | exact Or.inl rfl | exact Or.inr rfl) (ce_call (ios := [(0, 0)]) (Ml := []) (by decide) (by decide) (ok_law_digit T) (hr.mono (by decide)) (by rfl) T.g_law_digit T.F_law_digit.kp T.b_law_digit pass0 (ca_cons (ce_var 0) (ca_cons ce_int ca_nil))))
  (cb_cons (cs_setitem [2] [] (ce_call (ios := [(0, 0)]) (Ml := []) (by decide) (by decide) (ok_law_pick T) (hr.mono (by decide)) (by rfl) T.g_law_pick T.F_law_pick.kp T.b_law_pick pass0 (ca_cons (ce_var 0) (ca_cons (ce_tup [] (ca_cons ce_int (ca_cons ce_int (ca_cons ce_int (ca_cons ce_int ca_nil))))) ca_nil))) (ce_var 2) (ce_var 3))
  (cb_cons (cs_if (ct_cmp (op_eqD hr.units) g_eq (ce_call (ios := [(0, 0)]) (Ml := []) (by decide) (by decide) (ok_law_digit T) (hr.mono (by decide)) (by rfl) T.g_law_digit T.F_law_digit.kp T.b_law_digit pass0 (ca_cons (ce_var 0) (ca_cons ce_int ca_nil))) ce_int)
  (cb_cons (cs_set (i := 2) [] sc_law_odd_line.nd rfl (by first | exact Or.inl rfl | exact Or.inr rfl) (ce_op op_addD g_add (ce_slice sl_D g_sl (ce_var 2) co_none (co_some (ce_op op_addD g_add (ce_var 3) ce_int))) (ce_op op_mulD g_mul (ce_lst [] (ca_cons ce_int ca_nil)) (ce_op op_sub g_sub ce_int (ce_var 3)))))
  cb_nil)
  cb_nil)
  (cb_cons (cs_ret (ce_call (ios := []) (Ml := []) (by decide) (by decide) (ok_law_line T) (hr.mono (by decide)) (by rfl) T.g_law_line T.F_law_line.kp T.b_law_line pass0 (ca_cons (ce_var 1) (ca_cons (ce_var 2) ca_nil))))
  cb_nil))))))
theorem ok_law (T : Txt K mg) : FnOk P w K mg base CX0 5 T.a_law T.d_law ["script"] (spOf K [] f_law) :=
  fn_ok (N := ["script", "number", "state", "turn", "which", "signs", "right", "k", "kept", "many", "text", "lines", "rows", "line"]) (ps := ["script"]) (fb := m_law) (io := []) T.F_law sc_law rfl (fun cdv A outer s H E hr =>
  (cb_cons (cs_for PassesOwn.never rfl (ci_range1 (by rfl) T.z_range (ca_cons ce_int ca_nil)) (cg_name (i := 1) sc_law.nd rfl (by first | exact Or.inl rfl | exact Or.inr rfl))
  (cb_cons (cs_set (i := 2) [] sc_law.nd rfl (by first | exact Or.inl rfl | exact Or.inr rfl) (ce_call (ios := []) (Ml := []) (by decide) (by decide) (ok_law_stream T) (hr.mono (by decide)) (by rfl) T.g_law_stream T.F_law_stream.kp T.b_law_stream pass0 (ca_cons (ce_var 0) (ca_cons (ce_var 1) ca_nil))))
  (cb_cons (cs_for PassesOwn.never rfl (ci_range1 (by rfl) T.z_range (ca_cons ce_int ca_nil)) (cg_name (i := 3) sc_law.nd rfl (by first | exact Or.inl rfl | exact Or.inr rfl))
  (cb_cons (cs_set (i := 4) [] sc_law.nd rfl (by first | exact Or.inl rfl | exact Or.inr rfl) (ce_call (ios := [(0, 2)]) (Ml := []) (by decide) (by decide) (ok_law_pick T) (hr.mono (by decide)) (by rfl) T.g_law_pick T.F_law_pick.kp T.b_law_pick pass0 (ca_late (ce_var 2) (ca_cons (ce_tup [] (ca_cons ce_int (ca_cons ce_int (ca_cons ce_int (ca_cons ce_int (ca_cons ce_int (ca_cons (ce_op op_addD g_add ce_int (ce_call (ios := [(0, 2)]) (Ml := []) (by decide) (by decide) (ok_law_digit T) (hr.mono (by decide)) (by rfl) T.g_law_digit T.F_law_digit.kp T.b_law_digit pass0 (ca_cons (ce_var 2) (ca_cons ce_int ca_nil)))) ca_nil))))))) ca_nil))))
  (cb_cons (cs_setLc (i := 5) (own := [("k", 7)]) [] rfl sc_law.nd rfl rfl (sw_true rfl rfl rfl (by decide +kernel)) (ci_range1 (by rfl) T.z_range (ca_cons ce_int ca_nil)) (blkOk_by (N := ["script", "number", "state", "turn", "which", "signs", "right", "k", "kept", "many", "text", "lines", "rows", "line"]) (sc := defScope s_law) (by decide +kernel)) (fun _ _ _ _ _ => (cg_name (i := 7) sc_law.nd rfl (by first | exact Or.inl rfl | exact Or.inr rfl))) (fun _ _ _ _ _ => cts_nil) (fun _ _ _ _ _ => (ce_call (ios := [(0, 2)]) (Ml := []) (by decide) (by decide) (ok_law_digit T) (hr.mono (by decide)) (by rfl) T.g_law_digit T.F_law_digit.kp T.b_law_digit pass0 (ca_cons (ce_var 2) (ca_cons ce_int ca_nil)))) (by decide) (by decide))
  (cb_cons (cs_set (i := 6) [] sc_law.nd rfl (by first | exact Or.inl rfl | exact Or.inr rfl) (ce_call (ios := []) (Ml := []) (by decide) (by decide) (ok_law_line T) (hr.mono (by decide)) (by rfl) T.g_law_line T.F_law_line.kp T.b_law_line pass0 (ca_cons (ce_var 4) (ca_cons (ce_var 5) ca_nil))))
  (cb_cons (cs_if (ct_cmp (op_neD hr.units) g_ne (ce_call (ios := []) (Ml := []) (by decide) (by decide) (ok_line_of T) (hr.mono (by decide)) (by rfl) T.g_line_of T.F_line_of.kp T.b_line_of pass0 (ca_cons (ce_var 4) (ca_cons (ce_callTy call_list_of g_list (by rfl) T.z_list (by decide +kernel) (ca_cons (ce_var 5) ca_nil)) ca_nil))) (ce_var 6))
  (cb_cons (cs_ret ce_bl)
  cb_nil)
  cb_nil)
  (cb_cons (cs_for PassesOwn.never rfl (ci_range1 (by rfl) T.z_range (ca_cons (ce_call (ios := [(0, 2)]) (Ml := []) (by decide) (by decide) (ok_law_pick T) (hr.mono (by decide)) (by rfl) T.g_law_pick T.F_law_pick.kp T.b_law_pick pass0 (ca_cons (ce_var 2) (ca_cons (ce_tup [] (ca_cons ce_int (ca_cons ce_int (ca_cons ce_int (ca_cons ce_int (ca_cons ce_int (ca_cons ce_int ca_nil))))))) ca_nil))) ca_nil)) (cg_name (i := 7) sc_law.nd rfl (by first | exact Or.inl rfl | exact Or.inr rfl))
  (cb_cons (cs_setitem [6] [] (ce_call (ios := [(0, 2)]) (Ml := []) (by decide) (by decide) (ok_law_digit T) (hr.mono (by decide)) (by rfl) T.g_law_digit T.F_law_digit.kp T.b_law_digit pass0 (ca_cons (ce_var 2) (ca_cons ce_int ca_nil))) (ce_var 6) (ce_call (ios := [(0, 2)]) (Ml := []) (by decide) (by decide) (ok_law_digit T) (hr.mono (by decide)) (by rfl) T.g_law_digit T.F_law_digit.kp T.b_law_digit pass0 (ca_cons (ce_var 2) (ca_cons ce_int ca_nil))))
  cb_nil))
  (cb_cons (cs_set (i := 8) [] sc_law.nd rfl (by first | exact Or.inl rfl | exact Or.inr rfl) (ce_callTy call_list_of g_list (by rfl) T.z_list (by decide +kernel) (ca_cons (ce_var 6) ca_nil)))
  (cb_cons (cs_if (ct_w (cw_or (ct_cmp (op_neD hr.units) g_ne (ce_call (ios := []) (Ml := []) (by decide) (by decide) (ok_righted T) (hr.mono (by decide)) (by rfl) T.g_righted T.F_righted.kp T.b_righted pass0 (ca_cons (ce_var 6) ca_nil)) (ce_call (ios := []) (Ml := []) (by decide) (by decide) (ok_law_righted T) (hr.mono (by decide)) (by rfl) T.g_law_righted T.F_law_righted.kp T.b_law_righted pass0 (ca_cons (ce_var 8) ca_nil))) (cw_or1 (ct_cmp (op_neD hr.units) g_ne (ce_var 6) (ce_var 8)))))
  (cb_cons (cs_ret ce_bl)
  cb_nil)
  cb_nil)
  cb_nil))))))))
  (cb_cons (cs_set (i := 9) [] sc_law.nd rfl (by first | exact Or.inl rfl | exact Or.inr rfl) (ce_call (ios := [(0, 2)]) (Ml := []) (by decide) (by decide) (ok_law_pick T) (hr.mono (by decide)) (by rfl) T.g_law_pick T.F_law_pick.kp T.b_law_pick pass0 (ca_late (ce_var 2) (ca_cons (ce_tup [] (ca_cons ce_int (ca_cons ce_int (ca_cons ce_int (ca_cons ce_int (ca_cons (ce_call (ios := [(0, 2)]) (Ml := []) (by decide) (by decide) (ok_law_digit T) (hr.mono (by decide)) (by rfl) T.g_law_digit T.F_law_digit.kp T.b_law_digit pass0 (ca_cons (ce_var 2) (ca_cons ce_int ca_nil))) ca_nil)))))) ca_nil))))
  (cb_cons (cs_set (i := 10) [] sc_law.nd rfl (by first | exact Or.inl rfl | exact Or.inr rfl) (ce_meth (by decide) PySem.F.plainAttrs_str PySem.F.slot_str_join PySem.F.type_str_join mt_join g_join ce_str (ca_cons (ce_lc (own := [("k", 7)]) [] rfl sc_law.nd  (ci_range1 (by rfl) T.z_range (ca_cons (ce_var 9) ca_nil)) (blkOk_by (N := ["script", "number", "state", "turn", "which", "signs", "right", "k", "kept", "many", "text", "lines", "rows", "line"]) (sc := defScope s_law) (by decide +kernel)) (fun _ _ _ _ _ => (cg_name (i := 7) sc_law.nd rfl (by first | exact Or.inl rfl | exact Or.inr rfl))) (fun _ _ _ _ _ => cts_nil) (fun _ _ _ _ _ => (ce_call (ios := [(0, 2)]) (Ml := []) (by decide) (by decide) (ok_law_pick T) (hr.mono (by decide)) (by rfl) T.g_law_pick T.F_law_pick.kp T.b_law_pick pass0 (ca_cons (ce_var 2) (ca_cons (ce_call0 (ok_law_signs T) (hr.mono (by decide)) (by rfl) T.g_law_signs T.F_law_signs.kp T.b_law_signs pass0) ca_nil)))) (by decide) (by decide)) ca_nil)))
  (cb_cons (cs_set (i := 11) [] sc_law.nd rfl (by first | exact Or.inl rfl | exact Or.inr rfl) (ce_call (ios := []) (Ml := []) (by decide) (by decide) (ok_law_text_lines T) (hr.mono (by decide)) (by rfl) T.g_law_text_lines T.F_law_text_lines.kp T.b_law_text_lines pass0 (ca_cons (ce_var 10) ca_nil)))
  (cb_cons (cs_if (ct_cmp (op_neD hr.units) g_ne (ce_call (ios := []) (Ml := []) (by decide) (by decide) (ok_lines_of T) (hr.mono (by decide)) (by rfl) T.g_lines_of T.F_lines_of.kp T.b_lines_of pass0 (ca_cons (ce_var 10) ca_nil)) (ce_lc (own := [("line", 13)]) [] rfl sc_law.nd  (ci_seqK 11) (blkOk_by (N := ["script", "number", "state", "turn", "which", "signs", "right", "k", "kept", "many", "text", "lines", "rows", "line"]) (sc := defScope s_law) (by decide +kernel)) (fun _ _ _ _ _ => (cg_name (i := 13) sc_law.nd rfl (by first | exact Or.inl rfl | exact Or.inr rfl))) (fun _ _ _ _ _ => cts_nil) (fun _ _ _ _ _ => (ce_call (ios := []) (Ml := []) (by decide) (by decide) (ok_law_written T) (hr.mono (by decide)) (by rfl) T.g_law_written T.F_law_written.kp T.b_law_written pass0 (ca_cons (ce_var 13) ca_nil))) (by decide) (by decide)))
  (cb_cons (cs_ret ce_bl)
  cb_nil)
  cb_nil)
  (cb_cons (cs_if (ct_cmp (op_eqD hr.units) g_eq (ce_call (ios := [(0, 2)]) (Ml := []) (by decide) (by decide) (ok_law_digit T) (hr.mono (by decide)) (by rfl) T.g_law_digit T.F_law_digit.kp T.b_law_digit pass0 (ca_cons (ce_var 2) (ca_cons ce_int ca_nil))) ce_int)
  (cb_cons (cs_setitem [11] [] (ce_call (ios := [(0, 2)]) (Ml := []) (by decide) (by decide) (ok_law_odd_line T) (hr.mono (by decide)) (by rfl) T.g_law_odd_line T.F_law_odd_line.kp T.b_law_odd_line pass0 (ca_cons (ce_var 2) (ca_cons (ce_callB call_len g_len (by rfl) T.z_len (by decide +kernel) (ca_cons (ce_var 11) ca_nil)) ca_nil))) (ce_var 11) (ce_un un_neg g_neg ce_int))
  cb_nil)
  cb_nil)
  (cb_cons (cs_for PassesOwn.never rfl (ci_range1 (by rfl) T.z_range (ca_cons ce_int ca_nil)) (cg_name (i := 3) sc_law.nd rfl (by first | exact Or.inl rfl | exact Or.inr rfl))
  (cb_cons (cs_set (i := 12) [] sc_law.nd rfl (by first | exact Or.inl rfl | exact Or.inr rfl) (ce_call (ios := [(0, 2)]) (Ml := []) (by decide) (by decide) (ok_law_changed T) (hr.mono (by decide)) (by rfl) T.g_law_changed T.F_law_changed.kp T.b_law_changed pass0 (ca_cons (ce_var 2) (ca_cons (ce_var 11) ca_nil))))
  (cb_cons (cs_if (ct_cmp (op_neD hr.units) g_ne (ce_call (ios := []) (Ml := []) (by decide) (by decide) (ok_text_of T) (hr.mono (by decide)) (by rfl) T.g_text_of T.F_text_of.kp T.b_text_of pass0 (ca_cons (ce_callTy call_list_of g_list (by rfl) T.z_list (by decide +kernel) (ca_cons (ce_var 12) ca_nil)) ca_nil)) (ce_call (ios := []) (Ml := []) (by decide) (by decide) (ok_law_told T) (hr.mono (by decide)) (by rfl) T.g_law_told T.F_law_told.kp T.b_law_told pass0 (ca_cons (ce_var 12) ca_nil)))
  (cb_cons (cs_ret ce_bl)
  cb_nil)
  cb_nil)
  cb_nil)))
  cb_nil)))))))))
  (cb_cons (cs_ret ce_bl)
  cb_nil)))
end
theorem all_mk {sp : PySem.W.Frag → Sp} (hsp : ∀ K vs H Q E, sp K vs H Q E → spOf K [] f_law vs H Q E) {l : PySem.W.OpenLaw} {w : World} {K : PySem.W.Frag} {h : Heap} {mg : Str → Option Value} {fa f_sums_ f_inverse_ f_line_of_ f_righted_ f_written_ f_numbers_in_ f_lines_of_ f_signs_in_ f_are_of_text_ f_text_of_ f_law_mixed_ f_law_stream_ f_law_digit_ f_law_pick_ f_law_signs_ f_law_totals_ f_law_line_ f_law_righted_ f_law_written_ f_law_text_lines_ f_law_numbers_ f_law_told_ f_law_changed_ f_law_odd_line_ f_law_ : Addr} (X : K.In h) (G : h.Ns mainGlobals mg) (hfa : mg "law" = some (.ref fa))
    {od_sums an_sums : Option Addr} {sl_sums : Array (Option Value)} {oc_sums kV_sums dc_sums pm_sums cd_sums ct_sums : Value} (a_sums : PySem.W.nsIn K mainGlobals "sums" = some (some (.ref f_sums_))) (l_sums : K.lookup f_sums_ = some ⟨oc_sums, od_sums, .func (PySem.W.fnOf "sums" "sums" (defArgs s_sums) (defBody s_sums) (defScope s_sums) .none kV_sums dc_sums pm_sums an_sums cd_sums ct_sums), sl_sums⟩) (c_sums : PySem.W.codeIn K cd_sums "sums" = true) (k_sums : PySem.W.keepIn K (.ref f_sums_) = true)
    {od_inverse an_inverse : Option Addr} {sl_inverse : Array (Option Value)} {oc_inverse kV_inverse dc_inverse pm_inverse cd_inverse ct_inverse : Value} (a_inverse : PySem.W.nsIn K mainGlobals "inverse" = some (some (.ref f_inverse_))) (l_inverse : K.lookup f_inverse_ = some ⟨oc_inverse, od_inverse, .func (PySem.W.fnOf "inverse" "inverse" (defArgs s_inverse) (defBody s_inverse) (defScope s_inverse) .none kV_inverse dc_inverse pm_inverse an_inverse cd_inverse ct_inverse), sl_inverse⟩) (c_inverse : PySem.W.codeIn K cd_inverse "inverse" = true) (k_inverse : PySem.W.keepIn K (.ref f_inverse_) = true)
    {od_line_of an_line_of : Option Addr} {sl_line_of : Array (Option Value)} {oc_line_of kV_line_of dc_line_of pm_line_of cd_line_of ct_line_of : Value} (a_line_of : PySem.W.nsIn K mainGlobals "line_of" = some (some (.ref f_line_of_))) (l_line_of : K.lookup f_line_of_ = some ⟨oc_line_of, od_line_of, .func (PySem.W.fnOf "line_of" "line_of" (defArgs s_line_of) (defBody s_line_of) (defScope s_line_of) .none kV_line_of dc_line_of pm_line_of an_line_of cd_line_of ct_line_of), sl_line_of⟩) (c_line_of : PySem.W.codeIn K cd_line_of "line_of" = true) (k_line_of : PySem.W.keepIn K (.ref f_line_of_) = true)
    {od_righted an_righted : Option Addr} {sl_righted : Array (Option Value)} {oc_righted kV_righted dc_righted pm_righted cd_righted ct_righted : Value} (a_righted : PySem.W.nsIn K mainGlobals "righted" = some (some (.ref f_righted_))) (l_righted : K.lookup f_righted_ = some ⟨oc_righted, od_righted, .func (PySem.W.fnOf "righted" "righted" (defArgs s_righted) (defBody s_righted) (defScope s_righted) .none kV_righted dc_righted pm_righted an_righted cd_righted ct_righted), sl_righted⟩) (c_righted : PySem.W.codeIn K cd_righted "righted" = true) (k_righted : PySem.W.keepIn K (.ref f_righted_) = true)
    {od_written an_written : Option Addr} {sl_written : Array (Option Value)} {oc_written kV_written dc_written pm_written cd_written ct_written : Value} (a_written : PySem.W.nsIn K mainGlobals "written" = some (some (.ref f_written_))) (l_written : K.lookup f_written_ = some ⟨oc_written, od_written, .func (PySem.W.fnOf "written" "written" (defArgs s_written) (defBody s_written) (defScope s_written) .none kV_written dc_written pm_written an_written cd_written ct_written), sl_written⟩) (c_written : PySem.W.codeIn K cd_written "written" = true) (k_written : PySem.W.keepIn K (.ref f_written_) = true)
    {od_numbers_in an_numbers_in : Option Addr} {sl_numbers_in : Array (Option Value)} {oc_numbers_in kV_numbers_in dc_numbers_in pm_numbers_in cd_numbers_in ct_numbers_in : Value} (a_numbers_in : PySem.W.nsIn K mainGlobals "numbers_in" = some (some (.ref f_numbers_in_))) (l_numbers_in : K.lookup f_numbers_in_ = some ⟨oc_numbers_in, od_numbers_in, .func (PySem.W.fnOf "numbers_in" "numbers_in" (defArgs s_numbers_in) (defBody s_numbers_in) (defScope s_numbers_in) .none kV_numbers_in dc_numbers_in pm_numbers_in an_numbers_in cd_numbers_in ct_numbers_in), sl_numbers_in⟩) (c_numbers_in : PySem.W.codeIn K cd_numbers_in "numbers_in" = true) (k_numbers_in : PySem.W.keepIn K (.ref f_numbers_in_) = true)
    {od_lines_of an_lines_of : Option Addr} {sl_lines_of : Array (Option Value)} {oc_lines_of kV_lines_of dc_lines_of pm_lines_of cd_lines_of ct_lines_of : Value} (a_lines_of : PySem.W.nsIn K mainGlobals "lines_of" = some (some (.ref f_lines_of_))) (l_lines_of : K.lookup f_lines_of_ = some ⟨oc_lines_of, od_lines_of, .func (PySem.W.fnOf "lines_of" "lines_of" (defArgs s_lines_of) (defBody s_lines_of) (defScope s_lines_of) .none kV_lines_of dc_lines_of pm_lines_of an_lines_of cd_lines_of ct_lines_of), sl_lines_of⟩) (c_lines_of : PySem.W.codeIn K cd_lines_of "lines_of" = true) (k_lines_of : PySem.W.keepIn K (.ref f_lines_of_) = true)
    {od_signs_in an_signs_in : Option Addr} {sl_signs_in : Array (Option Value)} {oc_signs_in kV_signs_in dc_signs_in pm_signs_in cd_signs_in ct_signs_in : Value} (a_signs_in : PySem.W.nsIn K mainGlobals "signs_in" = some (some (.ref f_signs_in_))) (l_signs_in : K.lookup f_signs_in_ = some ⟨oc_signs_in, od_signs_in, .func (PySem.W.fnOf "signs_in" "signs_in" (defArgs s_signs_in) (defBody s_signs_in) (defScope s_signs_in) .none kV_signs_in dc_signs_in pm_signs_in an_signs_in cd_signs_in ct_signs_in), sl_signs_in⟩) (c_signs_in : PySem.W.codeIn K cd_signs_in "signs_in" = true) (k_signs_in : PySem.W.keepIn K (.ref f_signs_in_) = true)
    {od_are_of_text an_are_of_text : Option Addr} {sl_are_of_text : Array (Option Value)} {oc_are_of_text kV_are_of_text dc_are_of_text pm_are_of_text cd_are_of_text ct_are_of_text : Value} (a_are_of_text : PySem.W.nsIn K mainGlobals "are_of_text" = some (some (.ref f_are_of_text_))) (l_are_of_text : K.lookup f_are_of_text_ = some ⟨oc_are_of_text, od_are_of_text, .func (PySem.W.fnOf "are_of_text" "are_of_text" (defArgs s_are_of_text) (defBody s_are_of_text) (defScope s_are_of_text) .none kV_are_of_text dc_are_of_text pm_are_of_text an_are_of_text cd_are_of_text ct_are_of_text), sl_are_of_text⟩) (c_are_of_text : PySem.W.codeIn K cd_are_of_text "are_of_text" = true) (k_are_of_text : PySem.W.keepIn K (.ref f_are_of_text_) = true)
    {od_text_of an_text_of : Option Addr} {sl_text_of : Array (Option Value)} {oc_text_of kV_text_of dc_text_of pm_text_of cd_text_of ct_text_of : Value} (a_text_of : PySem.W.nsIn K mainGlobals "text_of" = some (some (.ref f_text_of_))) (l_text_of : K.lookup f_text_of_ = some ⟨oc_text_of, od_text_of, .func (PySem.W.fnOf "text_of" "text_of" (defArgs s_text_of) (defBody s_text_of) (defScope s_text_of) .none kV_text_of dc_text_of pm_text_of an_text_of cd_text_of ct_text_of), sl_text_of⟩) (c_text_of : PySem.W.codeIn K cd_text_of "text_of" = true) (k_text_of : PySem.W.keepIn K (.ref f_text_of_) = true)
    {od_law_mixed an_law_mixed : Option Addr} {sl_law_mixed : Array (Option Value)} {oc_law_mixed kV_law_mixed dc_law_mixed pm_law_mixed cd_law_mixed ct_law_mixed : Value} (a_law_mixed : PySem.W.nsIn K mainGlobals "_law_mixed" = some (some (.ref f_law_mixed_))) (l_law_mixed : K.lookup f_law_mixed_ = some ⟨oc_law_mixed, od_law_mixed, .func (PySem.W.fnOf "_law_mixed" "_law_mixed" (defArgs s_law_mixed) (defBody s_law_mixed) (defScope s_law_mixed) .none kV_law_mixed dc_law_mixed pm_law_mixed an_law_mixed cd_law_mixed ct_law_mixed), sl_law_mixed⟩) (c_law_mixed : PySem.W.codeIn K cd_law_mixed "_law_mixed" = true) (k_law_mixed : PySem.W.keepIn K (.ref f_law_mixed_) = true)
    {od_law_stream an_law_stream : Option Addr} {sl_law_stream : Array (Option Value)} {oc_law_stream kV_law_stream dc_law_stream pm_law_stream cd_law_stream ct_law_stream : Value} (a_law_stream : PySem.W.nsIn K mainGlobals "_law_stream" = some (some (.ref f_law_stream_))) (l_law_stream : K.lookup f_law_stream_ = some ⟨oc_law_stream, od_law_stream, .func (PySem.W.fnOf "_law_stream" "_law_stream" (defArgs s_law_stream) (defBody s_law_stream) (defScope s_law_stream) .none kV_law_stream dc_law_stream pm_law_stream an_law_stream cd_law_stream ct_law_stream), sl_law_stream⟩) (c_law_stream : PySem.W.codeIn K cd_law_stream "_law_stream" = true) (k_law_stream : PySem.W.keepIn K (.ref f_law_stream_) = true)
    {od_law_digit an_law_digit : Option Addr} {sl_law_digit : Array (Option Value)} {oc_law_digit kV_law_digit dc_law_digit pm_law_digit cd_law_digit ct_law_digit : Value} (a_law_digit : PySem.W.nsIn K mainGlobals "_law_digit" = some (some (.ref f_law_digit_))) (l_law_digit : K.lookup f_law_digit_ = some ⟨oc_law_digit, od_law_digit, .func (PySem.W.fnOf "_law_digit" "_law_digit" (defArgs s_law_digit) (defBody s_law_digit) (defScope s_law_digit) .none kV_law_digit dc_law_digit pm_law_digit an_law_digit cd_law_digit ct_law_digit), sl_law_digit⟩) (c_law_digit : PySem.W.codeIn K cd_law_digit "_law_digit" = true) (k_law_digit : PySem.W.keepIn K (.ref f_law_digit_) = true)
    {od_law_pick an_law_pick : Option Addr} {sl_law_pick : Array (Option Value)} {oc_law_pick kV_law_pick dc_law_pick pm_law_pick cd_law_pick ct_law_pick : Value} (a_law_pick : PySem.W.nsIn K mainGlobals "_law_pick" = some (some (.ref f_law_pick_))) (l_law_pick : K.lookup f_law_pick_ = some ⟨oc_law_pick, od_law_pick, .func (PySem.W.fnOf "_law_pick" "_law_pick" (defArgs s_law_pick) (defBody s_law_pick) (defScope s_law_pick) .none kV_law_pick dc_law_pick pm_law_pick an_law_pick cd_law_pick ct_law_pick), sl_law_pick⟩) (c_law_pick : PySem.W.codeIn K cd_law_pick "_law_pick" = true) (k_law_pick : PySem.W.keepIn K (.ref f_law_pick_) = true)
    {od_law_signs an_law_signs : Option Addr} {sl_law_signs : Array (Option Value)} {oc_law_signs kV_law_signs dc_law_signs pm_law_signs cd_law_signs ct_law_signs : Value} (a_law_signs : PySem.W.nsIn K mainGlobals "_law_signs" = some (some (.ref f_law_signs_))) (l_law_signs : K.lookup f_law_signs_ = some ⟨oc_law_signs, od_law_signs, .func (PySem.W.fnOf "_law_signs" "_law_signs" (defArgs s_law_signs) (defBody s_law_signs) (defScope s_law_signs) .none kV_law_signs dc_law_signs pm_law_signs an_law_signs cd_law_signs ct_law_signs), sl_law_signs⟩) (c_law_signs : PySem.W.codeIn K cd_law_signs "_law_signs" = true) (k_law_signs : PySem.W.keepIn K (.ref f_law_signs_) = true)
    {od_law_totals an_law_totals : Option Addr} {sl_law_totals : Array (Option Value)} {oc_law_totals kV_law_totals dc_law_totals pm_law_totals cd_law_totals ct_law_totals : Value} (a_law_totals : PySem.W.nsIn K mainGlobals "_law_totals" = some (some (.ref f_law_totals_))) (l_law_totals : K.lookup f_law_totals_ = some ⟨oc_law_totals, od_law_totals, .func (PySem.W.fnOf "_law_totals" "_law_totals" (defArgs s_law_totals) (defBody s_law_totals) (defScope s_law_totals) .none kV_law_totals dc_law_totals pm_law_totals an_law_totals cd_law_totals ct_law_totals), sl_law_totals⟩) (c_law_totals : PySem.W.codeIn K cd_law_totals "_law_totals" = true) (k_law_totals : PySem.W.keepIn K (.ref f_law_totals_) = true)
    {od_law_line an_law_line : Option Addr} {sl_law_line : Array (Option Value)} {oc_law_line kV_law_line dc_law_line pm_law_line cd_law_line ct_law_line : Value} (a_law_line : PySem.W.nsIn K mainGlobals "_law_line" = some (some (.ref f_law_line_))) (l_law_line : K.lookup f_law_line_ = some ⟨oc_law_line, od_law_line, .func (PySem.W.fnOf "_law_line" "_law_line" (defArgs s_law_line) (defBody s_law_line) (defScope s_law_line) .none kV_law_line dc_law_line pm_law_line an_law_line cd_law_line ct_law_line), sl_law_line⟩) (c_law_line : PySem.W.codeIn K cd_law_line "_law_line" = true) (k_law_line : PySem.W.keepIn K (.ref f_law_line_) = true)
    {od_law_righted an_law_righted : Option Addr} {sl_law_righted : Array (Option Value)} {oc_law_righted kV_law_righted dc_law_righted pm_law_righted cd_law_righted ct_law_righted : Value} (a_law_righted : PySem.W.nsIn K mainGlobals "_law_righted" = some (some (.ref f_law_righted_))) (l_law_righted : K.lookup f_law_righted_ = some ⟨oc_law_righted, od_law_righted, .func (PySem.W.fnOf "_law_righted" "_law_righted" (defArgs s_law_righted) (defBody s_law_righted) (defScope s_law_righted) .none kV_law_righted dc_law_righted pm_law_righted an_law_righted cd_law_righted ct_law_righted), sl_law_righted⟩) (c_law_righted : PySem.W.codeIn K cd_law_righted "_law_righted" = true) (k_law_righted : PySem.W.keepIn K (.ref f_law_righted_) = true)
    {od_law_written an_law_written : Option Addr} {sl_law_written : Array (Option Value)} {oc_law_written kV_law_written dc_law_written pm_law_written cd_law_written ct_law_written : Value} (a_law_written : PySem.W.nsIn K mainGlobals "_law_written" = some (some (.ref f_law_written_))) (l_law_written : K.lookup f_law_written_ = some ⟨oc_law_written, od_law_written, .func (PySem.W.fnOf "_law_written" "_law_written" (defArgs s_law_written) (defBody s_law_written) (defScope s_law_written) .none kV_law_written dc_law_written pm_law_written an_law_written cd_law_written ct_law_written), sl_law_written⟩) (c_law_written : PySem.W.codeIn K cd_law_written "_law_written" = true) (k_law_written : PySem.W.keepIn K (.ref f_law_written_) = true)
    {od_law_text_lines an_law_text_lines : Option Addr} {sl_law_text_lines : Array (Option Value)} {oc_law_text_lines kV_law_text_lines dc_law_text_lines pm_law_text_lines cd_law_text_lines ct_law_text_lines : Value} (a_law_text_lines : PySem.W.nsIn K mainGlobals "_law_text_lines" = some (some (.ref f_law_text_lines_))) (l_law_text_lines : K.lookup f_law_text_lines_ = some ⟨oc_law_text_lines, od_law_text_lines, .func (PySem.W.fnOf "_law_text_lines" "_law_text_lines" (defArgs s_law_text_lines) (defBody s_law_text_lines) (defScope s_law_text_lines) .none kV_law_text_lines dc_law_text_lines pm_law_text_lines an_law_text_lines cd_law_text_lines ct_law_text_lines), sl_law_text_lines⟩) (c_law_text_lines : PySem.W.codeIn K cd_law_text_lines "_law_text_lines" = true) (k_law_text_lines : PySem.W.keepIn K (.ref f_law_text_lines_) = true)
    {od_law_numbers an_law_numbers : Option Addr} {sl_law_numbers : Array (Option Value)} {oc_law_numbers kV_law_numbers dc_law_numbers pm_law_numbers cd_law_numbers ct_law_numbers : Value} (a_law_numbers : PySem.W.nsIn K mainGlobals "_law_numbers" = some (some (.ref f_law_numbers_))) (l_law_numbers : K.lookup f_law_numbers_ = some ⟨oc_law_numbers, od_law_numbers, .func (PySem.W.fnOf "_law_numbers" "_law_numbers" (defArgs s_law_numbers) (defBody s_law_numbers) (defScope s_law_numbers) .none kV_law_numbers dc_law_numbers pm_law_numbers an_law_numbers cd_law_numbers ct_law_numbers), sl_law_numbers⟩) (c_law_numbers : PySem.W.codeIn K cd_law_numbers "_law_numbers" = true) (k_law_numbers : PySem.W.keepIn K (.ref f_law_numbers_) = true)
    {od_law_told an_law_told : Option Addr} {sl_law_told : Array (Option Value)} {oc_law_told kV_law_told dc_law_told pm_law_told cd_law_told ct_law_told : Value} (a_law_told : PySem.W.nsIn K mainGlobals "_law_told" = some (some (.ref f_law_told_))) (l_law_told : K.lookup f_law_told_ = some ⟨oc_law_told, od_law_told, .func (PySem.W.fnOf "_law_told" "_law_told" (defArgs s_law_told) (defBody s_law_told) (defScope s_law_told) .none kV_law_told dc_law_told pm_law_told an_law_told cd_law_told ct_law_told), sl_law_told⟩) (c_law_told : PySem.W.codeIn K cd_law_told "_law_told" = true) (k_law_told : PySem.W.keepIn K (.ref f_law_told_) = true)
    {od_law_changed an_law_changed : Option Addr} {sl_law_changed : Array (Option Value)} {oc_law_changed kV_law_changed dc_law_changed pm_law_changed cd_law_changed ct_law_changed : Value} (a_law_changed : PySem.W.nsIn K mainGlobals "_law_changed" = some (some (.ref f_law_changed_))) (l_law_changed : K.lookup f_law_changed_ = some ⟨oc_law_changed, od_law_changed, .func (PySem.W.fnOf "_law_changed" "_law_changed" (defArgs s_law_changed) (defBody s_law_changed) (defScope s_law_changed) .none kV_law_changed dc_law_changed pm_law_changed an_law_changed cd_law_changed ct_law_changed), sl_law_changed⟩) (c_law_changed : PySem.W.codeIn K cd_law_changed "_law_changed" = true) (k_law_changed : PySem.W.keepIn K (.ref f_law_changed_) = true)
    {od_law_odd_line an_law_odd_line : Option Addr} {sl_law_odd_line : Array (Option Value)} {oc_law_odd_line kV_law_odd_line dc_law_odd_line pm_law_odd_line cd_law_odd_line ct_law_odd_line : Value} (a_law_odd_line : PySem.W.nsIn K mainGlobals "_law_odd_line" = some (some (.ref f_law_odd_line_))) (l_law_odd_line : K.lookup f_law_odd_line_ = some ⟨oc_law_odd_line, od_law_odd_line, .func (PySem.W.fnOf "_law_odd_line" "_law_odd_line" (defArgs s_law_odd_line) (defBody s_law_odd_line) (defScope s_law_odd_line) .none kV_law_odd_line dc_law_odd_line pm_law_odd_line an_law_odd_line cd_law_odd_line ct_law_odd_line), sl_law_odd_line⟩) (c_law_odd_line : PySem.W.codeIn K cd_law_odd_line "_law_odd_line" = true) (k_law_odd_line : PySem.W.keepIn K (.ref f_law_odd_line_) = true)
    {od_law an_law : Option Addr} {sl_law : Array (Option Value)} {oc_law kV_law dc_law pm_law cd_law ct_law : Value} (a_law : PySem.W.nsIn K mainGlobals "law" = some (some (.ref f_law_))) (l_law : K.lookup f_law_ = some ⟨oc_law, od_law, .func (PySem.W.fnOf "law" "law" (defArgs s_law) (defBody s_law) (defScope s_law) .none kV_law dc_law pm_law an_law cd_law ct_law), sl_law⟩) (c_law : PySem.W.codeIn K cd_law "law" = true) (k_law : PySem.W.keepIn K (.ref f_law_) = true)
    {tk_SIGNS : Tok} (cc_SIGNS : PySem.W.nsIn K mainGlobals "SIGNS" = some (some (.str k_SIGNS tk_SIGNS)))
    {tk_PRIME : Tok} (cc_PRIME : PySem.W.nsIn K mainGlobals "PRIME" = some (some (.int (97) tk_PRIME)))
    {tk_WIDE : Tok} (cc_WIDE : PySem.W.nsIn K mainGlobals "WIDE" = some (some (.int (60) tk_WIDE)))
    {tk_DATA : Tok} (cc_DATA : PySem.W.nsIn K mainGlobals "DATA" = some (some (.int (55) tk_DATA)))
    {tk_END : Tok} (cc_END : PySem.W.nsIn K mainGlobals "END" = some (some (.int (74) tk_END)))
    (z_all : PySem.W.nsIn K mainGlobals "all" = some none)
    (z_any : PySem.W.nsIn K mainGlobals "any" = some none)
    (z_enumerate : PySem.W.nsIn K mainGlobals "enumerate" = some none)
    (z_int : PySem.W.nsIn K mainGlobals "int" = some none)
    (z_isinstance : PySem.W.nsIn K mainGlobals "isinstance" = some none)
    (z_len : PySem.W.nsIn K mainGlobals "len" = some none)
    (z_list : PySem.W.nsIn K mainGlobals "list" = some none)
    (z_max : PySem.W.nsIn K mainGlobals "max" = some none)
    (z_min : PySem.W.nsIn K mainGlobals "min" = some none)
    (z_range : PySem.W.nsIn K mainGlobals "range" = some none)
    (z_str : PySem.W.nsIn K mainGlobals "str" = some none) :
    ∃ fd : FuncData, (∀ (s : Shared) (v : Value), BindsTo s fd ⟨[v], []⟩ [("script", v)]) ∧ ∀ base : Heap, K.In base → base.Ns mainGlobals mg → FnOk l.prog w K mg base CX0 5 fa fd ["script"] (sp K) := by
  have e := (PySem.W.mg_of X G a_law).symm.trans hfa
  injection e with e
  injection e with e
  subst e
  let T : Txt K mg := {
    a_sums := f_sums_, d_sums := _, F_sums := fun_mk (st := s_sums) l_sums c_sums k_sums, g_sums := PySem.W.mg_of X G a_sums, b_sums := (fun_mk (st := s_sums) l_sums c_sums k_sums).binds (ps := ["numbers"]) fun _ _ _ _ _ _ us hl => match us, hl with | [_], _ => rfl,
    a_inverse := f_inverse_, d_inverse := _, F_inverse := fun_mk (st := s_inverse) l_inverse c_inverse k_inverse, g_inverse := PySem.W.mg_of X G a_inverse, b_inverse := (fun_mk (st := s_inverse) l_inverse c_inverse k_inverse).binds (ps := ["number"]) fun _ _ _ _ _ _ us hl => match us, hl with | [_], _ => rfl,
    a_line_of := f_line_of_, d_line_of := _, F_line_of := fun_mk (st := s_line_of) l_line_of c_line_of k_line_of, g_line_of := PySem.W.mg_of X G a_line_of, b_line_of := (fun_mk (st := s_line_of) l_line_of c_line_of k_line_of).binds (ps := ["number", "signs"]) fun _ _ _ _ _ _ us hl => match us, hl with | [_, _], _ => rfl,
    a_righted := f_righted_, d_righted := _, F_righted := fun_mk (st := s_righted) l_righted c_righted k_righted, g_righted := PySem.W.mg_of X G a_righted, b_righted := (fun_mk (st := s_righted) l_righted c_righted k_righted).binds (ps := ["numbers"]) fun _ _ _ _ _ _ us hl => match us, hl with | [_], _ => rfl,
    a_written := f_written_, d_written := _, F_written := fun_mk (st := s_written) l_written c_written k_written, g_written := PySem.W.mg_of X G a_written, b_written := (fun_mk (st := s_written) l_written c_written k_written).binds (ps := ["numbers"]) fun _ _ _ _ _ _ us hl => match us, hl with | [_], _ => rfl,
    a_numbers_in := f_numbers_in_, d_numbers_in := _, F_numbers_in := fun_mk (st := s_numbers_in) l_numbers_in c_numbers_in k_numbers_in, g_numbers_in := PySem.W.mg_of X G a_numbers_in, b_numbers_in := (fun_mk (st := s_numbers_in) l_numbers_in c_numbers_in k_numbers_in).binds (ps := ["line"]) fun _ _ _ _ _ _ us hl => match us, hl with | [_], _ => rfl,
    a_lines_of := f_lines_of_, d_lines_of := _, F_lines_of := fun_mk (st := s_lines_of) l_lines_of c_lines_of k_lines_of, g_lines_of := PySem.W.mg_of X G a_lines_of, b_lines_of := (fun_mk (st := s_lines_of) l_lines_of c_lines_of k_lines_of).binds (ps := ["text"]) fun _ _ _ _ _ _ us hl => match us, hl with | [_], _ => rfl,
    a_signs_in := f_signs_in_, d_signs_in := _, F_signs_in := fun_mk (st := s_signs_in) l_signs_in c_signs_in k_signs_in, g_signs_in := PySem.W.mg_of X G a_signs_in, b_signs_in := (fun_mk (st := s_signs_in) l_signs_in c_signs_in k_signs_in).binds (ps := ["line", "number"]) fun _ _ _ _ _ _ us hl => match us, hl with | [_, _], _ => rfl,
    a_are_of_text := f_are_of_text_, d_are_of_text := _, F_are_of_text := fun_mk (st := s_are_of_text) l_are_of_text c_are_of_text k_are_of_text, g_are_of_text := PySem.W.mg_of X G a_are_of_text, b_are_of_text := (fun_mk (st := s_are_of_text) l_are_of_text c_are_of_text k_are_of_text).binds (ps := ["numbers"]) fun _ _ _ _ _ _ us hl => match us, hl with | [_], _ => rfl,
    a_text_of := f_text_of_, d_text_of := _, F_text_of := fun_mk (st := s_text_of) l_text_of c_text_of k_text_of, g_text_of := PySem.W.mg_of X G a_text_of, b_text_of := (fun_mk (st := s_text_of) l_text_of c_text_of k_text_of).binds (ps := ["lines"]) fun _ _ _ _ _ _ us hl => match us, hl with | [_], _ => rfl,
    a_law_mixed := f_law_mixed_, d_law_mixed := _, F_law_mixed := fun_mk (st := s_law_mixed) l_law_mixed c_law_mixed k_law_mixed, g_law_mixed := PySem.W.mg_of X G a_law_mixed, b_law_mixed := (fun_mk (st := s_law_mixed) l_law_mixed c_law_mixed k_law_mixed).binds (ps := ["number"]) fun _ _ _ _ _ _ us hl => match us, hl with | [_], _ => rfl,
    a_law_stream := f_law_stream_, d_law_stream := _, F_law_stream := fun_mk (st := s_law_stream) l_law_stream c_law_stream k_law_stream, g_law_stream := PySem.W.mg_of X G a_law_stream, b_law_stream := (fun_mk (st := s_law_stream) l_law_stream c_law_stream k_law_stream).binds (ps := ["script", "k"]) fun _ _ _ _ _ _ us hl => match us, hl with | [_, _], _ => rfl,
    a_law_digit := f_law_digit_, d_law_digit := _, F_law_digit := fun_mk (st := s_law_digit) l_law_digit c_law_digit k_law_digit, g_law_digit := PySem.W.mg_of X G a_law_digit, b_law_digit := (fun_mk (st := s_law_digit) l_law_digit c_law_digit k_law_digit).binds (ps := ["state", "many"]) fun _ _ _ _ _ _ us hl => match us, hl with | [_, _], _ => rfl,
    a_law_pick := f_law_pick_, d_law_pick := _, F_law_pick := fun_mk (st := s_law_pick) l_law_pick c_law_pick k_law_pick, g_law_pick := PySem.W.mg_of X G a_law_pick, b_law_pick := (fun_mk (st := s_law_pick) l_law_pick c_law_pick k_law_pick).binds (ps := ["state", "things"]) fun _ _ _ _ _ _ us hl => match us, hl with | [_, _], _ => rfl,
    a_law_signs := f_law_signs_, d_law_signs := _, F_law_signs := fun_mk (st := s_law_signs) l_law_signs c_law_signs k_law_signs, g_law_signs := PySem.W.mg_of X G a_law_signs, b_law_signs := (fun_mk (st := s_law_signs) l_law_signs c_law_signs k_law_signs).binds (ps := []) fun _ _ _ _ _ _ us hl => match us, hl with | [], _ => rfl,
    a_law_totals := f_law_totals_, d_law_totals := _, F_law_totals := fun_mk (st := s_law_totals) l_law_totals c_law_totals k_law_totals, g_law_totals := PySem.W.mg_of X G a_law_totals, b_law_totals := (fun_mk (st := s_law_totals) l_law_totals c_law_totals k_law_totals).binds (ps := ["numbers"]) fun _ _ _ _ _ _ us hl => match us, hl with | [_], _ => rfl,
    a_law_line := f_law_line_, d_law_line := _, F_law_line := fun_mk (st := s_law_line) l_law_line c_law_line k_law_line, g_law_line := PySem.W.mg_of X G a_law_line, b_law_line := (fun_mk (st := s_law_line) l_law_line c_law_line k_law_line).binds (ps := ["number", "signs"]) fun _ _ _ _ _ _ us hl => match us, hl with | [_, _], _ => rfl,
    a_law_righted := f_law_righted_, d_law_righted := _, F_law_righted := fun_mk (st := s_law_righted) l_law_righted c_law_righted k_law_righted, g_law_righted := PySem.W.mg_of X G a_law_righted, b_law_righted := (fun_mk (st := s_law_righted) l_law_righted c_law_righted k_law_righted).binds (ps := ["numbers"]) fun _ _ _ _ _ _ us hl => match us, hl with | [_], _ => rfl,
    a_law_written := f_law_written_, d_law_written := _, F_law_written := fun_mk (st := s_law_written) l_law_written c_law_written k_law_written, g_law_written := PySem.W.mg_of X G a_law_written, b_law_written := (fun_mk (st := s_law_written) l_law_written c_law_written k_law_written).binds (ps := ["numbers"]) fun _ _ _ _ _ _ us hl => match us, hl with | [_], _ => rfl,
    a_law_text_lines := f_law_text_lines_, d_law_text_lines := _, F_law_text_lines := fun_mk (st := s_law_text_lines) l_law_text_lines c_law_text_lines k_law_text_lines, g_law_text_lines := PySem.W.mg_of X G a_law_text_lines, b_law_text_lines := (fun_mk (st := s_law_text_lines) l_law_text_lines c_law_text_lines k_law_text_lines).binds (ps := ["text"]) fun _ _ _ _ _ _ us hl => match us, hl with | [_], _ => rfl,
    a_law_numbers := f_law_numbers_, d_law_numbers := _, F_law_numbers := fun_mk (st := s_law_numbers) l_law_numbers c_law_numbers k_law_numbers, g_law_numbers := PySem.W.mg_of X G a_law_numbers, b_law_numbers := (fun_mk (st := s_law_numbers) l_law_numbers c_law_numbers k_law_numbers).binds (ps := ["line"]) fun _ _ _ _ _ _ us hl => match us, hl with | [_], _ => rfl,
    a_law_told := f_law_told_, d_law_told := _, F_law_told := fun_mk (st := s_law_told) l_law_told c_law_told k_law_told, g_law_told := PySem.W.mg_of X G a_law_told, b_law_told := (fun_mk (st := s_law_told) l_law_told c_law_told k_law_told).binds (ps := ["lines"]) fun _ _ _ _ _ _ us hl => match us, hl with | [_], _ => rfl,
    a_law_changed := f_law_changed_, d_law_changed := _, F_law_changed := fun_mk (st := s_law_changed) l_law_changed c_law_changed k_law_changed, g_law_changed := PySem.W.mg_of X G a_law_changed, b_law_changed := (fun_mk (st := s_law_changed) l_law_changed c_law_changed k_law_changed).binds (ps := ["state", "lines"]) fun _ _ _ _ _ _ us hl => match us, hl with | [_, _], _ => rfl,
    a_law_odd_line := f_law_odd_line_, d_law_odd_line := _, F_law_odd_line := fun_mk (st := s_law_odd_line) l_law_odd_line c_law_odd_line k_law_odd_line, g_law_odd_line := PySem.W.mg_of X G a_law_odd_line, b_law_odd_line := (fun_mk (st := s_law_odd_line) l_law_odd_line c_law_odd_line k_law_odd_line).binds (ps := ["state", "number"]) fun _ _ _ _ _ _ us hl => match us, hl with | [_, _], _ => rfl,
    a_law := f_law_, d_law := _, F_law := fun_mk (st := s_law) l_law c_law k_law, g_law := PySem.W.mg_of X G a_law, b_law := (fun_mk (st := s_law) l_law c_law k_law).binds (ps := ["script"]) fun _ _ _ _ _ _ us hl => match us, hl with | [_], _ => rfl,
    t_SIGNS := tk_SIGNS, c_SIGNS := PySem.W.mg_of X G cc_SIGNS,
    t_PRIME := tk_PRIME, c_PRIME := PySem.W.mg_of X G cc_PRIME,
    t_WIDE := tk_WIDE, c_WIDE := PySem.W.mg_of X G cc_WIDE,
    t_DATA := tk_DATA, c_DATA := PySem.W.mg_of X G cc_DATA,
    t_END := tk_END, c_END := PySem.W.mg_of X G cc_END,
    z_all := PySem.W.mg_none_of X G z_all,
    z_any := PySem.W.mg_none_of X G z_any,
    z_enumerate := PySem.W.mg_none_of X G z_enumerate,
    z_int := PySem.W.mg_none_of X G z_int,
    z_isinstance := PySem.W.mg_none_of X G z_isinstance,
    z_len := PySem.W.mg_none_of X G z_len,
    z_list := PySem.W.mg_none_of X G z_list,
    z_max := PySem.W.mg_none_of X G z_max,
    z_min := PySem.W.mg_none_of X G z_min,
    z_range := PySem.W.mg_none_of X G z_range,
    z_str := PySem.W.mg_none_of X G z_str }
  exact ⟨_, fun s v => .of_eq rfl, fun base _ _ => (ok_law T).imp (hsp K)⟩
end KL

namespace KL
open PySem PySem.Spec PyProof.Rows L2 VC
def spLaw (K : PySem.W.Frag) : Sp := fun vs H Q _ => ∃ (a : Addr) (ns : List Int), vs = [.ref a] ∧ L2.Only H ∧ SqL K H a (ns.map V.int) ∧ ns.length ≤ 63 ∧ Q = fun v _ => v = .bl true
theorem reps_ints {K : PySem.W.Frag} {ω : Own} {H : Hp} : ∀ (ns : List Int) (l : VC.Loc) (k : Nat), Reps K ω H (ns.map D.int) (ns.map V.int) l k
  | [], _, _ => rfl
  | n :: ns, l, k => by
    simp only [List.map_cons, Reps]
    exact ⟨_, _, rfl, rfl, reps_ints ns l (k + 1)⟩
theorem spLaw_ok : ∀ K vs H Q E, spLaw K vs H Q E → spOf K [] f_law vs H Q E := by
  intro K vs H Q E h
  obtain ⟨a, ns, rfl, hO, hS, hl, rfl⟩ := h
  refine ⟨fun _ => none, [.lst .fix (ns.map D.int)], .bl true, [], rfl, law_true ns hl, fun k d v h1 h2 => ?_, fun v H' ω' r _ _ => r⟩
  cases k with
  | succ k => simp at h1
  | zero =>
    simp at h1 h2
    subst h1; subst h2
    simp only [Rep]
    refine ⟨a, ns.map V.int, rfl, ?_, reps_ints ns _ 0⟩
    rcases hS with (h | ⟨o, h⟩) | h
    · rcases hO a with h2 | ⟨o, xs, h2⟩
      · rw [h] at h2; cases h2
      · rw [h] at h2; cases h2
    · exact .inl ⟨o, h⟩
    · exact .inr h
end KL

/-! the end: see GUIDE; sp is the law's own promise -/
open PySem PySem.W PyProof.Rows in
set_option maxRecDepth 100000 in
set_option maxHeartbeats 0 in
theorem PySem.Challenge.cw_pleatproof_k01_lines_righted_by_trying_a_holds : PySem.Challenge.rw_pleatproof_k01_lines_righted_by_trying_a.Holds := by
  w_on; o_law; k_head; (case hw => w_witness2)
  k_fill
  refine L2.walk_of (l := PySem.Challenge.rw_pleatproof_k01_lines_righted_by_trying_a) (n := 63) (k := 5) (x := "script") (CX := fun _ => L2.CX0) (sp := fun w => KL.spLaw _) rfl (by decide) rfl ⟨rfl, by decide, by decide⟩ (fun w h Y => PySem.W.kIn_of Y) ?F (fun _ _ a ns hl hO hS => ⟨a, ns, rfl, hO, hS, hl, rfl⟩) (fun _ _ _ _ _ h => h)
  case F =>
    intro w mg fa h KX G hmg
    refine' KL.all_mk KL.spLaw_ok KX G hmg ?a_sums ?l_sums ?c_sums ?k_sums ?a_inverse ?l_inverse ?c_inverse ?k_inverse ?a_line_of ?l_line_of ?c_line_of ?k_line_of ?a_righted ?l_righted ?c_righted ?k_righted ?a_written ?l_written ?c_written ?k_written ?a_numbers_in ?l_numbers_in ?c_numbers_in ?k_numbers_in ?a_lines_of ?l_lines_of ?c_lines_of ?k_lines_of ?a_signs_in ?l_signs_in ?c_signs_in ?k_signs_in ?a_are_of_text ?l_are_of_text ?c_are_of_text ?k_are_of_text ?a_text_of ?l_text_of ?c_text_of ?k_text_of ?a_law_mixed ?l_law_mixed ?c_law_mixed ?k_law_mixed ?a_law_stream ?l_law_stream ?c_law_stream ?k_law_stream ?a_law_digit ?l_law_digit ?c_law_digit ?k_law_digit ?a_law_pick ?l_law_pick ?c_law_pick ?k_law_pick ?a_law_signs ?l_law_signs ?c_law_signs ?k_law_signs ?a_law_totals ?l_law_totals ?c_law_totals ?k_law_totals ?a_law_line ?l_law_line ?c_law_line ?k_law_line ?a_law_righted ?l_law_righted ?c_law_righted ?k_law_righted ?a_law_written ?l_law_written ?c_law_written ?k_law_written ?a_law_text_lines ?l_law_text_lines ?c_law_text_lines ?k_law_text_lines ?a_law_numbers ?l_law_numbers ?c_law_numbers ?k_law_numbers ?a_law_told ?l_law_told ?c_law_told ?k_law_told ?a_law_changed ?l_law_changed ?c_law_changed ?k_law_changed ?a_law_odd_line ?l_law_odd_line ?c_law_odd_line ?k_law_odd_line ?a_law ?l_law ?c_law ?k_law ?cc_SIGNS ?cc_PRIME ?cc_WIDE ?cc_DATA ?cc_END ?z_all ?z_any ?z_enumerate ?z_int ?z_isinstance ?z_len ?z_list ?z_max ?z_min ?z_range ?z_str
    (case a_sums => k_is)
    (case l_sums => k_is)
    (case c_sums => k_is)
    (case k_sums => k_is)
    (case a_inverse => k_is)
    (case l_inverse => k_is)
    (case c_inverse => k_is)
    (case k_inverse => k_is)
    (case a_line_of => k_is)
    (case l_line_of => k_is)
    (case c_line_of => k_is)
    (case k_line_of => k_is)
    (case a_righted => k_is)
    (case l_righted => k_is)
    (case c_righted => k_is)
    (case k_righted => k_is)
    (case a_written => k_is)
    (case l_written => k_is)
    (case c_written => k_is)
    (case k_written => k_is)
    (case a_numbers_in => k_is)
    (case l_numbers_in => k_is)
    (case c_numbers_in => k_is)
    (case k_numbers_in => k_is)
    (case a_lines_of => k_is)
    (case l_lines_of => k_is)
    (case c_lines_of => k_is)
    (case k_lines_of => k_is)
    (case a_signs_in => k_is)
    (case l_signs_in => k_is)
    (case c_signs_in => k_is)
    (case k_signs_in => k_is)
    (case a_are_of_text => k_is)
    (case l_are_of_text => k_is)
    (case c_are_of_text => k_is)
    (case k_are_of_text => k_is)
    (case a_text_of => k_is)
    (case l_text_of => k_is)
    (case c_text_of => k_is)
    (case k_text_of => k_is)
    (case a_law_mixed => k_is)
    (case l_law_mixed => k_is)
    (case c_law_mixed => k_is)
    (case k_law_mixed => k_is)
    (case a_law_stream => k_is)
    (case l_law_stream => k_is)
    (case c_law_stream => k_is)
    (case k_law_stream => k_is)
    (case a_law_digit => k_is)
    (case l_law_digit => k_is)
    (case c_law_digit => k_is)
    (case k_law_digit => k_is)
    (case a_law_pick => k_is)
    (case l_law_pick => k_is)
    (case c_law_pick => k_is)
    (case k_law_pick => k_is)
    (case a_law_signs => k_is)
    (case l_law_signs => k_is)
    (case c_law_signs => k_is)
    (case k_law_signs => k_is)
    (case a_law_totals => k_is)
    (case l_law_totals => k_is)
    (case c_law_totals => k_is)
    (case k_law_totals => k_is)
    (case a_law_line => k_is)
    (case l_law_line => k_is)
    (case c_law_line => k_is)
    (case k_law_line => k_is)
    (case a_law_righted => k_is)
    (case l_law_righted => k_is)
    (case c_law_righted => k_is)
    (case k_law_righted => k_is)
    (case a_law_written => k_is)
    (case l_law_written => k_is)
    (case c_law_written => k_is)
    (case k_law_written => k_is)
    (case a_law_text_lines => k_is)
    (case l_law_text_lines => k_is)
    (case c_law_text_lines => k_is)
    (case k_law_text_lines => k_is)
    (case a_law_numbers => k_is)
    (case l_law_numbers => k_is)
    (case c_law_numbers => k_is)
    (case k_law_numbers => k_is)
    (case a_law_told => k_is)
    (case l_law_told => k_is)
    (case c_law_told => k_is)
    (case k_law_told => k_is)
    (case a_law_changed => k_is)
    (case l_law_changed => k_is)
    (case c_law_changed => k_is)
    (case k_law_changed => k_is)
    (case a_law_odd_line => k_is)
    (case l_law_odd_line => k_is)
    (case c_law_odd_line => k_is)
    (case k_law_odd_line => k_is)
    (case a_law => k_is)
    (case l_law => k_is)
    (case c_law => k_is)
    (case k_law => k_is)
    (case cc_SIGNS => k_is)
    (case cc_PRIME => k_is)
    (case cc_WIDE => k_is)
    (case cc_DATA => k_is)
    (case cc_END => k_is)
    (case z_all => k_is)
    (case z_any => k_is)
    (case z_enumerate => k_is)
    (case z_int => k_is)
    (case z_isinstance => k_is)
    (case z_len => k_is)
    (case z_list => k_is)
    (case z_max => k_is)
    (case z_min => k_is)
    (case z_range => k_is)
    (case z_str => k_is)

