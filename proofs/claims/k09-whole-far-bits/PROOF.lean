import PyProof.Rows.All
import Wide.All
import OpenK.AllK
import Wide.FinOn
import HandS.ForMost
import HandS.Exc
import HandS.TryOnly
import HandS.ExcOwn
import HandS.WordsExc
import HandS.Walk
import HandS.Property
import HandS.WideBits
import HandS.Wide
import HandS.WideMore
import HandS.Conv
import HandS.TupAny
import HandS.TupMul
import HandS.TupLe
import HandS.Records
import HandS.Zip
import HandS.IsInst
import HandS.Flow
import HandS.ExcInit
import HandS.TryMany
import HandS.Text
import HandS.OwnEq
import OpenK.KMeth
import OpenK.KOps
import HandS.Style
import HandS.Deep
import HandS.ClsMeth
import HandS.Defaults
import HandS.EndBits
import PySem.Challenge.RW_bitsback_k09_whole_far_bits
set_option Elab.async false
set_option linter.all false
set_option maxRecDepth 100000
set_option maxHeartbeats 1000000
/-! DLCore: values without a heap over the hand layer: what stands for what, the frame's state, expressions and statements lifted -/
namespace DL
open PySem L2

/-- values as data -/
inductive PV where
  | non | bl (b : Bool) | int (i : Int) | str (s : Str)
  | tup (xs : List PV) | lst (xs : List PV) | scr (xs : List PV)
  | ins (c : Nat) (vs : List PV)
  | box (k : Nat)
  | raw (v : V)

/-- an own exception as data -/
structure PX where
  c : Nat
  vs : List PV

/-- what is kept for good, and what may change under a rule -/
structure Wd where
  F : Hp
  B : Addr → Option Nat
  c : Nat

/-- a wish that may hang on the count of draws -/
abbrev Pd := Nat → Prop

structure Par where
  cm : Nat → Addr
  fn : Nat → List Str
  BI : Nat → (Addr → Option Nat) → Nat → HO → Prop
  bmono : ∀ k B B' c c' o, (∀ a j, B a = some j → B' a = some j) → c ≤ c' → BI k B c o → BI k B' c' o

structure Wle (W W' : Wd) : Prop where
  f : Same W.F W'.F
  b : ∀ a k, W.B a = some k → W'.B a = some k
  c : W.c ≤ W'.c
theorem Wle.refl (W : Wd) : Wle W W := ⟨Same.refl _, fun _ _ h => h, Nat.le_refl _⟩
theorem Wle.trans {W W1 W2 : Wd} (a : Wle W W1) (b : Wle W1 W2) : Wle W W2 := ⟨a.f.trans b.f, fun x k h => b.b x k (a.b x k h), Nat.le_trans a.c b.c⟩

theorem sqL_same {K : PySem.W.Frag} {H H' : Hp} {a : Addr} {xs : List V} (e : Same H H') (h : SqL K H a xs) : SqL K H' a xs := e.seq h
theorem sqT_same {K : PySem.W.Frag} {H H' : Hp} {a : Addr} {xs : List V} (e : Same H H') (h : SqT K H a xs) : SqT K H' a xs := by
  rcases h with (h | ⟨o, h⟩) | h
  · exact .inl (.inl (e _ _ h))
  · exact .inl (.inr ⟨o, e _ _ h⟩)
  · exact .inr h

mutual
def Rep (P : Par) (K : PySem.W.Frag) (W : Wd) : PV → V → Prop
  | .non, v => v = .non
  | .bl b, v => v = .bl b
  | .int i, v => v = .int i
  | .str s, v => v = .str s
  | .tup xs, v => ∃ a ys, v = .ref a ∧ SqT K W.F a ys ∧ RepL P K W xs ys
  | .lst xs, v => ∃ a ys, v = .ref a ∧ W.F a = some (.lst ys) ∧ RepL P K W xs ys
  | .scr xs, v => ∃ a ys, v = .ref a ∧ SqL K W.F a ys ∧ RepL P K W xs ys
  | .ins c vs, v => ∃ a dx gs, v = .ref a ∧ W.F a = some (.ins (P.cm c) dx gs) ∧ gs.map (·.1) = P.fn c ∧ RepL P K W vs (gs.map (·.2))
  | .box k, v => ∃ a, v = .ref a ∧ W.B a = some k
  | .raw u, v => v = u
def RepL (P : Par) (K : PySem.W.Frag) (W : Wd) : List PV → List V → Prop
  | [], ys => ys = []
  | x :: xs, ys => ∃ y zs, ys = y :: zs ∧ Rep P K W x y ∧ RepL P K W xs zs
end

section
variable {P : Par} {K : PySem.W.Frag} {W W' : Wd}
mutual
theorem Rep.mono (h : Wle W W') : ∀ (p : PV) (v : V), Rep P K W p v → Rep P K W' p v
  | .non, _, r => by simpa only [Rep] using r
  | .bl _, _, r => by simpa only [Rep] using r
  | .int _, _, r => by simpa only [Rep] using r
  | .str _, _, r => by simpa only [Rep] using r
  | .raw _, _, r => by simpa only [Rep] using r
  | .box _, _, r => by
    simp only [Rep] at r ⊢
    obtain ⟨a, e, b⟩ := r
    exact ⟨a, e, h.b _ _ b⟩
  | .tup xs, _, r => by
    simp only [Rep] at r ⊢
    obtain ⟨a, ys, e, s, l⟩ := r
    exact ⟨a, ys, e, sqT_same h.f s, RepL.mono h xs ys l⟩
  | .lst xs, _, r => by
    simp only [Rep] at r ⊢
    obtain ⟨a, ys, e, s, l⟩ := r
    exact ⟨a, ys, e, h.f _ _ s, RepL.mono h xs ys l⟩
  | .scr xs, _, r => by
    simp only [Rep] at r ⊢
    obtain ⟨a, ys, e, s, l⟩ := r
    exact ⟨a, ys, e, sqL_same h.f s, RepL.mono h xs ys l⟩
  | .ins c vs, _, r => by
    simp only [Rep] at r ⊢
    obtain ⟨a, dx, gs, e, s, n, l⟩ := r
    exact ⟨a, dx, gs, e, h.f _ _ s, n, RepL.mono h vs _ l⟩
theorem RepL.mono (h : Wle W W') : ∀ (ps : List PV) (vs : List V), RepL P K W ps vs → RepL P K W' ps vs
  | [], _, r => by simpa only [RepL] using r
  | x :: xs, _, r => by
    simp only [RepL] at r ⊢
    obtain ⟨y, zs, e, a, b⟩ := r
    exact ⟨y, zs, e, Rep.mono h x y a, RepL.mono h xs zs b⟩
end
theorem RepL.length : ∀ {ps : List PV} {vs : List V}, RepL P K W ps vs → ps.length = vs.length
  | [], _, r => by simp only [RepL] at r; subst r; rfl
  | x :: xs, _, r => by
    simp only [RepL] at r
    obtain ⟨y, zs, e, a, b⟩ := r
    subst e
    simp only [List.length_cons, RepL.length b]
theorem RepL.get : ∀ {ps : List PV} {vs : List V} {i : Nat} {p : PV}, RepL P K W ps vs → ps[i]? = some p → ∃ v, vs[i]? = some v ∧ Rep P K W p v
  | [], _, _, _, _, e => by simp at e
  | x :: xs, _, i, p, r, e => by
    simp only [RepL] at r
    obtain ⟨y, zs, e1, a, b⟩ := r
    subst e1
    cases i with
    | zero => simp at e; subst e; exact ⟨y, rfl, a⟩
    | succ i => simpa using RepL.get b (by simpa using e)
theorem RepL.get' : ∀ {ps : List PV} {vs : List V} {i : Nat} {v : V}, RepL P K W ps vs → vs[i]? = some v → ∃ p, ps[i]? = some p ∧ Rep P K W p v
  | [], _, _, _, r, e => by simp only [RepL] at r; subst r; simp at e
  | x :: xs, _, i, v, r, e => by
    simp only [RepL] at r
    obtain ⟨y, zs, e1, a, b⟩ := r
    subst e1
    cases i with
    | zero => simp at e; subst e; exact ⟨x, rfl, a⟩
    | succ i => simpa using RepL.get' b (by simpa using e)
theorem RepL.nil : RepL P K W [] [] := by simp only [RepL]
theorem RepL.cons {p : PV} {ps : List PV} {v : V} {vs : List V} (a : Rep P K W p v) (b : RepL P K W ps vs) : RepL P K W (p :: ps) (v :: vs) := by
  simp only [RepL]
  exact ⟨v, vs, rfl, a, b⟩
theorem RepL.append : ∀ {ps qs : List PV} {vs us : List V}, RepL P K W ps vs → RepL P K W qs us → RepL P K W (ps ++ qs) (vs ++ us)
  | [], _, _, _, r, s => by simp only [RepL] at r; subst r; simpa using s
  | x :: xs, qs, _, us, r, s => by
    simp only [RepL] at r
    obtain ⟨y, zs, e1, a, b⟩ := r
    subst e1
    exact RepL.cons a (RepL.append b s)
theorem RepL.take : ∀ {ps : List PV} {vs : List V} (n : Nat), RepL P K W ps vs → RepL P K W (ps.take n) (vs.take n)
  | _, _, 0, _ => by simp only [List.take_zero]; exact RepL.nil
  | [], _, n + 1, r => by simp only [RepL] at r; subst r; exact RepL.nil
  | x :: xs, _, n + 1, r => by
    simp only [RepL] at r
    obtain ⟨y, zs, e1, a, b⟩ := r
    subst e1
    exact RepL.cons a (RepL.take n b)
theorem RepL.drop : ∀ {ps : List PV} {vs : List V} (n : Nat), RepL P K W ps vs → RepL P K W (ps.drop n) (vs.drop n)
  | _, _, 0, r => by simpa using r
  | [], _, n + 1, r => by simp only [RepL] at r; subst r; exact RepL.nil
  | x :: xs, _, n + 1, r => by
    simp only [RepL] at r
    obtain ⟨y, zs, e1, a, b⟩ := r
    subst e1
    exact RepL.drop n b
theorem RepL.set : ∀ {ps : List PV} {vs : List V} {p : PV} {v : V} (n : Nat), RepL P K W ps vs → Rep P K W p v → RepL P K W (ps.set n p) (vs.set n v)
  | [], _, _, _, _, r, _ => by simp only [RepL] at r; subst r; exact RepL.nil
  | x :: xs, _, p, v, n, r, q => by
    simp only [RepL] at r
    obtain ⟨y, zs, e1, a, b⟩ := r
    subst e1
    cases n with
    | zero => exact RepL.cons q b
    | succ n => exact RepL.cons a (RepL.set n b q)
end

/-! ### a step: from a heap, of which W is told, to a later one -/
def BoxOk (P : Par) (W : Wd) (H : Hp) : Prop := ∀ a k, W.B a = some k → W.F a = none ∧ ∃ o, H a = some o ∧ P.BI k W.B W.c o

structure Fr0 (P : Par) (H0 : Hp) (W0 : Wd) (W : Wd) (H : Hp) : Prop where
  le : Wle W0 W
  sub : Same W.F H
  keep : ∀ a o, H0 a = some o → W0.B a = none → H a = some o
  freshF : ∀ a o, W.F a = some o → W0.F a = some o ∨ H0 a = none
  freshB : ∀ a k, W.B a = some k → W0.B a = some k ∨ H0 a = none
  box : BoxOk P W H

section
variable {P : Par} {K : PySem.W.Frag} {H0 H1 H2 H : Hp} {W0 W1 W2 W : Wd}
theorem Fr0.refl (s : Same W.F H) (b : BoxOk P W H) : Fr0 P H W W H := ⟨Wle.refl _, s, fun _ _ h _ => h, fun _ _ h => .inl h, fun _ _ h => .inl h, b⟩
theorem Fr0.trans (a : Fr0 P H0 W0 W1 H1) (b : Fr0 P H1 W1 W2 H2) : Fr0 P H0 W0 W2 H2 := by
  have back : ∀ x, H1 x = none → H0 x = none := fun x h => by
    cases e : H0 x with
    | none => rfl
    | some o =>
      cases e2 : W0.B x with
      | none => rw [a.keep x o e e2] at h; cases h
      | some k =>
        obtain ⟨_, o', h', _⟩ := a.box x k (a.le.b x k e2)
        rw [h'] at h; cases h
  refine ⟨a.le.trans b.le, b.sub, fun x o h n => b.keep x o (a.keep x o h n) ?_, fun x o h => ?_, fun x k h => ?_, b.box⟩
  · cases e : W1.B x with
    | none => rfl
    | some k =>
      rcases a.freshB x k e with z | z
      · rw [n] at z; cases z
      · rw [h] at z; cases z
  · rcases b.freshF x o h with z | z
    · exact a.freshF x o z
    · exact .inr (back x z)
  · rcases b.freshB x k h with z | z
    · exact a.freshB x k z
    · exact .inr (back x z)
/-- a new object is laid and kept for good -/
def Wd.add (W : Wd) (a : Addr) (o : HO) : Wd := ⟨upd W.F a o, W.B, W.c⟩
theorem Fr0.new {a : Addr} {o : HO} (s : Same W.F H) (b : BoxOk P W H) (n : H a = none) : Fr0 P H W (W.add a o) (upd H a o) := by
  have nF : W.F a = none := by
    cases e : W.F a with
    | none => rfl
    | some u => rw [s a u e] at n; cases n
  refine ⟨⟨fun x u h => ?_, fun _ _ h => h, Nat.le_refl _⟩, fun x u h => ?_, fun x u h _ => ?_, fun x u h => ?_, fun _ _ h => .inl h, fun x k h => ?_⟩
  · show upd W.F a o x = some u
    rw [upd_ne (ne_of_none h nF)]; exact h
  · show upd H a o x = some u
    have h' : upd W.F a o x = some u := h
    by_cases e : x = a
    · subst e; rw [upd_same] at h' ⊢; exact h'
    · rw [upd_ne e] at h' ⊢; exact s x u h'
  · rw [upd_ne (ne_of_none h n)]; exact h
  · have h' : upd W.F a o x = some u := h
    by_cases e : x = a
    · subst e; exact .inr n
    · rw [upd_ne e] at h'; exact .inl h'
  · obtain ⟨h1, o', h2, h3⟩ := b x k h
    have ne : x ≠ a := ne_of_none h2 n
    exact ⟨by show upd W.F a o x = none; rw [upd_ne ne]; exact h1, o', by rw [upd_ne ne]; exact h2, h3⟩
theorem Wle.add {a : Addr} {o : HO} (nF : W.F a = none) : Wle W (W.add a o) := ⟨fun x u h => by
  show upd W.F a o x = some u
  rw [upd_ne (ne_of_none h nF)]; exact h, fun _ _ h => h, Nat.le_refl _⟩
theorem none_of_same {H H' : Hp} {a : Addr} (s : Same H H') (n : H' a = none) : H a = none := by
  cases e : H a with
  | none => rfl
  | some u => rw [s a u e] at n; cases n
end

/-! ### a frame's slots -/
inductive Slot where
  | no
  | fz (p : PV)
  | own (xs : List PV)
  | slf (a : Addr) (c : Nat) (vs : List PV)
def Slot.isOwn : Slot → Bool
  | .own _ => true
  | .slf _ _ _ => true
  | _ => false
abbrev Rho := List Slot

def OwnA (H0 : Hp) (W : Wd) (a : Addr) : Prop := H0 a = none ∧ W.F a = none ∧ W.B a = none

def RepS (P : Par) (K : PySem.W.Frag) (H0 : Hp) (W : Wd) (H : Hp) (s : Slot) (o : Option (Option V)) : Prop := match s with
  | .no => True
  | .fz p => ∃ v, o = some (some v) ∧ Rep P K W p v
  | .own xs => ∃ a ys, o = some (some (.ref a)) ∧ H a = some (.lst ys) ∧ RepL P K W xs ys ∧ OwnA H0 W a
  | .slf a c vs => ∃ dx gs, o = some (some (.ref a)) ∧ H a = some (.ins (P.cm c) dx gs) ∧ gs.map (·.1) = (P.fn c).take vs.length ∧ vs.length ≤ (P.fn c).length ∧ RepL P K W vs (gs.map (·.2)) ∧ OwnA H0 W a

structure SR (P : Par) (K : PySem.W.Frag) (H0 : Hp) (W0 : Wd) (W : Wd) (σ : L2.St) (H : Hp) (ρ : Rho) : Prop where
  fr : Fr0 P H0 W0 W H
  len : σ.length = ρ.length
  slots : ∀ (i : Nat) (s : Slot), ρ[i]? = some s → RepS P K H0 W H s σ[i]?
  dist : ∀ (i j : Nat) (s t : Slot) (a : Addr), ρ[i]? = some s → ρ[j]? = some t → s.isOwn = true → t.isOwn = true → σ[i]? = some (some (.ref a)) → σ[j]? = some (some (.ref a)) → i = j

section
variable {P : Par} {K : PySem.W.Frag} {H0 H H' : Hp} {W0 W W' : Wd} {σ : L2.St} {ρ : Rho}
theorem OwnA.step {a : Addr} {o : HO} (x : OwnA H0 W a) (h : H a = some o) (f : Fr0 P H W W' H') : OwnA H0 W' a ∧ H' a = some o := by
  obtain ⟨x1, x2, x3⟩ := x
  refine ⟨⟨x1, ?_, ?_⟩, f.keep a o h x3⟩
  · cases e : W'.F a with
    | none => rfl
    | some u =>
      rcases f.freshF a u e with z | z
      · rw [x2] at z; cases z
      · rw [h] at z; cases z
  · cases e : W'.B a with
    | none => rfl
    | some u =>
      rcases f.freshB a u e with z | z
      · rw [x3] at z; cases z
      · rw [h] at z; cases z
theorem RepS.step {s : Slot} {o : Option (Option V)} (r : RepS P K H0 W H s o) (f : Fr0 P H W W' H') : RepS P K H0 W' H' s o := by
  cases s with
  | no => trivial
  | fz p =>
    obtain ⟨v, e, r⟩ := r
    exact ⟨v, e, Rep.mono f.le p v r⟩
  | own xs =>
    obtain ⟨a, ys, e, h, r, x⟩ := r
    obtain ⟨x', h'⟩ := x.step h f
    exact ⟨a, ys, e, h', RepL.mono f.le _ _ r, x'⟩
  | slf a c vs =>
    obtain ⟨dx, gs, e, h, n, l, r, x⟩ := r
    obtain ⟨x', h'⟩ := x.step h f
    exact ⟨dx, gs, e, h', n, l, RepL.mono f.le _ _ r, x'⟩
theorem SR.step (s : SR P K H0 W0 W σ H ρ) (f : Fr0 P H W W' H') : SR P K H0 W0 W' σ H' ρ :=
  ⟨s.fr.trans f, s.len, fun i t h => (s.slots i t h).step f, s.dist⟩
theorem SR.same (s : SR P K H0 W0 W σ H ρ) : Same W.F H := s.fr.sub
theorem SR.box (s : SR P K H0 W0 W σ H ρ) : BoxOk P W H := s.fr.box
end

/-! ### expressions -/
abbrev DT := Rho → (PV → Pd) → Pd
abbrev DB := Rho → (Bool → Pd) → Pd
abbrev DA := Rho → (List PV → Pd) → Pd
def MonoT {α : Type} (t : Rho → (α → Pd) → Pd) : Prop := ∀ ρ (Q Q' : α → Pd) n, (∀ p n, Q p n → Q' p n) → t ρ Q n → t ρ Q' n

section
variable (P : Par) (K : PySem.W.Frag) (H0 : Hp) (W0 : Wd)
def liftE (t : DT) : TE := fun σ H Q => ∃ W ρ, SR P K H0 W0 W σ H ρ ∧ t ρ (fun p n => ∀ v W' H', Fr0 P H W W' H' → W'.c = n → Rep P K W' p v → Q v H') W.c
def liftB (t : DB) : TT := fun σ H Q => ∃ W ρ, SR P K H0 W0 W σ H ρ ∧ t ρ (fun b n => ∀ W' H', Fr0 P H W W' H' → W'.c = n → Q b H') W.c
def liftA (t : DA) : TA := fun σ H Q => ∃ W ρ, SR P K H0 W0 W σ H ρ ∧ t ρ (fun ps n => ∀ vs W' H', Fr0 P H W W' H' → W'.c = n → RepL P K W' ps vs → Q vs H') W.c
end

structure Cz where
  P : Par
  H0 : Hp
  W0 : Wd

structure DE (Z : Cz) (X : Cx) (e : Expr) (t : DT) : Prop where
  mono : MonoT t
  run : PE X e (liftE Z.P X.K Z.H0 Z.W0 t)
structure DTs (Z : Cz) (X : Cx) (e : Expr) (t : DB) : Prop where
  mono : MonoT t
  run : PT X e (liftB Z.P X.K Z.H0 Z.W0 t)
structure DW (Z : Cz) (X : Cx) (e : Expr) (t : DB) : Prop where
  mono : MonoT t
  run : PW X e (liftB Z.P X.K Z.H0 Z.W0 t)
structure DAs (Z : Cz) (X : Cx) (es : List Expr) (t : DA) : Prop where
  mono : MonoT t
  run : PA X es (liftA Z.P X.K Z.H0 Z.W0 t)

theorem PE.weak {X : Cx} {e : Expr} {t t' : TE} (h : PE X e t) (w : ∀ σ H Q, t' σ H Q → t σ H Q) : PE X e t' := ⟨fun pins s σ H Q I q => h.run pins s σ H Q I (w σ H Q q)⟩
theorem PT.weak {X : Cx} {e : Expr} {t t' : TT} (h : PT X e t) (w : ∀ σ H Q, t' σ H Q → t σ H Q) : PT X e t' := ⟨fun pins s σ H Q I q => h.run pins s σ H Q I (w σ H Q q)⟩
theorem PW.weak {X : Cx} {e : Expr} {t t' : TT} (h : PW X e t) (w : ∀ σ H Q, t' σ H Q → t σ H Q) : PW X e t' := ⟨fun wh pins s σ H Q I q => h.run wh pins s σ H Q I (w σ H Q q)⟩
theorem PA.weak {X : Cx} {es : List Expr} {t t' : TA} (h : PA X es t) (w : ∀ σ H Q, t' σ H Q → t σ H Q) : PA X es t' := ⟨fun pos pins s σ H Q I q => h.run pos pins s σ H Q I (w σ H Q q)⟩
theorem PS.weak {X : Cx} {st : Stmt} {t t' : TS} (h : PS X st t) (w : ∀ D σ H, t' D σ H → t D σ H) : PS X st t' := ⟨fun pins s σ H D I q => h.run pins s σ H D I (w D σ H q)⟩
theorem PSs.weak {X : Cx} {st : List Stmt} {t t' : TS} (h : PSs X st t) (w : ∀ D σ H, t' D σ H → t D σ H) : PSs X st t' := ⟨fun pins s σ H D I q => h.run pins s σ H D I (w D σ H q)⟩

/-! ### values: constants, slots -/
section
variable {Z : Cz} {X : Cx} {e a b : Expr} {pos : Pos} {ta tb te : DT}
def dVar (i : Nat) : DT := fun ρ Q n => match ρ[i]? with
  | some (.fz p) => Q p n
  | _ => False
def dC (p : PV) : DT := fun _ Q => Q p
theorem liftE_var {i : Nat} {σ : L2.St} {H : Hp} {Q : VK} (h : liftE Z.P X.K Z.H0 Z.W0 (dVar i) σ H Q) : tVar i σ H Q := by
  obtain ⟨W, ρ, S, q⟩ := h
  unfold dVar at q
  split at q
  · rename_i p e
    obtain ⟨v, e2, r⟩ := S.slots i _ e
    exact ⟨v, e2, q v W H (Fr0.refl S.same S.box) rfl r⟩
  · exact q.elim
theorem dv (i : Nat) {x : Str} {pos : Pos} (hN : X.N[i]? = some x := by rfl) (hv : Vis X.env.scope x := by first | exact Or.inl rfl | exact Or.inr (Or.inl rfl) | exact Or.inr (Or.inr rfl)) (hd : (x == ("__debug__" : Str)) = false := by decide)
    (hcd : (x == ("__classdict__" : Str)) = false := by decide) : DE Z X (.Name x pos) (dVar i) := by
  refine ⟨fun ρ Q Q' n hq h => ?_, PE.weak (pe_var hN hv hd hcd) fun σ H Q h => liftE_var h⟩
  unfold dVar at h ⊢
  split at h
  · rename_i p e
    exact hq _ _ h
  · exact h.elim
theorem liftE_c {p : PV} {v : V} (hr : ∀ W, Rep Z.P X.K W p v) {σ : L2.St} {H : Hp} {Q : VK} (h : liftE Z.P X.K Z.H0 Z.W0 (dC p) σ H Q) : tC v σ H Q := by
  obtain ⟨W, ρ, S, q⟩ := h
  exact q v W H (Fr0.refl S.same S.box) rfl (hr W)
theorem de_int {i : Int} {j} : DE Z X (.Constant (.int i) j pos) (dC (.int i)) := ⟨fun _ _ _ _ hq h => hq _ _ h, PE.weak pe_int fun _ _ _ h => liftE_c (fun W => by simp only [Rep]) h⟩
theorem de_bl {i : Bool} {j} : DE Z X (.Constant (.bool i) j pos) (dC (.bl i)) := ⟨fun _ _ _ _ hq h => hq _ _ h, PE.weak pe_bl fun _ _ _ h => liftE_c (fun W => by simp only [Rep]) h⟩
theorem de_non {j} : DE Z X (.Constant .none j pos) (dC .non) := ⟨fun _ _ _ _ hq h => hq _ _ h, PE.weak pe_non fun _ _ _ h => liftE_c (fun W => by simp only [Rep]) h⟩
theorem de_str {x : Str} {j} : DE Z X (.Constant (.str x) j pos) (dC (.str x)) := ⟨fun _ _ _ _ hq h => hq _ _ h, PE.weak pe_str fun _ _ _ h => liftE_c (fun W => by simp only [Rep]) h⟩

/-! ### operators on values -/
abbrev G1 := PV → (PV → Pd) → Pd
abbrev G2 := PV → PV → (PV → Pd) → Pd
abbrev GN := List PV → (PV → Pd) → Pd
def MonoG1 (g : G1) : Prop := ∀ x (Q Q' : PV → Pd) n, (∀ p n, Q p n → Q' p n) → g x Q n → g x Q' n
def MonoG2 (g : G2) : Prop := ∀ x y (Q Q' : PV → Pd) n, (∀ p n, Q p n → Q' p n) → g x y Q n → g x y Q' n
def MonoGN (g : GN) : Prop := ∀ xs (Q Q' : PV → Pd) n, (∀ p n, Q p n → Q' p n) → g xs Q n → g xs Q' n
/-- what is told of values at a heap -/
def Tell (P : Par) (K : PySem.W.Frag) (W : Wd) (H : Hp) (Q : VK) (p : PV) : Pd := fun n => ∀ v W' H', Fr0 P H W W' H' → W'.c = n → Rep P K W' p v → Q v H'
theorem Tell.now {P : Par} {K : PySem.W.Frag} {W : Wd} {H : Hp} {Q : VK} {p : PV} {v : V} (t : Tell P K W H Q p W.c) (s : Same W.F H) (b : BoxOk P W H) (r : Rep P K W p v) : Q v H := t v W H (Fr0.refl s b) rfl r
def r1Of (P : Par) (K : PySem.W.Frag) (g : G1) : V → Hp → VK → Prop := fun v H Q => ∃ W x, Same W.F H ∧ BoxOk P W H ∧ Rep P K W x v ∧ g x (Tell P K W H Q) W.c
def r2Of (P : Par) (K : PySem.W.Frag) (g : G2) : R2 := fun v w H Q => ∃ W x y, Same W.F H ∧ BoxOk P W H ∧ Rep P K W x v ∧ Rep P K W y w ∧ g x y (Tell P K W H Q) W.c
def rNOf (P : Par) (K : PySem.W.Frag) (g : GN) : List V → Hp → VK → Prop := fun vs H Q => ∃ W xs, Same W.F H ∧ BoxOk P W H ∧ RepL P K W xs vs ∧ g xs (Tell P K W H Q) W.c
structure DOp (Z : Cz) (X : Cx) (f : Value → Value → Sem Value) (g : G2) : Prop where
  mono : MonoG2 g
  run : OpR X f (r2Of Z.P X.K g)
structure DUn (Z : Cz) (X : Cx) (f : Value → Sem Value) (g : G1) : Prop where
  mono : MonoG1 g
  run : UnR X f (r1Of Z.P X.K g)
structure DCall (Z : Cz) (X : Cx) (f : Value) (g : GN) : Prop where
  mono : MonoGN g
  run : CallR X f (rNOf Z.P X.K g)
def dBin (g : G2) (ta tb : DT) : DT := fun ρ Q => ta ρ fun x => tb ρ fun y => g x y Q
def dUn (g : G1) (ta : DT) : DT := fun ρ Q => ta ρ fun x => g x Q
def dApp (g : GN) (ta : DA) : DT := fun ρ Q => ta ρ fun xs => g xs Q
theorem dBin_mono {g : G2} (hg : MonoG2 g) (ha : MonoT ta) (hb : MonoT tb) : MonoT (dBin g ta tb) := fun ρ Q Q' n hq h => ha ρ _ _ n (fun x n h => hb ρ _ _ n (fun y n h => hg x y _ _ n hq h) h) h
theorem dUn_mono {g : G1} (hg : MonoG1 g) (ha : MonoT ta) : MonoT (dUn g ta) := fun ρ Q Q' n hq h => ha ρ _ _ n (fun x n h => hg x _ _ n hq h) h
theorem dApp_mono {g : GN} {ta : DA} (hg : MonoGN g) (ha : MonoT ta) : MonoT (dApp g ta) := fun ρ Q Q' n hq h => ha ρ _ _ n (fun x n h => hg x _ _ n hq h) h
theorem lift_bin {g : G2} (hg : MonoG2 g) (ha : MonoT ta) (hb : MonoT tb) {σ : L2.St} {H : Hp} {Q : VK} (h : liftE Z.P X.K Z.H0 Z.W0 (dBin g ta tb) σ H Q) :
    tOp (r2Of Z.P X.K g) (liftE Z.P X.K Z.H0 Z.W0 ta) (liftE Z.P X.K Z.H0 Z.W0 tb) σ H Q := by
  obtain ⟨W, ρ, S, q⟩ := h
  refine ⟨W, ρ, S, ha ρ _ _ _ (fun x n q v W1 H1 f1 c1 r1 => ?_) q⟩
  refine ⟨W1, ρ, S.step f1, hb ρ _ _ _ (fun y n q w W2 H2 f2 c2 r2 => ?_) (c1 ▸ q)⟩
  exact ⟨W2, x, y, f2.sub, f2.box, Rep.mono f2.le _ _ r1, r2, hg x y _ _ _ (fun p n t v W3 H3 f3 c3 r3 => t v W3 H3 ((f1.trans f2).trans f3) c3 r3) (c2 ▸ q)⟩
theorem lift_un {g : G1} (hg : MonoG1 g) (ha : MonoT ta) {σ : L2.St} {H : Hp} {Q : VK} (h : liftE Z.P X.K Z.H0 Z.W0 (dUn g ta) σ H Q) :
    tUn (r1Of Z.P X.K g) (liftE Z.P X.K Z.H0 Z.W0 ta) σ H Q := by
  obtain ⟨W, ρ, S, q⟩ := h
  refine ⟨W, ρ, S, ha ρ _ _ _ (fun x n q v W1 H1 f1 c1 r1 => ?_) q⟩
  exact ⟨W1, x, f1.sub, f1.box, r1, hg x _ _ _ (fun p n t v W3 H3 f3 c3 r3 => t v W3 H3 (f1.trans f3) c3 r3) (c1 ▸ q)⟩
theorem lift_app {g : GN} {ta : DA} (hg : MonoGN g) (ha : MonoT ta) {σ : L2.St} {H : Hp} {Q : VK} (h : liftE Z.P X.K Z.H0 Z.W0 (dApp g ta) σ H Q) :
    tCB (rNOf Z.P X.K g) (liftA Z.P X.K Z.H0 Z.W0 ta) σ H Q := by
  obtain ⟨W, ρ, S, q⟩ := h
  refine ⟨W, ρ, S, ha ρ _ _ _ (fun xs n q vs W1 H1 f1 c1 r1 => ?_) q⟩
  exact ⟨W1, xs, f1.sub, f1.box, r1, hg xs _ _ _ (fun p n t v W3 H3 f3 c3 r3 => t v W3 H3 (f1.trans f3) c3 r3) (c1 ▸ q)⟩
theorem de_bin {op : Operator} {g : G2} (o : DOp Z X (binaryOp op) g) (ha : DE Z X a ta) (hb : DE Z X b tb) : DE Z X (.BinOp a op b pos) (dBin g ta tb) :=
  ⟨dBin_mono o.mono ha.mono hb.mono, PE.weak (pe_op o.run ha.run hb.run) fun _ _ _ h => lift_bin o.mono ha.mono hb.mono h⟩
theorem de_cmp {op : CmpOp} {g : G2} (o : DOp Z X (compareOp op) g) (ha : DE Z X a ta) (hb : DE Z X b tb) (hm : behindInMarks op b = false := by rfl) : DE Z X (.Compare a [op] [b] pos) (dBin g ta tb) :=
  ⟨dBin_mono o.mono ha.mono hb.mono, PE.weak (pe_cmpR o.run ha.run hb.run hm) fun _ _ _ h => lift_bin o.mono ha.mono hb.mono h⟩
theorem de_un {op : UnaryOp} {g : G1} (o : DUn Z X (unaryOp op) g) (ha : DE Z X a ta) : DE Z X (.UnaryOp op a pos) (dUn g ta) :=
  ⟨dUn_mono o.mono ha.mono, PE.weak (pe_un o.run ha.run) fun _ _ _ h => lift_un o.mono ha.mono h⟩
/-- alternatives -/
def gOr (g h : G2) : G2 := fun x y Q n => g x y Q n ∨ h x y Q n
def gOr1 (g h : G1) : G1 := fun x Q n => g x Q n ∨ h x Q n
def gOrN (g h : GN) : GN := fun x Q n => g x Q n ∨ h x Q n
theorem DOp.or {f : Value → Value → Sem Value} {g g' : G2} (o : DOp Z X f g) (o' : DOp Z X f g') : DOp Z X f (gOr g g') := by
  refine ⟨fun x y Q Q' n hq h => h.imp (o.mono x y Q Q' n hq) (o'.mono x y Q Q' n hq), fun pins s σ H x y u v Q I rx ry h => ?_⟩
  obtain ⟨W, p, q, s1, b1, r1, r2, h⟩ := h
  rcases h with h | h
  · exact o.run pins s σ H x y u v Q I rx ry ⟨W, p, q, s1, b1, r1, r2, h⟩
  · exact o'.run pins s σ H x y u v Q I rx ry ⟨W, p, q, s1, b1, r1, r2, h⟩
end
end DL

set_option maxRecDepth 100000
set_option maxHeartbeats 1000000
/-! DLOps: operators, comparisons, truth, subscripts and built-ins on values -/
namespace DL
open PySem L2
section
variable {Z : Cz} {X : Cx} {P : Par} {K : PySem.W.Frag} {W : Wd} {H : Hp}
theorem rep_int {i : Int} {v : V} : Rep P K W (.int i) v ↔ v = .int i := by simp only [Rep]
theorem rep_bl {i : Bool} {v : V} : Rep P K W (.bl i) v ↔ v = .bl i := by simp only [Rep]
theorem rep_str {i : Str} {v : V} : Rep P K W (.str i) v ↔ v = .str i := by simp only [Rep]
theorem rep_non {v : V} : Rep P K W .non v ↔ v = .non := by simp only [Rep]
theorem rep_raw {u v : V} : Rep P K W (.raw u) v ↔ v = u := by simp only [Rep]
theorem rep_lst {xs : List PV} {v : V} : Rep P K W (.lst xs) v ↔ ∃ a ys, v = .ref a ∧ W.F a = some (.lst ys) ∧ RepL P K W xs ys := by simp only [Rep]
theorem rep_scr {xs : List PV} {v : V} : Rep P K W (.scr xs) v ↔ ∃ a ys, v = .ref a ∧ SqL K W.F a ys ∧ RepL P K W xs ys := by simp only [Rep]
theorem rep_tup {xs : List PV} {v : V} : Rep P K W (.tup xs) v ↔ ∃ a ys, v = .ref a ∧ SqT K W.F a ys ∧ RepL P K W xs ys := by simp only [Rep]
theorem rep_ins {c : Nat} {vs : List PV} {v : V} : Rep P K W (.ins c vs) v ↔ ∃ a dx gs, v = .ref a ∧ W.F a = some (.ins (P.cm c) dx gs) ∧ gs.map (·.1) = P.fn c ∧ RepL P K W vs (gs.map (·.2)) := by simp only [Rep]
theorem rep_box {k : Nat} {v : V} : Rep P K W (.box k) v ↔ ∃ a, v = .ref a ∧ W.B a = some k := by simp only [Rep]

/-- a new object at p -/
theorem Tell.fresh {Q : VK} {pv : PV} {o : HO} (t : Tell P K W H Q pv W.c) (s : Same W.F H) (b : BoxOk P W H) (r : ∀ p, H p = none → Rep P K (W.add p o) pv (.ref p)) : ∀ p, H p = none → Q (.ref p) (upd H p o) :=
  fun p n => t _ _ _ (Fr0.new s b n) rfl (r p n)
theorem add_same {p : Addr} {o : HO} : (W.add p o).F p = some o := upd_same
theorem rep_newL {p : Addr} {xs : List PV} {ys : List V} (n : H p = none) (s : Same W.F H) (r : RepL P K W xs ys) : Rep P K (W.add p (.lst ys)) (.lst xs) (.ref p) := by
  rw [rep_lst]
  exact ⟨p, ys, rfl, add_same, RepL.mono (Wle.add (none_of_same s n)) _ _ r⟩
theorem rep_newT {p : Addr} {xs : List PV} {ys : List V} (n : H p = none) (s : Same W.F H) (r : RepL P K W xs ys) : Rep P K (W.add p (.tup ys)) (.tup xs) (.ref p) := by
  rw [rep_tup]
  exact ⟨p, ys, rfl, SqT.of add_same, RepL.mono (Wle.add (none_of_same s n)) _ _ r⟩

/-! ### two ints -/
def gII (C : Int → Int → Prop) (f : Int → Int → PV) : G2 := fun x y Q n => match x, y with
  | .int i, .int j => C i j ∧ Q (f i j) n
  | _, _ => False
theorem gII_mono {C : Int → Int → Prop} {f : Int → Int → PV} : MonoG2 (gII C f) := fun x y Q Q' n hq h => by
  cases x <;> cases y <;> first | exact h.elim | exact ⟨h.1, hq _ _ h.2⟩
def pvOf : PV → V
  | .int i => .int i
  | .bl b => .bl b
  | _ => .non
theorem dop_ii {f : Value → Value → Sem Value} {C : Int → Int → Prop} {g : Int → Int → PV} {g' : Int → Int → V} (h : OpR X f (rI C g')) (hr : ∀ i j W, Rep Z.P X.K W (g i j) (g' i j)) : DOp Z X f (gII C g) := by
  refine ⟨gII_mono, fun pins s σ H x y u v Q I rx ry q => ?_⟩
  obtain ⟨W, p, r, s1, b1, r1, r2, q⟩ := q
  cases p <;> cases r <;> first | exact q.elim | skip
  rename_i i j
  rw [rep_int] at r1 r2
  subst r1; subst r2
  exact h pins s σ H _ _ u v Q I rx ry ⟨i, j, rfl, rfl, q.1, Tell.now q.2 s1 b1 (hr i j W)⟩
theorem dop_ii0 {f : Value → Value → Sem Value} {g : Int → Int → PV} {g' : Int → Int → V} (h : OpR X f (rI0 g')) (hr : ∀ i j W, Rep Z.P X.K W (g i j) (g' i j)) : DOp Z X f (gII (fun _ _ => True) g) :=
  dop_ii (C := fun _ _ => True) (fun pins s σ H x y u v Q I rx ry q => h pins s σ H x y u v Q I rx ry (let ⟨i, j, e1, e2, _, q⟩ := q; ⟨i, j, e1, e2, q⟩)) hr
abbrev TT2 : Int → Int → Prop := fun _ _ => True
theorem dop_sub : DOp Z X (binaryOp .Sub) (gII TT2 fun i j => .int (i - j)) := dop_ii0 op_sub fun _ _ _ => rep_int.2 rfl
theorem dop_fdiv : DOp Z X (binaryOp .FloorDiv) (gII CDivW fun i j => .int (i / j)) := dop_ii op_fdivW fun _ _ _ => rep_int.2 rfl
theorem dop_mod : DOp Z X (binaryOp .Mod) (gII (fun _ j => 0 < j) fun i j => .int (i % j)) := dop_ii op_mod fun _ _ _ => rep_int.2 rfl
theorem dop_pow : DOp Z X (binaryOp .Pow) (gII CPow fun i j => .int (i ^ j.toNat)) := dop_ii op_pow fun _ _ _ => rep_int.2 rfl
theorem dop_shl : DOp Z X (binaryOp .LShift) (gII CShl fun i j => .int (i * 2 ^ j.toNat)) := dop_ii op_shlW fun _ _ _ => rep_int.2 rfl
theorem dop_shr : DOp Z X (binaryOp .RShift) (gII (fun _ j => 0 ≤ j) fun i j => .int (i / 2 ^ j.toNat)) := dop_ii op_shr fun _ _ _ => rep_int.2 rfl
theorem dop_and : DOp Z X (binaryOp .BitAnd) (gII TT2 fun i j => .int (Builtin.bitAnd i j)) := dop_ii0 op_and fun _ _ _ => rep_int.2 rfl
theorem dop_or : DOp Z X (binaryOp .BitOr) (gII TT2 fun i j => .int (Builtin.bitOr i j)) := dop_ii0 op_or fun _ _ _ => rep_int.2 rfl
theorem dop_xor : DOp Z X (binaryOp .BitXor) (gII TT2 fun i j => .int (Builtin.bitXor i j)) := dop_ii0 op_xor fun _ _ _ => rep_int.2 rfl
theorem diop_add : DOp Z X (inplaceOp .Add) (gII TT2 fun i j => .int (i + j)) := dop_ii0 iop_add fun _ _ _ => rep_int.2 rfl
theorem diop_sub : DOp Z X (inplaceOp .Sub) (gII TT2 fun i j => .int (i - j)) := dop_ii0 iop_sub fun _ _ _ => rep_int.2 rfl
theorem diop_fdiv : DOp Z X (inplaceOp .FloorDiv) (gII CDivW fun i j => .int (i / j)) := dop_ii iop_fdivW fun _ _ _ => rep_int.2 rfl
theorem diop_mul : DOp Z X (inplaceOp .Mult) (gII CMul fun i j => .int (i * j)) := dop_ii iop_mul fun _ _ _ => rep_int.2 rfl
theorem diop_shl : DOp Z X (inplaceOp .LShift) (gII CShl fun i j => .int (i * 2 ^ j.toNat)) := dop_ii iop_shlW fun _ _ _ => rep_int.2 rfl
theorem diop_shr : DOp Z X (inplaceOp .RShift) (gII (fun _ j => 0 ≤ j) fun i j => .int (i / 2 ^ j.toNat)) := dop_ii iop_shr fun _ _ _ => rep_int.2 rfl
theorem diop_and : DOp Z X (inplaceOp .BitAnd) (gII TT2 fun i j => .int (Builtin.bitAnd i j)) := dop_ii0 iop_and fun _ _ _ => rep_int.2 rfl
theorem diop_or : DOp Z X (inplaceOp .BitOr) (gII TT2 fun i j => .int (Builtin.bitOr i j)) := dop_ii0 iop_or fun _ _ _ => rep_int.2 rfl
theorem diop_xor : DOp Z X (inplaceOp .BitXor) (gII TT2 fun i j => .int (Builtin.bitXor i j)) := dop_ii0 iop_xor fun _ _ _ => rep_int.2 rfl
theorem dop_lt : DOp Z X (compareOp .Lt) (gII TT2 fun i j => .bl (decide (i < j))) := dop_ii0 op_lt fun _ _ _ => rep_bl.2 rfl
theorem dop_le : DOp Z X (compareOp .LtE) (gII TT2 fun i j => .bl (decide (i ≤ j))) := dop_ii0 op_le fun _ _ _ => rep_bl.2 rfl
theorem dop_gt : DOp Z X (compareOp .Gt) (gII TT2 fun i j => .bl (decide (j < i))) := dop_ii0 op_gt fun _ _ _ => rep_bl.2 rfl
theorem dop_ge : DOp Z X (compareOp .GtE) (gII TT2 fun i j => .bl (decide (j ≤ i))) := dop_ii0 op_ge fun _ _ _ => rep_bl.2 rfl
/-- one int -/
def gI1 (f : Int → PV) : G1 := fun x Q n => match x with
  | .int i => Q (f i) n
  | _ => False
theorem dun_i {f : Value → Sem Value} {g : Int → PV} {g' : Int → V} (h : UnR X f (rU g')) (hr : ∀ i W, Rep Z.P X.K W (g i) (g' i)) : DUn Z X f (gI1 g) := by
  refine ⟨fun x Q Q' n hq h => by cases x <;> first | exact h.elim | exact hq _ _ h, fun pins s σ H x u Q I rx q => ?_⟩
  obtain ⟨W, p, s1, b1, r1, q⟩ := q
  cases p <;> first | exact q.elim | skip
  rename_i i
  rw [rep_int] at r1
  subst r1
  exact h pins s σ H _ u Q I rx ⟨i, rfl, Tell.now q s1 b1 (hr i W)⟩
theorem dun_neg : DUn Z X (unaryOp .USub) (gI1 fun i => .int (-i)) := dun_i un_neg fun _ _ => rep_int.2 rfl
theorem dun_inv : DUn Z X (unaryOp .Invert) (gI1 fun i => .int (Builtin.bitNot i)) := dun_i un_inv fun _ _ => rep_int.2 rfl

/-! ### + and * of anything -/
def gAdd : G2 := fun x y Q n => match x, y with
  | .int i, .int j => Q (.int (i + j)) n
  | .str a, .str b => a.length + b.length ≤ sizeLine ∧ Q (.str (a ++ b)) n
  | .lst a, .lst b => a.length + b.length ≤ sizeLine ∧ Q (.lst (a ++ b)) n
  | .tup a, .tup b => a.length + b.length ≤ sizeLine ∧ Q (.tup (a ++ b)) n
  | _, _ => False
theorem dop_add : DOp Z X (binaryOp .Add) gAdd := by
  refine ⟨fun x y Q Q' n hq h => ?_, fun pins s σ H x y u v Q I rx ry q => ?_⟩
  · cases x <;> cases y <;> first | exact h.elim | exact hq _ _ h | exact ⟨h.1, hq _ _ h.2⟩
  · obtain ⟨W, p, r, s1, b1, r1, r2, q⟩ := q
    cases p <;> cases r <;> first | exact q.elim | skip
    · rename_i i j
      rw [rep_int] at r1 r2
      subst r1; subst r2
      exact op_add pins s σ H _ _ u v Q I rx ry ⟨i, j, rfl, rfl, Tell.now q s1 b1 (rep_int.2 rfl)⟩
    · rename_i i j
      rw [rep_str] at r1 r2
      subst r1; subst r2
      exact op_add_str pins s σ H _ _ u v Q I rx ry ⟨i, j, rfl, rfl, q.1, Tell.now q.2 s1 b1 (rep_str.2 rfl)⟩
    · rename_i xs ys
      rw [rep_tup] at r1 r2
      obtain ⟨a, vs, rfl, h1, l1⟩ := r1
      obtain ⟨b, us, rfl, h2, l2⟩ := r2
      refine op_catA pins s σ H _ _ u v Q I rx ry ⟨a, b, vs, us, rfl, rfl, sqT_same s1 h1, sqT_same s1 h2, by rw [← l1.length, ← l2.length]; exact q.1, ?_⟩
      refine ⟨fun e1 => ?_, fun e1 e2 => ?_, fun e1 e2 => ?_⟩
      · have e : xs ++ ys = ys := by
          have := l1.length
          rw [e1] at this
          rw [List.eq_nil_of_length_eq_zero this, List.nil_append]
        have t : Tell Z.P X.K W H Q (.tup (xs ++ ys)) W.c := q.2
        rw [e] at t
        exact Tell.now t s1 b1 (rep_tup.2 ⟨b, us, rfl, h2, l2⟩)
      · have e : xs ++ ys = xs := by
          have := l2.length
          rw [e2] at this
          rw [List.eq_nil_of_length_eq_zero this, List.append_nil]
        have t : Tell Z.P X.K W H Q (.tup (xs ++ ys)) W.c := q.2
        rw [e] at t
        exact Tell.now t s1 b1 (rep_tup.2 ⟨a, vs, rfl, h1, l1⟩)
      · exact Tell.fresh q.2 s1 b1 fun p n => rep_newT n s1 (l1.append l2)
    · rename_i xs ys
      rw [rep_lst] at r1 r2
      obtain ⟨a, vs, rfl, h1, l1⟩ := r1
      obtain ⟨b, us, rfl, h2, l2⟩ := r2
      exact op_cat pins s σ H _ _ u v Q I rx ry ⟨a, b, vs, us, rfl, rfl, s1 _ _ h1, s1 _ _ h2, by rw [← l1.length, ← l2.length]; exact q.1, Tell.fresh q.2 s1 b1 fun p n => rep_newL n s1 (l1.append l2)⟩
theorem RepL.flat {xs : List PV} {vs : List V} (l : RepL P K W xs vs) : ∀ n : Nat, RepL P K W (List.replicate n xs).flatten (List.replicate n vs).flatten
  | 0 => RepL.nil
  | n + 1 => by
    rw [List.replicate_succ, List.replicate_succ, List.flatten_cons, List.flatten_cons]
    exact l.append (RepL.flat l n)
def gMul : G2 := fun x y Q n => match x, y with
  | .int i, .int j => CMulX i j ∧ Q (.int (i * j)) n
  | .lst a, .int k => (-(2 ^ 63) ≤ k ∧ k < 2 ^ 63 ∧ a.length * k.toNat ≤ sizeLine) ∧ Q (.lst (List.replicate k.toNat a).flatten) n
  | _, _ => False
theorem dop_mul : DOp Z X (binaryOp .Mult) gMul := by
  refine ⟨fun x y Q Q' n hq h => ?_, fun pins s σ H x y u v Q I rx ry q => ?_⟩
  · cases x <;> cases y <;> first | exact h.elim | exact ⟨h.1, hq _ _ h.2⟩
  · obtain ⟨W, p, r, s1, b1, r1, r2, q⟩ := q
    cases p <;> cases r <;> first | exact q.elim | skip
    · rename_i i j
      rw [rep_int] at r1 r2
      subst r1; subst r2
      exact op_mulX pins s σ H _ _ u v Q I rx ry ⟨i, j, rfl, rfl, q.1, Tell.now q.2 s1 b1 (rep_int.2 rfl)⟩
    · rename_i xs k
      rw [rep_lst] at r1
      rw [rep_int] at r2
      obtain ⟨a, vs, rfl, h1, l1⟩ := r1
      subst r2
      exact op_rep pins s σ H _ _ u v Q I rx ry ⟨a, k, vs, rfl, rfl, s1 _ _ h1, q.1.1, q.1.2.1, by rw [← l1.length]; exact q.1.2.2, Tell.fresh q.2 s1 b1 fun p n => rep_newL n s1 (l1.flat _)⟩

/-! ### data: == and != -/
mutual
def PV.toD : PV → PyData
  | .bl b => .bool b
  | .int i => .int i
  | .str s => .str s
  | .tup xs => .tuple (PV.toDs xs)
  | .lst xs => .list (PV.toDs xs)
  | .scr xs => .list (PV.toDs xs)
  | _ => .none
def PV.toDs : List PV → List PyData
  | [] => []
  | x :: xs => PV.toD x :: PV.toDs xs
end
mutual
/-- data that can be compared -/
def PV.okD : Nat → PV → Bool
  | _, .non => true
  | _, .bl _ => true
  | _, .int _ => true
  | _, .str s => PyData.strOk s
  | n + 1, .tup xs => PV.okDs n xs
  | n + 1, .lst xs => PV.okDs n xs
  | n + 1, .scr xs => PV.okDs n xs
  | _, _ => false
def PV.okDs : Nat → List PV → Bool
  | _, [] => true
  | n, x :: xs => PV.okD n x && PV.okDs n xs
end
mutual
def peq : PV → PV → Bool
  | .non, .non => true
  | .bl a, .bl b => a == b
  | .bl a, .int j => (if a then 1 else 0) == j
  | .int i, .bl b => i == (if b then 1 else 0)
  | .int i, .int j => i == j
  | .str x, .str y => x == y
  | .lst xs, .lst ys => peqs xs ys
  | .lst xs, .scr ys => peqs xs ys
  | .scr xs, .lst ys => peqs xs ys
  | .scr xs, .scr ys => peqs xs ys
  | .tup xs, .tup ys => peqs xs ys
  | _, _ => false
def peqs : List PV → List PV → Bool
  | [], [] => true
  | x :: xs, y :: ys => peq x y && peqs xs ys
  | _, _ => false
end
theorem eqv_none_l : ∀ y : PyData, y ≠ .none → PyData.eqv .none y = false := by
  intro y hy
  cases y <;> first | exact absurd rfl hy | simp only [PyData.eqv]
mutual
theorem eqv_peq : ∀ (x : PV) (n : Nat) (y : PV) (m : Nat), x.okD n = true → y.okD m = true → PyData.eqv x.toD y.toD = peq x y
  | .non, n, y, m, _, hy => by cases y <;> cases m <;> simp_all [PV.okD, PV.toD, peq, PyData.eqv]
  | .bl _, n, y, m, _, hy => by cases y <;> cases m <;> simp_all [PV.okD, PV.toD, peq, PyData.eqv]
  | .int _, n, y, m, _, hy => by cases y <;> cases m <;> simp_all [PV.okD, PV.toD, peq, PyData.eqv]
  | .str _, n, y, m, _, hy => by cases y <;> cases m <;> simp_all [PV.okD, PV.toD, peq, PyData.eqv]
  | .tup xs, n, y, m, hx, hy => by
    cases n with
    | zero => simp [PV.okD] at hx
    | succ n =>
      have hx' : PV.okDs n xs = true := by simpa [PV.okD] using hx
      cases y <;> cases m <;> first
        | (simp_all [PV.okD, PV.toD, peq, PyData.eqv]; done)
        | (rename_i ys m
           have hy' : PV.okDs m ys = true := by simpa [PV.okD] using hy
           simp only [PV.toD, peq, PyData.eqv]
           exact eqv_peqs xs n ys m hx' hy')
  | .lst xs, n, y, m, hx, hy => by
    cases n with
    | zero => simp [PV.okD] at hx
    | succ n =>
      have hx' : PV.okDs n xs = true := by simpa [PV.okD] using hx
      cases y <;> cases m <;> first
        | (simp_all [PV.okD, PV.toD, peq, PyData.eqv]; done)
        | (rename_i ys m
           have hy' : PV.okDs m ys = true := by simpa [PV.okD] using hy
           simp only [PV.toD, peq, PyData.eqv]
           exact eqv_peqs xs n ys m hx' hy')
  | .scr xs, n, y, m, hx, hy => by
    cases n with
    | zero => simp [PV.okD] at hx
    | succ n =>
      have hx' : PV.okDs n xs = true := by simpa [PV.okD] using hx
      cases y <;> cases m <;> first
        | (simp_all [PV.okD, PV.toD, peq, PyData.eqv]; done)
        | (rename_i ys m
           have hy' : PV.okDs m ys = true := by simpa [PV.okD] using hy
           simp only [PV.toD, peq, PyData.eqv]
           exact eqv_peqs xs n ys m hx' hy')
  | .ins _ _, n, _, _, hx, _ => by cases n <;> simp [PV.okD] at hx
  | .box _, n, _, _, hx, _ => by cases n <;> simp [PV.okD] at hx
  | .raw _, n, _, _, hx, _ => by cases n <;> simp [PV.okD] at hx
theorem eqv_peqs : ∀ (xs : List PV) (n : Nat) (ys : List PV) (m : Nat), PV.okDs n xs = true → PV.okDs m ys = true → PyData.eqvAll (PV.toDs xs) (PV.toDs ys) = peqs xs ys
  | [], n, ys, m, _, _ => by cases ys <;> simp [PV.toDs, peqs, PyData.eqvAll]
  | x :: xs, n, ys, m, hx, hy => by
    cases ys with
    | nil => simp [PV.toDs, peqs, PyData.eqvAll]
    | cons y ys =>
      simp only [PV.okDs, Bool.and_eq_true] at hx hy
      simp only [PV.toDs, peqs, PyData.eqvAll]
      rw [eqv_peq x n y m hx.1 hy.1, eqv_peqs xs n ys m hx.2 hy.2]
end
mutual
theorem toD_dp : ∀ (x : PV) (n : Nat) (v : V), x.okD n = true → Rep P K W x v → Same W.F H → Dp K H v x.toD
  | .non, _, _, _, r, _ => by rw [rep_non] at r; subst r; exact Dp.non
  | .bl b, _, _, _, r, _ => by rw [rep_bl] at r; subst r; exact Dp.bl b
  | .int i, _, _, _, r, _ => by rw [rep_int] at r; subst r; exact Dp.int i
  | .str i, _, _, _, r, _ => by rw [rep_str] at r; subst r; exact Dp.str i
  | .tup xs, n, _, h, r, s => by
    rw [rep_tup] at r
    obtain ⟨a, ys, rfl, h1, l⟩ := r
    cases n with
    | zero => simp [PV.okD] at h
    | succ n => simp only [PV.toD]; exact Dp.tup (sqT_same s h1) (toD_dps xs n ys (by simpa [PV.okD] using h) l s)
  | .lst xs, n, _, h, r, s => by
    rw [rep_lst] at r
    obtain ⟨a, ys, rfl, h1, l⟩ := r
    cases n with
    | zero => simp [PV.okD] at h
    | succ n => simp only [PV.toD]; exact Dp.lst (SqL.of (s _ _ h1)) (toD_dps xs n ys (by simpa [PV.okD] using h) l s)
  | .scr xs, n, _, h, r, s => by
    rw [rep_scr] at r
    obtain ⟨a, ys, rfl, h1, l⟩ := r
    cases n with
    | zero => simp [PV.okD] at h
    | succ n => simp only [PV.toD]; exact Dp.lst (sqL_same s h1) (toD_dps xs n ys (by simpa [PV.okD] using h) l s)
  | .ins _ _, n, _, h, _, _ => by cases n <;> simp [PV.okD] at h
  | .box _, n, _, h, _, _ => by cases n <;> simp [PV.okD] at h
  | .raw _, n, _, h, _, _ => by cases n <;> simp [PV.okD] at h
theorem toD_dps : ∀ (xs : List PV) (n : Nat) (vs : List V), PV.okDs n xs = true → RepL P K W xs vs → Same W.F H → DpAll K H vs (PV.toDs xs)
  | [], _, _, _, r, _ => by simp only [RepL] at r; subst r; simp only [PV.toDs]; exact DpAll.nil
  | x :: xs, n, _, h, r, s => by
    simp only [RepL] at r
    obtain ⟨y, zs, rfl, a, b⟩ := r
    simp only [PV.okDs, Bool.and_eq_true] at h
    simp only [PV.toDs]
    exact DpAll.cons (toD_dp x n y h.1 a s) (toD_dps xs n zs h.2 b s)
end
mutual
theorem okD_can : ∀ (x : PV) (n : Nat), x.okD n = true → x.toD.canLay0 = true ∧ x.toD.depth ≤ n
  | .non, n, _ => by simp [PV.toD, PyData.canLay0, PyData.depth]
  | .bl _, n, _ => by simp [PV.toD, PyData.canLay0, PyData.depth]
  | .int _, n, _ => by simp [PV.toD, PyData.canLay0, PyData.depth]
  | .str _, n, h => by
    have : n = n := rfl
    cases n <;> simpa [PV.okD, PV.toD, PyData.canLay0, PyData.depth] using h
  | .tup xs, n, h => by
    cases n with
    | zero => simp [PV.okD] at h
    | succ n =>
      have := okDs_can xs n (by simpa [PV.okD] using h)
      simp only [PV.toD, PyData.canLay0, PyData.depth]
      exact ⟨this.1, Nat.succ_le_succ this.2⟩
  | .lst xs, n, h => by
    cases n with
    | zero => simp [PV.okD] at h
    | succ n =>
      have := okDs_can xs n (by simpa [PV.okD] using h)
      simp only [PV.toD, PyData.canLay0, PyData.depth]
      exact ⟨this.1, Nat.succ_le_succ this.2⟩
  | .scr xs, n, h => by
    cases n with
    | zero => simp [PV.okD] at h
    | succ n =>
      have := okDs_can xs n (by simpa [PV.okD] using h)
      simp only [PV.toD, PyData.canLay0, PyData.depth]
      exact ⟨this.1, Nat.succ_le_succ this.2⟩
  | .ins _ _, n, h => by cases n <;> simp [PV.okD] at h
  | .box _, n, h => by cases n <;> simp [PV.okD] at h
  | .raw _, n, h => by cases n <;> simp [PV.okD] at h
theorem okDs_can : ∀ (xs : List PV) (n : Nat), PV.okDs n xs = true → PyData.canLayAll0 (PV.toDs xs) = true ∧ PyData.depthAll (PV.toDs xs) ≤ n
  | [], n, _ => by simp [PV.toDs, PyData.canLayAll0, PyData.depthAll]
  | x :: xs, n, h => by
    simp only [PV.okDs, Bool.and_eq_true] at h
    have a := okD_can x n h.1
    have b := okDs_can xs n h.2
    simp only [PV.toDs, PyData.canLayAll0, PyData.depthAll, a.1, b.1, Bool.and_self, true_and]
    exact Nat.max_le.2 ⟨a.2, b.2⟩
end
theorem okD_shaped {x : PV} (h : x.okD 60 = true) : SeqAt.shaped x.toD = true := by
  obtain ⟨a, b⟩ := okD_can x 60 h
  unfold SeqAt.shaped
  rw [a, decide_eq_true (by omega)]
  rfl
def gEq : G2 := fun x y Q n => (x.okD 60 = true ∧ y.okD 60 = true) ∧ Q (.bl (peq x y)) n
def gNe : G2 := fun x y Q n => (x.okD 60 = true ∧ y.okD 60 = true) ∧ Q (.bl (!peq x y)) n
theorem dop_eq (hu : X.A.units + 64 < cLine) : DOp Z X (compareOp .Eq) gEq := by
  refine ⟨fun x y Q Q' n hq h => ⟨h.1, hq _ _ h.2⟩, fun pins s σ H x y u v Q I rx ry q => ?_⟩
  obtain ⟨W, p, r, s1, b1, r1, r2, ⟨o1, o2⟩, q⟩ := q
  refine op_eqD hu pins s σ H x y u v Q I rx ry ⟨p.toD, r.toD, toD_dp p 60 x o1 r1 s1, toD_dp r 60 y o2 r2 s1, okD_shaped o1, okD_shaped o2, ?_⟩
  rw [eqv_peq p 60 r 60 o1 o2]
  exact Tell.now q s1 b1 (rep_bl.2 rfl)
theorem dop_ne (hu : X.A.units + 64 < cLine) : DOp Z X (compareOp .NotEq) gNe := by
  refine ⟨fun x y Q Q' n hq h => ⟨h.1, hq _ _ h.2⟩, fun pins s σ H x y u v Q I rx ry q => ?_⟩
  obtain ⟨W, p, r, s1, b1, r1, r2, ⟨o1, o2⟩, q⟩ := q
  refine op_neD hu pins s σ H x y u v Q I rx ry ⟨p.toD, r.toD, toD_dp p 60 x o1 r1 s1, toD_dp r 60 y o2 r2 s1, okD_shaped o1, okD_shaped o2, ?_⟩
  rw [eqv_peq p 60 r 60 o1 o2]
  exact Tell.now q s1 b1 (rep_bl.2 rfl)
end
end DL

set_option maxRecDepth 100000
set_option maxHeartbeats 1000000
/-! DLExpr: tests, argument lists, displays, subscripts, slices, fields, built-ins by name -/
namespace DL
open PySem L2
section
variable {Z : Cz} {X : Cx} {P : Par} {K : PySem.W.Frag} {W : Wd} {H : Hp} {e a b o : Expr} {es rest : List Expr} {pos p apos cpos p2 : Pos} {ta tb te : DT} {t u : DB}

/-! ### truth -/
abbrev GB := PV → (Bool → Pd) → Pd
structure DTru (Z : Cz) (X : Cx) (g : GB) : Prop where
  mono : ∀ x (Q Q' : Bool → Pd) n, (∀ b n, Q b n → Q' b n) → g x Q n → g x Q' n
  run : TruR X fun v H Q => ∃ W x, Same W.F H ∧ BoxOk Z.P W H ∧ Rep Z.P X.K W x v ∧ g x (fun b n => ∀ W' H', Fr0 Z.P H W W' H' → W'.c = n → Q b H') W.c
def gTru : GB := fun x Q n => match x with
  | .non => Q false n
  | .bl b => Q b n
  | .int i => Q (i != 0) n
  | .str s => s.length ≤ sizeLine ∧ Q ((s.length : Int) != 0) n
  | .tup xs => Q (!xs.isEmpty) n
  | .lst xs => Q (!xs.isEmpty) n
  | .scr xs => Q (!xs.isEmpty) n
  | _ => False
theorem gTru_mono : ∀ x (Q Q' : Bool → Pd) n, (∀ b n, Q b n → Q' b n) → gTru x Q n → gTru x Q' n := fun x Q Q' n hq h => by
  cases x <;> first | exact h.elim | exact hq _ _ h | exact ⟨h.1, hq _ _ h.2⟩
theorem RepL.empty {ps : List PV} {vs : List V} (l : RepL P K W ps vs) : ps.isEmpty = vs.isEmpty := by
  have := l.length
  cases ps <;> cases vs <;> first | rfl | (simp at this)
/-- what a value's truth is, by the heap -/
theorem tru_of {x : PV} {v : V} {Q : Bool → Pd} {n : Nat} (r : Rep P K W x v) (s : Same W.F H) (h : gTru x Q n) : ∃ k, TruV K v H k ∧ Q k n := by
  cases x with
  | non => rw [rep_non] at r; subst r; exact ⟨false, rfl, h⟩
  | bl b => rw [rep_bl] at r; subst r; exact ⟨b, rfl, h⟩
  | int i => rw [rep_int] at r; subst r; exact ⟨_, rfl, h⟩
  | str i => rw [rep_str] at r; subst r; exact ⟨_, ⟨h.1, rfl⟩, h.2⟩
  | tup xs =>
    rw [rep_tup] at r
    obtain ⟨a, ys, rfl, h1, l⟩ := r
    refine ⟨_, Or.inr (Or.inl ⟨ys, sqT_same s h1, rfl⟩), ?_⟩
    rw [← l.empty]; exact h
  | lst xs =>
    rw [rep_lst] at r
    obtain ⟨a, ys, rfl, h1, l⟩ := r
    refine ⟨_, Or.inl ⟨ys, SqL.of (s _ _ h1), rfl⟩, ?_⟩
    rw [← l.empty]; exact h
  | scr xs =>
    rw [rep_scr] at r
    obtain ⟨a, ys, rfl, h1, l⟩ := r
    refine ⟨_, Or.inl ⟨ys, sqL_same s h1, rfl⟩, ?_⟩
    rw [← l.empty]; exact h
  | _ => exact h.elim
theorem dtru : DTru Z X gTru := by
  refine ⟨gTru_mono, fun pins s σ H x v Q I rx h => ?_⟩
  obtain ⟨W, p, s1, b1, r, h⟩ := h
  obtain ⟨k, e, q⟩ := tru_of r s1 h
  exact tru_ok pins s σ H x v Q I rx ⟨k, e, q W H (Fr0.refl s1 b1) rfl⟩
def gOrB (g h : GB) : GB := fun x Q n => g x Q n ∨ h x Q n
theorem DTru.or {g g' : GB} (o : DTru Z X g) (o' : DTru Z X g') : DTru Z X (gOrB g g') := by
  refine ⟨fun x Q Q' n hq h => h.imp (o.mono x Q Q' n hq) (o'.mono x Q Q' n hq), fun pins s σ H x v Q I rx h => ?_⟩
  obtain ⟨W, p, s1, b1, r, h⟩ := h
  rcases h with h | h
  · exact o.run pins s σ H x v Q I rx ⟨W, p, s1, b1, r, h⟩
  · exact o'.run pins s σ H x v Q I rx ⟨W, p, s1, b1, r, h⟩
def dTru (g : GB) (ta : DT) : DB := fun ρ Q => ta ρ fun x => g x Q
theorem dt_truth {g : GB} (h : DTru Z X g) (ha : DE Z X e te) (he : ∀ whole, isTrue e X.env whole = (do let v ← whole; standAt e.pos; holding [v] (truthy v)) := by intro _; rfl) : DTs Z X e (dTru g te) := by
  refine ⟨fun ρ Q Q' n hq q => ha.mono ρ _ _ _ (fun x n q => h.mono x _ _ _ hq q) q, PT.weak (pt_truthR ha.run h.run he) fun σ H Q q => ?_⟩
  obtain ⟨W, ρ, S, q⟩ := q
  refine ⟨W, ρ, S, ha.mono ρ _ _ _ (fun x n q v W1 H1 f1 c1 r1 => ?_) q⟩
  exact ⟨W1, x, f1.sub, f1.box, r1, h.mono x _ _ _ (fun b n q W2 H2 f2 c2 => q W2 H2 (f1.trans f2) c2) (c1 ▸ q)⟩
/-- a comparison as a test -/
def dTst (ta : DT) : DB := fun ρ Q => ta ρ fun x n => match x with
  | .bl b => Q b n
  | _ => False
theorem dTst_mono (ha : MonoT ta) : MonoT (dTst ta) := fun ρ Q Q' n hq q => ha ρ _ _ _ (fun x n h => by
  cases x <;> first | exact h.elim | exact hq _ _ h) q
theorem lift_tst (ha : MonoT ta) {σ : L2.St} {H : Hp} {Q : Bool → Hp → Prop} {t' : TE} (w : ∀ σ H Q, liftE Z.P X.K Z.H0 Z.W0 ta σ H Q → t' σ H Q) (h : liftB Z.P X.K Z.H0 Z.W0 (dTst ta) σ H Q) : tTest t' σ H Q := by
  refine w σ H _ ?_
  obtain ⟨W, ρ, S, q⟩ := h
  refine ⟨W, ρ, S, ha ρ _ _ _ (fun x n q v W1 H1 f1 c1 r1 => ?_) q⟩
  cases x <;> first | exact q.elim | skip
  rw [rep_bl] at r1
  exact ⟨_, r1, q W1 H1 f1 c1⟩
theorem dt_cmp {op : CmpOp} {g : G2} (h : DOp Z X (compareOp op) g) (ha : DE Z X a ta) (hb : DE Z X b tb) (hm : behindInMarks op b = false := by rfl) : DTs Z X (.Compare a [op] [b] pos) (dTst (dBin g ta tb)) :=
  ⟨dTst_mono (dBin_mono h.mono ha.mono hb.mono), PT.weak (pt_cmpR h.run ha.run hb.run hm) fun _ _ _ q => lift_tst (dBin_mono h.mono ha.mono hb.mono) (fun _ _ _ q => lift_bin h.mono ha.mono hb.mono q) q⟩
def dAnd (t u : DB) : DB := fun ρ Q => t ρ fun c => if c = true then u ρ Q else Q false
def dOr (t u : DB) : DB := fun ρ Q => t ρ fun c => if c = true then Q true else u ρ Q
def dNot (t : DB) : DB := fun ρ Q => t ρ fun c => Q (!c)
theorem dAnd_mono (h1 : MonoT t) (h2 : MonoT u) : MonoT (dAnd t u) := fun ρ Q Q' n hq q => h1 ρ _ _ _ (fun c n q => by
  cases c with
  | true => rw [if_pos rfl] at q ⊢; exact h2 ρ _ _ _ hq q
  | false => rw [if_neg Bool.false_ne_true] at q ⊢; exact hq _ _ q) q
theorem dOr_mono (h1 : MonoT t) (h2 : MonoT u) : MonoT (dOr t u) := fun ρ Q Q' n hq q => h1 ρ _ _ _ (fun c n q => by
  cases c with
  | false => rw [if_neg Bool.false_ne_true] at q ⊢; exact h2 ρ _ _ _ hq q
  | true => rw [if_pos rfl] at q ⊢; exact hq _ _ q) q
theorem dNot_mono (h1 : MonoT t) : MonoT (dNot t) := fun ρ Q Q' n hq q => h1 ρ _ _ _ (fun c n q => hq _ _ q) q
theorem dw_and1 (ha : DTs Z X a t) : DW Z X (.BoolOp .And [a] pos) t := ⟨ha.mono, pw_and1 ha.run⟩
theorem dw_or1 (ha : DTs Z X a t) : DW Z X (.BoolOp .Or [a] pos) t := ⟨ha.mono, pw_or1 ha.run⟩
theorem dw_and (ha : DTs Z X a t) (hb : DW Z X (.BoolOp .And (b :: rest) pos) u) : DW Z X (.BoolOp .And (a :: b :: rest) pos) (dAnd t u) := by
  refine ⟨dAnd_mono ha.mono hb.mono, PW.weak (pw_and ha.run hb.run) fun σ H Q q => ?_⟩
  obtain ⟨W, ρ, S, q⟩ := q
  refine ⟨W, ρ, S, ha.mono ρ _ _ _ (fun c n q W1 H1 f1 c1 => ?_) q⟩
  cases c with
  | true => exact ⟨W1, ρ, S.step f1, hb.mono ρ _ _ _ (fun d n q W2 H2 f2 c2 => q W2 H2 (f1.trans f2) c2) (c1 ▸ q)⟩
  | false => exact q W1 H1 f1 c1
theorem dw_or (ha : DTs Z X a t) (hb : DW Z X (.BoolOp .Or (b :: rest) pos) u) : DW Z X (.BoolOp .Or (a :: b :: rest) pos) (dOr t u) := by
  refine ⟨dOr_mono ha.mono hb.mono, PW.weak (pw_or ha.run hb.run) fun σ H Q q => ?_⟩
  obtain ⟨W, ρ, S, q⟩ := q
  refine ⟨W, ρ, S, ha.mono ρ _ _ _ (fun c n q W1 H1 f1 c1 => ?_) q⟩
  cases c with
  | false => exact ⟨W1, ρ, S.step f1, hb.mono ρ _ _ _ (fun d n q W2 H2 f2 c2 => q W2 H2 (f1.trans f2) c2) (c1 ▸ q)⟩
  | true => exact q W1 H1 f1 c1
theorem DW.pt (h : DW Z X e t) : DTs Z X e t := ⟨h.mono, h.run.pt⟩
theorem dt_not (ha : DTs Z X a t) : DTs Z X (.UnaryOp .Not a pos) (dNot t) := by
  refine ⟨dNot_mono ha.mono, PT.weak (pt_not ha.run) fun σ H Q q => ?_⟩
  obtain ⟨W, ρ, S, q⟩ := q
  exact ⟨W, ρ, S, q⟩
def dIfE (t : DB) (ta tb : DT) : DT := fun ρ Q => t ρ fun c => if c = true then ta ρ Q else tb ρ Q
theorem dIfE_mono (h : MonoT t) (h1 : MonoT ta) (h2 : MonoT tb) : MonoT (dIfE t ta tb) := fun ρ Q Q' n hq q => h ρ _ _ _ (fun c n q => by
  cases c with
  | true => rw [if_pos rfl] at q ⊢; exact h1 ρ _ _ _ hq q
  | false => rw [if_neg Bool.false_ne_true] at q ⊢; exact h2 ρ _ _ _ hq q) q
theorem de_if {c : Expr} (hc : DTs Z X c t) (ha : DE Z X a ta) (hb : DE Z X b tb) : DE Z X (.IfExp c a b pos) (dIfE t ta tb) := by
  refine ⟨dIfE_mono hc.mono ha.mono hb.mono, PE.weak (pe_ifExp hc.run ha.run hb.run) fun σ H Q q => ?_⟩
  obtain ⟨W, ρ, S, q⟩ := q
  refine ⟨W, ρ, S, hc.mono ρ _ _ _ (fun c n q W1 H1 f1 c1 => ?_) q⟩
  cases c with
  | true => exact ⟨W1, ρ, S.step f1, ha.mono ρ _ _ _ (fun p n q v W2 H2 f2 c2 => q v W2 H2 (f1.trans f2) c2) (c1 ▸ q)⟩
  | false => exact ⟨W1, ρ, S.step f1, hb.mono ρ _ _ _ (fun p n q v W2 H2 f2 c2 => q v W2 H2 (f1.trans f2) c2) (c1 ▸ q)⟩
/-- x and y, x or y, not x as values -/
def dAndV (ta tb : DT) : DT := fun ρ Q => ta ρ fun x => gTru x fun k => if k = true then tb ρ Q else Q x
def dOrV (ta tb : DT) : DT := fun ρ Q => ta ρ fun x => gTru x fun k => if k = true then Q x else tb ρ Q
def dNotV (ta : DT) : DT := fun ρ Q => ta ρ fun x => gTru x fun k => Q (.bl (!k))
theorem dAndV_mono (h1 : MonoT ta) (h2 : MonoT tb) : MonoT (dAndV ta tb) := fun ρ Q Q' n hq q => h1 ρ _ _ _ (fun x n q => gTru_mono x _ _ _ (fun c n q => by
  cases c with
  | true => rw [if_pos rfl] at q ⊢; exact h2 ρ _ _ _ hq q
  | false => rw [if_neg Bool.false_ne_true] at q ⊢; exact hq _ _ q) q) q
theorem dOrV_mono (h1 : MonoT ta) (h2 : MonoT tb) : MonoT (dOrV ta tb) := fun ρ Q Q' n hq q => h1 ρ _ _ _ (fun x n q => gTru_mono x _ _ _ (fun c n q => by
  cases c with
  | false => rw [if_neg Bool.false_ne_true] at q ⊢; exact h2 ρ _ _ _ hq q
  | true => rw [if_pos rfl] at q ⊢; exact hq _ _ q) q) q
theorem dNotV_mono (h1 : MonoT ta) : MonoT (dNotV ta) := fun ρ Q Q' n hq q => h1 ρ _ _ _ (fun x n q => gTru_mono x _ _ _ (fun c n q => hq _ _ q) q) q
theorem de_one {op} (h : DE Z X a ta) : DE Z X (.BoolOp op [a] pos) ta := ⟨h.mono, pe_one h.run⟩
theorem de_and (ha : DE Z X a ta) (hb : DE Z X (.BoolOp .And (b :: rest) pos) tb) : DE Z X (.BoolOp .And (a :: b :: rest) pos) (dAndV ta tb) := by
  refine ⟨dAndV_mono ha.mono hb.mono, PE.weak (pe_andT ha.run hb.run) fun σ H Q q => ?_⟩
  obtain ⟨W, ρ, S, q⟩ := q
  refine ⟨W, ρ, S, ha.mono ρ _ _ _ (fun x n q v W1 H1 f1 c1 r1 => ?_) q⟩
  obtain ⟨k, e, q⟩ := tru_of r1 f1.sub q
  refine ⟨k, e, ?_⟩
  cases k with
  | true =>
    rw [if_pos rfl] at q ⊢
    exact ⟨W1, ρ, S.step f1, hb.mono ρ _ _ _ (fun p n q v W2 H2 f2 c2 => q v W2 H2 (f1.trans f2) c2) (c1 ▸ q)⟩
  | false =>
    rw [if_neg Bool.false_ne_true] at q ⊢
    exact q v W1 H1 f1 c1 r1
theorem de_or (ha : DE Z X a ta) (hb : DE Z X (.BoolOp .Or (b :: rest) pos) tb) : DE Z X (.BoolOp .Or (a :: b :: rest) pos) (dOrV ta tb) := by
  refine ⟨dOrV_mono ha.mono hb.mono, PE.weak (pe_orT ha.run hb.run) fun σ H Q q => ?_⟩
  obtain ⟨W, ρ, S, q⟩ := q
  refine ⟨W, ρ, S, ha.mono ρ _ _ _ (fun x n q v W1 H1 f1 c1 r1 => ?_) q⟩
  obtain ⟨k, e, q⟩ := tru_of r1 f1.sub q
  refine ⟨k, e, ?_⟩
  cases k with
  | false =>
    rw [if_neg Bool.false_ne_true] at q ⊢
    exact ⟨W1, ρ, S.step f1, hb.mono ρ _ _ _ (fun p n q v W2 H2 f2 c2 => q v W2 H2 (f1.trans f2) c2) (c1 ▸ q)⟩
  | true =>
    rw [if_pos rfl] at q ⊢
    exact q v W1 H1 f1 c1 r1
theorem de_not (ha : DE Z X a ta) : DE Z X (.UnaryOp .Not a pos) (dNotV ta) := by
  refine ⟨dNotV_mono ha.mono, PE.weak (pe_notT ha.run) fun σ H Q q => ?_⟩
  obtain ⟨W, ρ, S, q⟩ := q
  refine ⟨W, ρ, S, ha.mono ρ _ _ _ (fun x n q v W1 H1 f1 c1 r1 => ?_) q⟩
  obtain ⟨k, e, q⟩ := tru_of r1 f1.sub q
  exact ⟨k, e, q _ W1 H1 f1 c1 (rep_bl.2 rfl)⟩
/-- a < b < c -/
def dChain (g g' : G2) (ta tb tc : DT) : DT := fun ρ Q => ta ρ fun x => tb ρ fun y => g x y fun z n => match z with
  | .bl k => if k = true then tc ρ (fun z => g' y z Q) n else Q (.bl false) n
  | _ => False
theorem dChain_mono {g g' : G2} {tc : DT} (hg : MonoG2 g) (hg' : MonoG2 g') (h1 : MonoT ta) (h2 : MonoT tb) (h3 : MonoT tc) : MonoT (dChain g g' ta tb tc) := fun ρ Q Q' n hq q =>
  h1 ρ _ _ _ (fun x n q => h2 ρ _ _ _ (fun y n q => hg x y _ _ _ (fun z n q => by
    cases z <;> first | exact q.elim | skip
    rename_i k
    cases k with
    | true => exact h3 ρ _ _ _ (fun z n q => hg' y z _ _ _ hq q) q
    | false => exact hq _ _ q) q) q) q
theorem lift_chain {g g' : G2} {tc : DT} (hg : MonoG2 g) (hg' : MonoG2 g') (ha : MonoT ta) (hb : MonoT tb) (hc : MonoT tc) {σ : L2.St} {H : Hp} {Q : VK} (h : liftE Z.P X.K Z.H0 Z.W0 (dChain g g' ta tb tc) σ H Q) :
    tChain (r2Of Z.P X.K g) (r2Of Z.P X.K g') (liftE Z.P X.K Z.H0 Z.W0 ta) (liftE Z.P X.K Z.H0 Z.W0 tb) (liftE Z.P X.K Z.H0 Z.W0 tc) σ H Q := by
  obtain ⟨W, ρ, S, q⟩ := h
  refine ⟨W, ρ, S, ha ρ _ _ _ (fun x n q v W1 H1 f1 c1 r1 => ?_) q⟩
  refine ⟨W1, ρ, S.step f1, hb ρ _ _ _ (fun y n q w W2 H2 f2 c2 r2 => ?_) (c1 ▸ q)⟩
  refine ⟨W2, x, y, f2.sub, f2.box, Rep.mono f2.le _ _ r1, r2, hg x y _ _ _ (fun z n q v3 W3 H3 f3 c3 r3 => ?_) (c2 ▸ q)⟩
  cases z <;> first | exact q.elim | skip
  rename_i k
  rw [rep_bl] at r3
  refine ⟨k, r3, ?_⟩
  cases k with
  | true =>
    refine ⟨W3, ρ, ((S.step f1).step f2).step f3, hc ρ _ _ _ (fun z n q v4 W4 H4 f4 c4 r4 => ?_) (c3 ▸ q)⟩
    exact ⟨W4, y, z, f4.sub, f4.box, Rep.mono (f3.le.trans f4.le) _ _ r2, r4, hg' y z _ _ _ (fun p n q v5 W5 H5 f5 c5 r5 => q v5 W5 H5 (((f1.trans f2).trans f3).trans (f4.trans f5)) c5 r5) (c4 ▸ q)⟩
  | false => exact q _ W3 H3 ((f1.trans f2).trans f3) c3 (rep_bl.2 rfl)
theorem de_chain {op op' : CmpOp} {g g' : G2} {c : Expr} {tc : DT} (h : DOp Z X (compareOp op) g) (h' : DOp Z X (compareOp op') g') (ha : DE Z X a ta) (hb : DE Z X b tb) (hc : DE Z X c tc)
    (hm : lastMarks [op, op'] [b, c] = false := by rfl) : DE Z X (.Compare a [op, op'] [b, c] pos) (dChain g g' ta tb tc) :=
  ⟨dChain_mono h.mono h'.mono ha.mono hb.mono hc.mono, PE.weak (pe_chain h.run h'.run ha.run hb.run hc.run hm) fun _ _ _ q => lift_chain h.mono h'.mono ha.mono hb.mono hc.mono q⟩
theorem dt_chain {op op' : CmpOp} {g g' : G2} {c : Expr} {tc : DT} (h : DOp Z X (compareOp op) g) (h' : DOp Z X (compareOp op') g') (ha : DE Z X a ta) (hb : DE Z X b tb) (hc : DE Z X c tc)
    (hm : lastMarks [op, op'] [b, c] = false := by rfl) : DTs Z X (.Compare a [op, op'] [b, c] pos) (dTst (dChain g g' ta tb tc)) :=
  ⟨dTst_mono (dChain_mono h.mono h'.mono ha.mono hb.mono hc.mono), PT.weak (pt_chain h.run h'.run ha.run hb.run hc.run hm) fun _ _ _ q =>
    lift_tst (dChain_mono h.mono h'.mono ha.mono hb.mono hc.mono) (fun _ _ _ q => lift_chain h.mono h'.mono ha.mono hb.mono hc.mono q) q⟩

/-! ### argument lists, displays -/
def dNil : DA := fun _ Q => Q []
def dCons (ta : DT) (tr : DA) : DA := fun ρ Q => ta ρ fun x => tr ρ fun xs => Q (x :: xs)
theorem da_nil : DAs Z X [] dNil := ⟨fun _ _ _ _ hq q => hq _ _ q, PA.weak pa_nil fun σ H Q q => by
  obtain ⟨W, ρ, S, q⟩ := q
  exact q [] W H (Fr0.refl S.same S.box) rfl RepL.nil⟩
theorem da_cons {tr : DA} (ha : DE Z X e te) (hr : DAs Z X es tr) (hs : starEach (e :: es) X.env = (false, eval e X.env) :: starEach es X.env := by rfl) : DAs Z X (e :: es) (dCons te tr) := by
  refine ⟨fun ρ Q Q' n hq q => ha.mono ρ _ _ _ (fun x n q => hr.mono ρ _ _ _ (fun xs n q => hq _ _ q) q) q, PA.weak (pa_cons ha.run hr.run hs) fun σ H Q q => ?_⟩
  obtain ⟨W, ρ, S, q⟩ := q
  refine ⟨W, ρ, S, ha.mono ρ _ _ _ (fun x n q v W1 H1 f1 c1 r1 => ?_) q⟩
  refine ⟨W1, ρ, S.step f1, hr.mono ρ _ _ _ (fun xs n q vs W2 H2 f2 c2 r2 => ?_) (c1 ▸ q)⟩
  exact q _ W2 H2 (f1.trans f2) c2 (RepL.cons (Rep.mono f2.le _ _ r1) r2)
def dTup (t : DA) : DT := fun ρ Q => t ρ fun xs n => xs.length ≤ sizeLine ∧ Q (.tup xs) n
def dLst (t : DA) : DT := fun ρ Q => t ρ fun xs n => xs.length ≤ sizeLine ∧ Q (.lst xs) n
theorem de_tup {t : DA} {x1} (h : DAs Z X es t) : DE Z X (.Tuple es x1 pos) (dTup t) := by
  refine ⟨fun ρ Q Q' n hq q => h.mono ρ _ _ _ (fun xs n q => ⟨q.1, hq _ _ q.2⟩) q, PE.weak (pe_tup h.run) fun σ H Q q => ?_⟩
  obtain ⟨W, ρ, S, q⟩ := q
  refine ⟨W, ρ, S, h.mono ρ _ _ _ (fun xs n q vs W1 H1 f1 c1 r1 => ⟨by rw [← r1.length]; exact q.1, fun p n => ?_⟩) q⟩
  exact q.2 _ _ _ (f1.trans (Fr0.new f1.sub f1.box n)) c1 (rep_newT n f1.sub r1)
theorem de_lst {t : DA} (h : DAs Z X es t) : DE Z X (.List es pos) (dLst t) := by
  refine ⟨fun ρ Q Q' n hq q => h.mono ρ _ _ _ (fun xs n q => ⟨q.1, hq _ _ q.2⟩) q, PE.weak (pe_lst h.run) fun σ H Q q => ?_⟩
  obtain ⟨W, ρ, S, q⟩ := q
  refine ⟨W, ρ, S, h.mono ρ _ _ _ (fun xs n q vs W1 H1 f1 c1 r1 => ⟨by rw [← r1.length]; exact q.1, fun p n => ?_⟩) q⟩
  exact q.2 _ _ _ (f1.trans (Fr0.new f1.sub f1.box n)) c1 (rep_newL n f1.sub r1)

/-! ### built-ins by name -/
theorem de_callB {id : String} {g : GN} {x : Str} {t : DA} (hc : DCall Z X (.builtin id) g) (hm : X.mg x = none) (hv : bootBuiltins x = some (.builtin id)) (ha : DAs Z X (e :: es) t) (hg : Gl X x := by rfl) (hn : x ≠ "__name__" := by decide) (hdb : (x == ("__debug__" : Str)) = false := by decide)
    (he : starEach (e :: es) X.env = (false, eval e X.env) :: starEach es X.env := by rfl) (hpl : (backTo pos (starEach es X.env)).any (·.1) = false := by rfl) : DE Z X (.Call (.Name x p) (e :: es) [] pos) (dApp g t) :=
  ⟨dApp_mono hc.mono ha.mono, PE.weak (pe_callB hc.run hg hm hv ha.run hn hdb he hpl) fun _ _ _ q => lift_app hc.mono ha.mono q⟩
theorem de_callT {T : String} {g : GN} {x : Str} {t : DA} (hc : DCall Z X (.type T) g) (hm : X.mg x = none) (hv : bootBuiltins x = some (.type T)) (ha : DAs Z X (e :: es) t) (hg : Gl X x := by rfl) (hn : x ≠ "__name__" := by decide) (hdb : (x == ("__debug__" : Str)) = false := by decide)
    (he : starEach (e :: es) X.env = (false, eval e X.env) :: starEach es X.env := by rfl) (hpl : (backTo pos (starEach es X.env)).any (·.1) = false := by rfl) : DE Z X (.Call (.Name x p) (e :: es) [] pos) (dApp g t) :=
  ⟨dApp_mono hc.mono ha.mono, PE.weak (pe_callTy hc.run hg hm hv ha.run hn hdb he hpl) fun _ _ _ q => lift_app hc.mono ha.mono q⟩
/-- of one value -/
def gN1 (g : G1) : GN := fun xs Q n => match xs with
  | [x] => g x Q n
  | _ => False
def gN2 (g : G2) : GN := fun xs Q n => match xs with
  | [x, y] => g x y Q n
  | _ => False
theorem gN1_mono {g : G1} (h : MonoG1 g) : MonoGN (gN1 g) := fun xs Q Q' n hq q => by
  match xs, q with
  | [x], q => exact h x Q Q' n hq q
theorem gN2_mono {g : G2} (h : MonoG2 g) : MonoGN (gN2 g) := fun xs Q Q' n hq q => by
  match xs, q with
  | [x, y], q => exact h x y Q Q' n hq q
theorem RepL.one {x : PV} {vs : List V} (r : RepL P K W [x] vs) : ∃ v, vs = [v] ∧ Rep P K W x v := by
  simp only [RepL] at r
  obtain ⟨y, zs, e, a, b⟩ := r
  exact ⟨y, by rw [e, b], a⟩
theorem RepL.two {x y : PV} {vs : List V} (r : RepL P K W [x, y] vs) : ∃ v w, vs = [v, w] ∧ Rep P K W x v ∧ Rep P K W y w := by
  simp only [RepL] at r
  obtain ⟨v, zs, e, a, w, zs', e', b, e2⟩ := r
  exact ⟨v, w, by rw [e, e', e2], a, b⟩
theorem dcall1 {f : Value} {g : G1} {r : List V → Hp → VK → Prop} (hg : MonoG1 g) (h : CallR X f r) (w : ∀ W H v x Q, Same W.F H → BoxOk Z.P W H → Rep Z.P X.K W x v → g x (Tell Z.P X.K W H Q) W.c → r [v] H Q) : DCall Z X f (gN1 g) := by
  refine ⟨gN1_mono hg, fun pins s σ H xs us Q I rx q => ?_⟩
  obtain ⟨W, ps, s1, b1, r1, q⟩ := q
  match ps, r1, q with
  | [x], r1, q =>
    obtain ⟨v, rfl, r2⟩ := r1.one
    exact h pins s σ H _ us Q I rx (w W H v x Q s1 b1 r2 q)
theorem dcall2 {f : Value} {g : G2} {r : List V → Hp → VK → Prop} (hg : MonoG2 g) (h : CallR X f r) (w : ∀ W H v u x y Q, Same W.F H → BoxOk Z.P W H → Rep Z.P X.K W x v → Rep Z.P X.K W y u → g x y (Tell Z.P X.K W H Q) W.c → r [v, u] H Q) : DCall Z X f (gN2 g) := by
  refine ⟨gN2_mono hg, fun pins s σ H xs us Q I rx q => ?_⟩
  obtain ⟨W, ps, s1, b1, r1, q⟩ := q
  match ps, r1, q with
  | [x, y], r1, q =>
    obtain ⟨v, u, rfl, r3, r2⟩ := r1.two
    exact h pins s σ H _ us Q I rx (w W H v u x y Q s1 b1 r3 r2 q)
def gLen : G1 := fun x Q n => match x with
  | .tup xs => Q (.int xs.length) n
  | .lst xs => Q (.int xs.length) n
  | .scr xs => Q (.int xs.length) n
  | .str s => s.length ≤ sizeLine ∧ Q (.int s.length) n
  | _ => False
theorem dc_len : DCall Z X (.builtin "len") (gN1 gLen) := by
  refine dcall1 (fun x Q Q' n hq h => ?_) call_len fun W H v x Q s1 b1 r q => ?_
  · cases x <;> first | exact h.elim | exact hq _ _ h | exact ⟨h.1, hq _ _ h.2⟩
  · cases x <;> first | exact q.elim | skip
    · rename_i i
      rw [rep_str] at r; subst r
      exact ⟨_, _, rfl, ⟨q.1, rfl⟩, Tell.now q.2 s1 b1 (rep_int.2 rfl)⟩
    · rename_i xs
      rw [rep_tup] at r
      obtain ⟨a, ys, rfl, h1, l⟩ := r
      exact ⟨_, _, rfl, Or.inr ⟨ys, sqT_same s1 h1, l.length⟩, Tell.now q s1 b1 (rep_int.2 rfl)⟩
    · rename_i xs
      rw [rep_lst] at r
      obtain ⟨a, ys, rfl, h1, l⟩ := r
      exact ⟨_, _, rfl, Or.inl ⟨ys, SqL.of (s1 _ _ h1), l.length⟩, Tell.now q s1 b1 (rep_int.2 rfl)⟩
    · rename_i xs
      rw [rep_scr] at r
      obtain ⟨a, ys, rfl, h1, l⟩ := r
      exact ⟨_, _, rfl, Or.inl ⟨ys, sqL_same s1 h1, l.length⟩, Tell.now q s1 b1 (rep_int.2 rfl)⟩
def gInt : G1 := fun x Q n => match x with
  | .int i => Q (.int i) n
  | .bl b => Q (.int (if b then 1 else 0)) n
  | _ => False
theorem dc_int : DCall Z X (.type "int") (gN1 gInt) := by
  refine dcall1 (fun x Q Q' n hq h => ?_) call_int1 fun W H v x Q s1 b1 r q => ?_
  · cases x <;> first | exact h.elim | exact hq _ _ h
  · cases x <;> first | exact q.elim | skip
    · rw [rep_bl] at r; subst r
      exact Or.inr ⟨_, rfl, Tell.now q s1 b1 (rep_int.2 rfl)⟩
    · rw [rep_int] at r; subst r
      exact Or.inl ⟨_, rfl, Tell.now q s1 b1 (rep_int.2 rfl)⟩
def gBool : G1 := fun x Q n => match x with
  | .int i => Q (.bl (i != 0)) n
  | .bl b => Q (.bl b) n
  | _ => False
theorem dc_bool : DCall Z X (.type "bool") (gN1 gBool) := by
  refine dcall1 (fun x Q Q' n hq h => ?_) call_bool1 fun W H v x Q s1 b1 r q => ?_
  · cases x <;> first | exact h.elim | exact hq _ _ h
  · cases x <;> first | exact q.elim | skip
    · rw [rep_bl] at r; subst r
      exact Or.inr ⟨_, rfl, Tell.now q s1 b1 (rep_bl.2 rfl)⟩
    · rw [rep_int] at r; subst r
      exact Or.inl ⟨_, rfl, Tell.now q s1 b1 (rep_bl.2 rfl)⟩
def gList : G1 := fun x Q n => match x with
  | .tup xs => Q (.lst xs) n
  | .lst xs => Q (.lst xs) n
  | .scr xs => Q (.lst xs) n
  | _ => False
theorem dc_list : DCall Z X (.type "list") (gN1 gList) := by
  refine dcall1 (fun x Q Q' n hq h => ?_) call_list_of fun W H v x Q s1 b1 r q => ?_
  · cases x <;> first | exact h.elim | exact hq _ _ h
  · cases x <;> first | exact q.elim | skip
    · rw [rep_tup] at r
      obtain ⟨a, ys, rfl, h1, l⟩ := r
      exact ⟨a, ys, rfl, Or.inr (sqT_same s1 h1), Tell.fresh q s1 b1 fun p n => rep_newL n s1 l⟩
    · rw [rep_lst] at r
      obtain ⟨a, ys, rfl, h1, l⟩ := r
      exact ⟨a, ys, rfl, Or.inl (SqL.of (s1 _ _ h1)), Tell.fresh q s1 b1 fun p n => rep_newL n s1 l⟩
    · rw [rep_scr] at r
      obtain ⟨a, ys, rfl, h1, l⟩ := r
      exact ⟨a, ys, rfl, Or.inl (sqL_same s1 h1), Tell.fresh q s1 b1 fun p n => rep_newL n s1 l⟩
def gTuple : G1 := fun x Q n => match x with
  | .tup xs => Q (.tup xs) n
  | .lst xs => Q (.tup xs) n
  | .scr xs => Q (.tup xs) n
  | _ => False
theorem dc_tuple : DCall Z X (.type "tuple") (gN1 gTuple) := by
  refine dcall1 (fun x Q Q' n hq h => ?_) call_tuple_of fun W H v x Q s1 b1 r q => ?_
  · cases x <;> first | exact h.elim | exact hq _ _ h
  · cases x <;> first | exact q.elim | skip
    · rw [rep_tup] at r
      obtain ⟨a, ys, rfl, h1, l⟩ := r
      exact ⟨a, ys, rfl, Or.inr ⟨sqT_same s1 h1, Tell.now q s1 b1 (rep_tup.2 ⟨a, ys, rfl, h1, l⟩)⟩⟩
    · rw [rep_lst] at r
      obtain ⟨a, ys, rfl, h1, l⟩ := r
      exact ⟨a, ys, rfl, Or.inl ⟨SqL.of (s1 _ _ h1), Tell.fresh q s1 b1 fun p n => rep_newT n s1 l⟩⟩
    · rw [rep_scr] at r
      obtain ⟨a, ys, rfl, h1, l⟩ := r
      exact ⟨a, ys, rfl, Or.inl ⟨sqL_same s1 h1, Tell.fresh q s1 b1 fun p n => rep_newT n s1 l⟩⟩
def gMax2 : G2 := gII TT2 fun i j => .int (if j > i then j else i)
def gMin2 : G2 := gII TT2 fun i j => .int (if j < i then j else i)
theorem dc_max2 (hc : X.calm = true) : DCall Z X (.builtin "max") (gN2 gMax2) := by
  refine dcall2 gII_mono (call_max2 hc) fun W H v u x y Q s1 b1 r1 r2 q => ?_
  cases x <;> cases y <;> first | exact q.elim | skip
  rw [rep_int] at r1 r2; subst r1; subst r2
  exact ⟨_, _, rfl, Tell.now q.2 s1 b1 (rep_int.2 rfl)⟩
theorem dc_min2 (hc : X.calm = true) : DCall Z X (.builtin "min") (gN2 gMin2) := by
  refine dcall2 gII_mono (call_min2 hc) fun W H v u x y Q s1 b1 r1 r2 q => ?_
  cases x <;> cases y <;> first | exact q.elim | skip
  rw [rep_int] at r1 r2; subst r1; subst r2
  exact ⟨_, _, rfl, Tell.now q.2 s1 b1 (rep_int.2 rfl)⟩
/-- lists of ints, of bools -/
def ints? : List PV → Option (List Int)
  | [] => some []
  | .int i :: xs => (ints? xs).map (i :: ·)
  | _ => none
def bls? : List PV → Option (List Bool)
  | [] => some []
  | .bl i :: xs => (bls? xs).map (i :: ·)
  | _ => none
theorem ints?_map : ∀ ns : List Int, ints? (ns.map .int) = some ns
  | [] => rfl
  | n :: ns => by simp [ints?, ints?_map ns]
theorem bls?_map : ∀ ns : List Bool, bls? (ns.map .bl) = some ns
  | [] => rfl
  | n :: ns => by simp [bls?, bls?_map ns]
theorem ints?_rep : ∀ {xs : List PV} {ns : List Int} {vs : List V}, ints? xs = some ns → RepL P K W xs vs → vs = ns.map V.int
  | [], ns, vs, e, r => by
    simp only [RepL] at r
    cases e
    exact r
  | x :: xs, ns, vs, e, r => by
    cases x <;> first | (cases e; done) | skip
    rename_i i
    simp only [ints?, Option.map_eq_some_iff] at e
    obtain ⟨ms, e, rfl⟩ := e
    simp only [RepL] at r
    obtain ⟨y, zs, rfl, a, b⟩ := r
    rw [rep_int] at a
    rw [a, ints?_rep e b]
    rfl
theorem bls?_rep : ∀ {xs : List PV} {ns : List Bool} {vs : List V}, bls? xs = some ns → RepL P K W xs vs → vs = ns.map V.bl
  | [], ns, vs, e, r => by
    simp only [RepL] at r
    cases e
    exact r
  | x :: xs, ns, vs, e, r => by
    cases x <;> first | (cases e; done) | skip
    rename_i i
    simp only [bls?, Option.map_eq_some_iff] at e
    obtain ⟨ms, e, rfl⟩ := e
    simp only [RepL] at r
    obtain ⟨y, zs, rfl, a, b⟩ := r
    rw [rep_bl] at a
    rw [a, bls?_rep e b]
    rfl
def gSum : G1 := fun x Q n => match x with
  | .lst xs => ∃ ns, ints? xs = some ns ∧ Q (.int ns.sum) n
  | .scr xs => ∃ ns, ints? xs = some ns ∧ Q (.int ns.sum) n
  | _ => False
theorem dc_sum (hc : X.calm = true) : DCall Z X (.builtin "sum") (gN1 gSum) := by
  refine dcall1 (fun x Q Q' n hq h => ?_) (cr_sum hc) fun W H v x Q s1 b1 r q => ?_
  · cases x <;> first | exact h.elim | exact let ⟨ns, e, q⟩ := h; ⟨ns, e, hq _ _ q⟩
  · cases x <;> first | exact q.elim | skip
    · rw [rep_lst] at r
      obtain ⟨a, ys, rfl, h1, l⟩ := r
      obtain ⟨ns, e, q⟩ := q
      exact ⟨a, ns, rfl, by rw [← ints?_rep e l]; exact SqL.of (s1 _ _ h1), Tell.now q s1 b1 (rep_int.2 rfl)⟩
    · rw [rep_scr] at r
      obtain ⟨a, ys, rfl, h1, l⟩ := r
      obtain ⟨ns, e, q⟩ := q
      exact ⟨a, ns, rfl, by rw [← ints?_rep e l]; exact sqL_same s1 h1, Tell.now q s1 b1 (rep_int.2 rfl)⟩
def gAll : G1 := fun x Q n => match x with
  | .lst xs => ∃ ns, bls? xs = some ns ∧ Q (.bl (ns.all id)) n
  | _ => False
def gAny : G1 := fun x Q n => match x with
  | .lst xs => ∃ ns, bls? xs = some ns ∧ Q (.bl (ns.any id)) n
  | _ => False
theorem dc_all (hc : X.calm = true) : DCall Z X (.builtin "all") (gN1 gAll) := by
  refine dcall1 (fun x Q Q' n hq h => ?_) (cr_all hc) fun W H v x Q s1 b1 r q => ?_
  · cases x <;> first | exact h.elim | exact let ⟨ns, e, q⟩ := h; ⟨ns, e, hq _ _ q⟩
  · cases x <;> first | exact q.elim | skip
    rw [rep_lst] at r
    obtain ⟨a, ys, rfl, h1, l⟩ := r
    obtain ⟨ns, e, q⟩ := q
    exact ⟨a, ns, rfl, by rw [← bls?_rep e l]; exact SqL.of (s1 _ _ h1), Tell.now q s1 b1 (rep_bl.2 rfl)⟩
theorem dc_any (hc : X.calm = true) : DCall Z X (.builtin "any") (gN1 gAny) := by
  refine dcall1 (fun x Q Q' n hq h => ?_) (cr_any hc) fun W H v x Q s1 b1 r q => ?_
  · cases x <;> first | exact h.elim | exact let ⟨ns, e, q⟩ := h; ⟨ns, e, hq _ _ q⟩
  · cases x <;> first | exact q.elim | skip
    rw [rep_lst] at r
    obtain ⟨a, ys, rfl, h1, l⟩ := r
    obtain ⟨ns, e, q⟩ := q
    exact ⟨a, ns, rfl, by rw [← bls?_rep e l]; exact SqL.of (s1 _ _ h1), Tell.now q s1 b1 (rep_bl.2 rfl)⟩

/-! ### subscripts -/
def gIx : G2 := fun x y Q n => match x, y with
  | .tup xs, .int i => ∃ v, atI xs i = some v ∧ Q v n
  | .lst xs, .int i => ∃ v, atI xs i = some v ∧ Q v n
  | .scr xs, .int i => ∃ v, atI xs i = some v ∧ Q v n
  | .str z, .int i => z.length ≤ sizeLine ∧ ∃ c, atI z.cps.toList i = some c ∧ Q (.str ⟨#[c]⟩) n
  | _, _ => False
theorem RepL.atI {xs : List PV} {vs : List V} {i : Int} {p : PV} (l : RepL P K W xs vs) (h : L2.atI xs i = some p) : ∃ v, L2.atI vs i = some v ∧ Rep P K W p v := by
  unfold L2.atI at h ⊢
  rw [← l.length]
  cases e : ixN xs.length i with
  | none => rw [e] at h; cases h
  | some j =>
    rw [e, Option.bind_some] at h
    obtain ⟨v, h2, r⟩ := l.get h
    exact ⟨v, by rw [Option.bind_some]; exact h2, r⟩
theorem gIx_mono : MonoG2 gIx := fun x y Q Q' n hq h => by
  cases x <;> cases y <;> first | exact h.elim | exact let ⟨v, e, q⟩ := h; ⟨v, e, hq _ _ q⟩ | exact let ⟨z, v, e, q⟩ := h; ⟨z, v, e, hq _ _ q⟩
theorem ix_all : IxR X (r2Of Z.P X.K gIx) := by
  intro va sl pins s σ H x y u v Q I rx ry q hsub
  obtain ⟨W, p, r, s1, b1, r1, r2, q⟩ := q
  cases p <;> cases r <;> first | exact q.elim | skip
  all_goals rw [rep_int] at r2; subst r2
  · rw [rep_str] at r1; subst r1
    obtain ⟨hz, c, e, q⟩ := q
    refine ix_str va sl pins s σ H _ _ u v Q I rx ry ?_ hsub; exact ⟨_, _, c, rfl, rfl, hz, e, Tell.now q s1 b1 (rep_str.2 rfl)⟩
  · rw [rep_tup] at r1
    obtain ⟨a, ys, rfl, h1, l⟩ := r1
    obtain ⟨p, e, q⟩ := q
    obtain ⟨w, e2, r⟩ := l.atI e
    refine ix_tup va sl pins s σ H _ _ u v Q I rx ry ?_ hsub; exact ⟨a, ys, _, w, rfl, rfl, sqT_same s1 h1, e2, Tell.now q s1 b1 r⟩
  · rw [rep_lst] at r1
    obtain ⟨a, ys, rfl, h1, l⟩ := r1
    obtain ⟨p, e, q⟩ := q
    obtain ⟨w, e2, r⟩ := l.atI e
    refine ix_list va sl pins s σ H _ _ u v Q I rx ry ?_ hsub; exact ⟨a, ys, _, w, rfl, rfl, SqL.of (s1 _ _ h1), e2, Tell.now q s1 b1 r⟩
  · rw [rep_scr] at r1
    obtain ⟨a, ys, rfl, h1, l⟩ := r1
    obtain ⟨p, e, q⟩ := q
    obtain ⟨w, e2, r⟩ := l.atI e
    refine ix_list va sl pins s σ H _ _ u v Q I rx ry ?_ hsub; exact ⟨a, ys, _, w, rfl, rfl, sqL_same s1 h1, e2, Tell.now q s1 b1 r⟩
theorem de_ix (ha : DE Z X a ta) (hb : DE Z X b tb) (hs : PlainIx b := by exact fun _ _ => rfl) : DE Z X (.Subscript a b pos) (dBin gIx ta tb) :=
  ⟨dBin_mono gIx_mono ha.mono hb.mono, PE.weak (pe_ix ix_all ha.run hb.run hs) fun _ _ _ q => lift_bin gIx_mono ha.mono hb.mono q⟩
/-- slices -/
abbrev DO := Rho → (Option Int → Pd) → Pd
structure DPo (Z : Cz) (X : Cx) (e : Option Expr) (t : DO) : Prop where
  mono : MonoT t
  run : PO X e fun σ H Q => ∃ W ρ, SR Z.P X.K Z.H0 Z.W0 W σ H ρ ∧ t ρ (fun i n => ∀ W' H', Fr0 Z.P H W W' H' → W'.c = n → Q i H') W.c
def dNoP : DO := fun _ Q => Q none
def dP (te : DT) : DO := fun ρ Q => te ρ fun x n => match x with
  | .int i => Q (some i) n
  | _ => False
theorem PO.weak {e : Option Expr} {t t' : TO} (h : PO X e t) (w : ∀ σ H Q, t' σ H Q → t σ H Q) : PO X e t' := ⟨fun pins s σ H Q I q => h.run pins s σ H Q I (w σ H Q q)⟩
theorem dp_none : DPo Z X none dNoP := ⟨fun _ _ _ _ hq q => hq _ _ q, PO.weak po_none fun σ H Q q => by
  obtain ⟨W, ρ, S, q⟩ := q
  exact q W H (Fr0.refl S.same S.box) rfl⟩
theorem dp_some (h : DE Z X e te) : DPo Z X (some e) (dP te) := by
  refine ⟨fun ρ Q Q' n hq q => h.mono ρ _ _ _ (fun x n q => by cases x <;> first | exact q.elim | exact hq _ _ q) q, PO.weak (po_some h.run) fun σ H Q q => ?_⟩
  obtain ⟨W, ρ, S, q⟩ := q
  refine ⟨W, ρ, S, h.mono ρ _ _ _ (fun x n q v W1 H1 f1 c1 r1 => ?_) q⟩
  cases x <;> first | exact q.elim | skip
  rw [rep_int] at r1
  exact ⟨_, r1, q W1 H1 f1 c1⟩
def cutP {α : Type} (xs : List α) (lo hi : Option Int) : List α := (xs.drop (HT.sIx xs.length 0 lo)).take (HT.sIx xs.length xs.length hi - HT.sIx xs.length 0 lo)
theorem RepL.cut {xs : List PV} {vs : List V} (l : RepL P K W xs vs) (lo hi : Option Int) : RepL P K W (cutP xs lo hi) (cutV vs lo hi) := by
  unfold cutP cutV
  rw [l.length]
  exact (l.drop _).take _
def gSl (x : PV) (lo hi : Option Int) (Q : PV → Pd) : Pd := fun n => match x with
  | .tup xs => Q (.tup (cutP xs lo hi)) n
  | .lst xs => Q (.lst (cutP xs lo hi)) n
  | .scr xs => Q (.lst (cutP xs lo hi)) n
  | .str z => z.length ≤ sizeLine ∧ Q (.str (cutS z lo hi)) n
  | _ => False
theorem gSl_mono (x : PV) (lo hi : Option Int) (Q Q' : PV → Pd) (n : Nat) (hq : ∀ p n, Q p n → Q' p n) (h : gSl x lo hi Q n) : gSl x lo hi Q' n := by
  cases x <;> first | exact h.elim | exact hq _ _ h | exact ⟨h.1, hq _ _ h.2⟩
def rSlOf (P : Par) (K : PySem.W.Frag) : V → Option Int → Option Int → Hp → VK → Prop := fun v lo hi H Q => ∃ W x, Same W.F H ∧ BoxOk P W H ∧ Rep P K W x v ∧ gSl x lo hi (Tell P K W H Q) W.c
theorem cutP_all {α : Type} {xs : List α} {lo hi : Option Int} (h : HT.sIx xs.length 0 lo = 0 ∧ HT.sIx xs.length xs.length hi = xs.length) : cutP xs lo hi = xs := by
  unfold cutP
  rw [h.1, h.2, List.drop_zero, Nat.sub_zero, List.take_length]
theorem sl_all : SlR X (rSlOf Z.P X.K) := by
  intro pins s σ H x v vl vu lo hi sl Q I rx hs pl pu q
  obtain ⟨W, p, s1, b1, r1, q⟩ := q
  cases p <;> first | exact q.elim | skip
  · rw [rep_str] at r1; subst r1
    exact sl_str pins s σ H _ v vl vu lo hi sl Q I rx hs pl pu ⟨_, rfl, q.1, Tell.now q.2 s1 b1 (rep_str.2 rfl)⟩
  · rw [rep_tup] at r1
    obtain ⟨a, ys, rfl, h1, l⟩ := r1
    refine sl_tupA pins s σ H _ v vl vu lo hi sl Q I rx hs pl pu ⟨a, ys, rfl, sqT_same s1 h1, fun hw => ?_, fun hw => ?_⟩
    · rw [← l.length] at hw
      have q' : Tell Z.P X.K W H Q (.tup (cutP _ lo hi)) W.c := q
      rw [cutP_all hw] at q'
      exact Tell.now q' s1 b1 (rep_tup.2 ⟨a, ys, rfl, h1, l⟩)
    · exact Tell.fresh q s1 b1 fun p n => rep_newT n s1 (l.cut lo hi)
  · rw [rep_lst] at r1
    obtain ⟨a, ys, rfl, h1, l⟩ := r1
    exact sl_list pins s σ H _ v vl vu lo hi sl Q I rx hs pl pu ⟨a, ys, rfl, SqL.of (s1 _ _ h1), Tell.fresh q s1 b1 fun p n => rep_newL n s1 (l.cut lo hi)⟩
  · rw [rep_scr] at r1
    obtain ⟨a, ys, rfl, h1, l⟩ := r1
    exact sl_list pins s σ H _ v vl vu lo hi sl Q I rx hs pl pu ⟨a, ys, rfl, sqL_same s1 h1, Tell.fresh q s1 b1 fun p n => rep_newL n s1 (l.cut lo hi)⟩
def dSl (te : DT) (tl th : DO) : DT := fun ρ Q => te ρ fun x => tl ρ fun l => th ρ fun u => gSl x l u Q
theorem de_slice {lo hi : Option Expr} {tl th : DO} (he : DE Z X e te) (hl : DPo Z X lo tl) (hu : DPo Z X hi th) : DE Z X (.Subscript e (.Slice lo hi none p2) pos) (dSl te tl th) := by
  refine ⟨fun ρ Q Q' n hq q => he.mono ρ _ _ _ (fun x n q => hl.mono ρ _ _ _ (fun l n q => hu.mono ρ _ _ _ (fun u n q => gSl_mono x l u _ _ _ hq q) q) q) q, PE.weak (pe_slice (sl_all (Z := Z)) he.run hl.run hu.run) fun σ H Q q => ?_⟩
  obtain ⟨W, ρ, S, q⟩ := q
  refine ⟨W, ρ, S, he.mono ρ _ _ _ (fun x n q v W1 H1 f1 c1 r1 => ?_) q⟩
  refine ⟨W1, ρ, S.step f1, hl.mono ρ _ _ _ (fun l n q W2 H2 f2 c2 => ?_) (c1 ▸ q)⟩
  refine ⟨W2, ρ, (S.step f1).step f2, hu.mono ρ _ _ _ (fun u n q W3 H3 f3 c3 => ?_) (c2 ▸ q)⟩
  exact ⟨W3, x, f3.sub, f3.box, Rep.mono (f2.le.trans f3.le) _ _ r1, gSl_mono x l u _ _ _ (fun p n q v W4 H4 f4 c4 r4 => q v W4 H4 ((f1.trans f2).trans (f3.trans f4)) c4 r4) (c3 ▸ q)⟩

/-! ### fields -/
def idx (f : Str) : List Str → Option Nat
  | [] => none
  | g :: gs => if f = g then some 0 else (idx f gs).map (· + 1)
theorem idx_lookup : ∀ {gs : List (Str × V)} {f : Str} {i : Nat} {v : V}, idx f (gs.map (·.1)) = some i → (gs.map (·.2))[i]? = some v → gs.lookup f = some v
  | [], _, _, _, e, _ => by simp [idx] at e
  | (g, w) :: gs, f, i, v, e, h => by
    simp only [List.map_cons, idx] at e
    by_cases c : f = g
    · rw [if_pos c] at e
      cases e
      simp only [List.map_cons, List.getElem?_cons_zero, Option.some.injEq] at h
      subst c; subst h
      simp [List.lookup]
    · rw [if_neg c] at e
      obtain ⟨j, e2, rfl⟩ := Option.map_eq_some_iff.1 e
      have c' : (f == g) = false := by simpa using c
      simp only [List.map_cons, List.getElem?_cons_succ] at h
      simp only [List.lookup, c']
      exact idx_lookup e2 h
/-- classes whose fields are read plainly -/
def gFld (fn : Nat → List Str) (ok : Nat → Prop) (f : Str) : G1 := fun x Q n => match x with
  | .ins c vs => ok c ∧ ∃ i v, idx f (fn c) = some i ∧ vs[i]? = some v ∧ Q v n
  | _ => False
theorem gFld_mono {fn : Nat → List Str} {ok : Nat → Prop} {f : Str} : MonoG1 (gFld fn ok f) := fun x Q Q' n hq h => by
  cases x <;> first | exact h.elim | exact let ⟨o, i, v, e, e2, q⟩ := h; ⟨o, i, v, e, e2, hq _ _ q⟩
theorem de_fld {ok : Nat → Prop} {f : Str} (he : DE Z X e te) (hok : ∀ c, ok c → Cls X.K (Z.P.cm c) ∧ NoAttr X.K (Z.P.cm c) f) (hb : attributeBase e f X.env (eval e X.env) = eval e X.env := by rfl) : DE Z X (.Attribute e f pos) (dUn (gFld Z.P.fn ok f) te) := by
  refine ⟨dUn_mono gFld_mono he.mono, PE.weak (pe_fld he.run hb) fun σ H Q q => ?_⟩
  obtain ⟨W, ρ, S, q⟩ := q
  refine ⟨W, ρ, S, he.mono ρ _ _ _ (fun x n q v W1 H1 f1 c1 r1 => ?_) q⟩
  cases x <;> first | exact q.elim | skip
  obtain ⟨o, i, p, e1, e2, q⟩ := q
  rw [rep_ins] at r1
  obtain ⟨a, dx, gs, rfl, h1, n, l⟩ := r1
  obtain ⟨w, e3, r⟩ := l.get e2
  exact ⟨a, _, dx, gs, w, rfl, f1.sub _ _ h1, (hok _ o).1, (hok _ o).2, idx_lookup (by rw [n]; exact e1) e3, q w W1 H1 f1 c1 r⟩
end
end DL

set_option maxRecDepth 100000
set_option maxHeartbeats 1000000
/-! DLStmt: targets, statements, loops, lists of one's own -/
namespace DL
open PySem L2
structure DEnds where
  nx : Rho → Pd
  rt : PV → Pd
  bk : Rho → Pd
  ct : Rho → Pd
abbrev DSt := DEnds → Rho → Pd
structure DEnds.le (D D' : DEnds) : Prop where
  nx : ∀ ρ n, D.nx ρ n → D'.nx ρ n
  rt : ∀ p n, D.rt p n → D'.rt p n
  bk : ∀ ρ n, D.bk ρ n → D'.bk ρ n
  ct : ∀ ρ n, D.ct ρ n → D'.ct ρ n
theorem DEnds.le.refl (D : DEnds) : D.le D := ⟨fun _ _ h => h, fun _ _ h => h, fun _ _ h => h, fun _ _ h => h⟩
def MonoS (t : DSt) : Prop := ∀ D D' ρ n, DEnds.le D D' → t D ρ n → t D' ρ n

/-- what is wished behind, told of data -/
def upE (Z : Cz) (K : PySem.W.Frag) (W : Wd) (D : Ends) : DEnds where
  nx := fun ρ' n => ∀ W' σ' H', Wle W W' → W'.c = n → SR Z.P K Z.H0 Z.W0 W' σ' H' ρ' → D.nx σ' H'
  rt := fun p n => ∀ v W' H', Wle W W' → W'.c = n → Fr0 Z.P Z.H0 Z.W0 W' H' → Rep Z.P K W' p v → D.rt v H'
  bk := fun ρ' n => ∀ W' σ' H', Wle W W' → W'.c = n → SR Z.P K Z.H0 Z.W0 W' σ' H' ρ' → D.bk σ' H'
  ct := fun ρ' n => ∀ W' σ' H', Wle W W' → W'.c = n → SR Z.P K Z.H0 Z.W0 W' σ' H' ρ' → D.ct σ' H'
theorem upE_le {Z : Cz} {K : PySem.W.Frag} {W W' : Wd} {D : Ends} (h : Wle W W') : (upE Z K W D).le (upE Z K W' D) :=
  ⟨fun ρ n q W1 σ1 H1 l c s => q W1 σ1 H1 (h.trans l) c s, fun p n q v W1 H1 l c f r => q v W1 H1 (h.trans l) c f r, fun ρ n q W1 σ1 H1 l c s => q W1 σ1 H1 (h.trans l) c s, fun ρ n q W1 σ1 H1 l c s => q W1 σ1 H1 (h.trans l) c s⟩
def liftS (Z : Cz) (K : PySem.W.Frag) (t : DSt) : TS := fun D σ H => ∃ W ρ, SR Z.P K Z.H0 Z.W0 W σ H ρ ∧ t (upE Z K W D) ρ W.c
structure DS (Z : Cz) (X : Cx) (st : Stmt) (t : DSt) : Prop where
  mono : MonoS t
  run : PS X st (liftS Z X.K t)
structure DSs (Z : Cz) (X : Cx) (st : List Stmt) (t : DSt) : Prop where
  mono : MonoS t
  run : PSs X st (liftS Z X.K t)
/-- what a body stands in: exceptions go where Ex says -/
def RepX (P : Par) (K : PySem.W.Frag) (W : Wd) (H : Hp) (x : PX) (cls : Value) (d : Option Addr) : Prop :=
  cls = .ref (P.cm x.c) ∧ x.vs.length = (P.fn x.c).length ∧ ((x.vs = [] ∧ d = none) ∨ ∃ dd gs, d = some dd ∧ H dd = some (.xd gs) ∧ ∀ (i : Nat) (f : Str) (p : PV), (P.fn x.c)[i]? = some f → x.vs[i]? = some p → ∃ v, gs.lookup f = some v ∧ Rep P K W p v)
def exK (Z : Cz) (K : PySem.W.Frag) (Ex : PX → Pd) : XK := fun cls d H' => ∃ x W', Ex x W'.c ∧ Fr0 Z.P Z.H0 Z.W0 W' H' ∧ RepX Z.P K W' H' x cls d
structure DX (Z : Cz) (X : Cx) (Ex : PX → Pd) : Prop where
  hx : Passes (L2.CX X.prog X.w) X (exK Z X.K Ex)
  tk : Takes X (fun cls d _ H' => exK Z X.K Ex cls d H')
  po : PassesOwn (model X.prog X.w) X.A X.env X.xe
  calm : X.calm = true

section
variable {Z : Cz} {X : Cx} {P : Par} {K : PySem.W.Frag} {W : Wd} {H : Hp} {e a b o : Expr} {es : List Expr} {st : Stmt} {rest body : List Stmt} {pos p apos cpos p2 : Pos} {ta tb te : DT} {tc : DB} {t u : DSt} {Ex : PX → Pd} {H0 : Hp} {W0 : Wd} {σ : L2.St} {ρ : Rho}

/-! ### the state when a slot changes -/
theorem get_set_eq {α : Type} {l : List α} {i : Nat} {x y : α} (h : (l.set i x)[i]? = some y) : y = x ∧ i < l.length := by
  have hl : i < (l.set i x).length := (List.getElem?_eq_some_iff.mp h).1
  rw [List.length_set] at hl
  rw [List.getElem?_set_self hl] at h
  exact ⟨(Option.some.inj h).symm, hl⟩
theorem SR.setFz {i : Nat} {p : PV} {v : V} (S : SR P K H0 W0 W σ H ρ) (r : Rep P K W p v) : SR P K H0 W0 W (σ.set i (some v)) H (ρ.set i (.fz p)) := by
  refine ⟨S.fr, by rw [List.length_set, List.length_set]; exact S.len, fun j s h => ?_, fun j k s t a hj hk oj ok ej ek => ?_⟩
  · by_cases c : i = j
    · subst c
      obtain ⟨e, hl⟩ := get_set_eq h
      subst e
      exact ⟨v, by rw [List.getElem?_set_self (by rw [S.len]; exact hl)], r⟩
    · rw [List.getElem?_set_ne c] at h ⊢
      exact S.slots j s h
  · have nj : i ≠ j := fun c => by
      subst c
      obtain ⟨e, _⟩ := get_set_eq hj
      subst e; cases oj
    have nk : i ≠ k := fun c => by
      subst c
      obtain ⟨e, _⟩ := get_set_eq hk
      subst e; cases ok
    rw [List.getElem?_set_ne nj] at hj ej
    rw [List.getElem?_set_ne nk] at hk ek
    exact S.dist j k s t a hj hk oj ok ej ek
theorem SR.setOwn {i : Nat} {a : Addr} {xs : List PV} {ys : List V} (S : SR P K H0 W0 W σ H ρ) (h : H a = some (.lst ys)) (r : RepL P K W xs ys) (x : OwnA H0 W a)
    (n : ∀ (j : Nat) (s : Slot), ρ[j]? = some s → s.isOwn = true → σ[j]? ≠ some (some (.ref a))) : SR P K H0 W0 W (σ.set i (some (.ref a))) H (ρ.set i (.own xs)) := by
  refine ⟨S.fr, by rw [List.length_set, List.length_set]; exact S.len, fun j s h => ?_, fun j k s t b hj hk oj ok ej ek => ?_⟩
  · by_cases c : i = j
    · subst c
      obtain ⟨e, hl⟩ := get_set_eq h
      subst e
      exact ⟨a, ys, by rw [List.getElem?_set_self (by rw [S.len]; exact hl)], by assumption, r, x⟩
    · rw [List.getElem?_set_ne c] at h ⊢
      exact S.slots j s h
  · by_cases cj : i = j
    · subst cj
      by_cases ck : i = k
      · exact ck
      · rw [List.getElem?_set_ne ck] at hk ek
        obtain ⟨e, _⟩ := get_set_eq ej
        rw [Option.some.inj e] at ek
        exact absurd ek (n k t hk ok)
    · rw [List.getElem?_set_ne cj] at hj ej
      by_cases ck : i = k
      · subst ck
        obtain ⟨e, _⟩ := get_set_eq ek
        rw [Option.some.inj e] at ej
        exact absurd ej (n j s hj oj)
      · rw [List.getElem?_set_ne ck] at hk ek
        exact S.dist j k s t b hj hk oj ok ej ek
theorem SR.mut {i : Nat} {a : Addr} {o' : HO} {s s' : Slot} (S : SR P K H0 W0 W σ H ρ) (hi : ρ[i]? = some s) (ho : s.isOwn = true) (ha : σ[i]? = some (some (.ref a))) (x : OwnA H0 W a)
    (r : RepS P K H0 W (upd H a o') s' (some (some (.ref a)))) : SR P K H0 W0 W σ (upd H a o') (ρ.set i s') := by
  obtain ⟨x1, x2, x3⟩ := x
  refine ⟨⟨S.fr.le, fun b u h => ?_, fun b u h n => ?_, S.fr.freshF, S.fr.freshB, fun b k h => ?_⟩, by rw [List.length_set]; exact S.len, fun j t h => ?_, fun j k t t' b hj hk oj ok ej ek => ?_⟩
  · rw [upd_ne (ne_of_none h x2)]; exact S.fr.sub b u h
  · rw [upd_ne (ne_of_none h x1)]; exact S.fr.keep b u h n
  · obtain ⟨h1, u, h2, h3⟩ := S.fr.box b k h
    have nb : b ≠ a := fun c => by rw [c, x3] at h; cases h
    exact ⟨h1, u, by rw [upd_ne nb]; exact h2, h3⟩
  · by_cases c : i = j
    · subst c
      obtain ⟨e, _⟩ := get_set_eq h
      rw [e, ha]; exact r
    · rw [List.getElem?_set_ne c] at h
      have q := S.slots j t h
      cases t with
      | no => trivial
      | fz p => exact q
      | own xs =>
        obtain ⟨b, ys, e, hb, rl, xb⟩ := q
        have nb : b ≠ a := fun z => c (S.dist i j s _ a hi h ho rfl ha (by rw [e, z]))
        exact ⟨b, ys, e, by rw [upd_ne nb]; exact hb, rl, xb⟩
      | slf b cc vs =>
        obtain ⟨dx, gs, e, hb, rest⟩ := q
        have nb : b ≠ a := fun z => c (S.dist i j s _ a hi h ho rfl ha (by rw [e, z]))
        exact ⟨dx, gs, e, by rw [upd_ne nb]; exact hb, rest⟩
  · have old : ∀ (j : Nat) (t : Slot), (ρ.set i s')[j]? = some t → t.isOwn = true → ∃ t0, ρ[j]? = some t0 ∧ t0.isOwn = true := fun j t h h2 => by
      by_cases c : i = j
      · subst c; exact ⟨s, hi, ho⟩
      · rw [List.getElem?_set_ne c] at h; exact ⟨t, h, h2⟩
    obtain ⟨t0, h0, o0⟩ := old j t hj oj
    obtain ⟨t1, h1, o1⟩ := old k t' hk ok
    exact S.dist j k t0 t1 b h0 h1 o0 o1 ej ek
/-- a list of one's own is kept for good from here on -/
theorem SR.freeze {i : Nat} {xs : List PV} (S : SR P K H0 W0 W σ H ρ) (hi : ρ[i]? = some (.own xs)) : ∃ W', Wle W W' ∧ W'.B = W.B ∧ W'.c = W.c ∧ SR P K H0 W0 W' σ H (ρ.set i (.fz (.lst xs))) := by
  obtain ⟨a, ys, e, ha, r, x1, x2, x3⟩ := S.slots i _ hi
  have le : Wle W (W.add a (.lst ys)) := Wle.add x2
  refine ⟨W.add a (.lst ys), le, rfl, rfl, ⟨S.fr.le.trans le, fun b u h => ?_, S.fr.keep, fun b u h => ?_, S.fr.freshB, fun b k h => ?_⟩, by rw [List.length_set]; exact S.len, fun j t h => ?_, fun j k t t' b hj hk oj ok ej ek => ?_⟩
  · have h' : upd W.F a (.lst ys) b = some u := h
    by_cases c : b = a
    · subst c; rw [upd_same] at h'; rw [← h']; exact ha
    · rw [upd_ne c] at h'; exact S.fr.sub b u h'
  · have h' : upd W.F a (.lst ys) b = some u := h
    by_cases c : b = a
    · subst c; exact .inr x1
    · rw [upd_ne c] at h'; exact S.fr.freshF b u h'
  · obtain ⟨h1, u, h2, h3⟩ := S.fr.box b k h
    have nb : b ≠ a := fun c => by rw [c] at h; have h' : W.B a = some k := h; rw [x3] at h'; cases h'
    exact ⟨by show upd W.F a _ b = none; rw [upd_ne nb]; exact h1, u, h2, h3⟩
  · by_cases c : i = j
    · subst c
      obtain ⟨e2, _⟩ := get_set_eq h
      subst e2
      exact ⟨.ref a, e, rep_lst.2 ⟨a, ys, rfl, add_same, RepL.mono le _ _ r⟩⟩
    · rw [List.getElem?_set_ne c] at h
      have q := S.slots j t h
      cases t with
      | no => trivial
      | fz p => obtain ⟨v, e, r⟩ := q; exact ⟨v, e, Rep.mono le _ _ r⟩
      | own zs =>
        obtain ⟨b, ws, e2, hb, rl, y1, y2, y3⟩ := q
        have nb : b ≠ a := fun z => c (S.dist i j _ _ a hi h rfl rfl e (by rw [e2, z]))
        exact ⟨b, ws, e2, hb, RepL.mono le _ _ rl, y1, by show upd W.F a _ b = none; rw [upd_ne nb]; exact y2, y3⟩
      | slf b cc vs =>
        obtain ⟨dx, gs, e2, hb, n, l, rl, y1, y2, y3⟩ := q
        have nb : b ≠ a := fun z => c (S.dist i j _ _ a hi h rfl rfl e (by rw [e2, z]))
        exact ⟨dx, gs, e2, hb, n, l, RepL.mono le _ _ rl, y1, by show upd W.F a _ b = none; rw [upd_ne nb]; exact y2, y3⟩
  · have old : ∀ (j : Nat) (t : Slot), (ρ.set i (.fz (.lst xs)))[j]? = some t → t.isOwn = true → ρ[j]? = some t := fun j t h h2 => by
      by_cases c : i = j
      · subst c
        obtain ⟨e2, _⟩ := get_set_eq h
        subst e2; cases h2
      · rw [List.getElem?_set_ne c] at h; exact h
    exact S.dist j k t t' b (old j t hj oj) (old k t' hk ok) oj ok ej ek

/-! ### blocks -/
def dNext : DSt := fun D ρ => D.nx ρ
def dSeq (t u : DSt) : DSt := fun D ρ => t { D with nx := u D } ρ
theorem dSeq_mono (h1 : MonoS t) (h2 : MonoS u) : MonoS (dSeq t u) := fun D D' ρ n l q =>
  h1 { D with nx := u D } { D' with nx := u D' } ρ n ⟨fun ρ n q => h2 D D' ρ n l q, l.rt, l.bk, l.ct⟩ q
theorem dss_nil : DSs Z X [] dNext := ⟨fun D D' ρ n l q => l.nx ρ n q, PSs.weak pss_nil fun D σ H q => by
  obtain ⟨W, ρ, S, q⟩ := q
  exact q W σ H (Wle.refl _) rfl S⟩
theorem dss_cons (h1 : DS Z X st t) (h2 : DSs Z X rest u) : DSs Z X (st :: rest) (dSeq t u) := by
  refine ⟨dSeq_mono h1.mono h2.mono, PSs.weak (pss_cons h1.run h2.run) fun D σ H q => ?_⟩
  obtain ⟨W, ρ, S, q⟩ := q
  refine ⟨W, ρ, S, h1.mono { upE Z X.K W D with nx := u (upE Z X.K W D) } _ ρ _ ⟨fun ρ' n q W' σ' H' l c s => ⟨W', ρ', s, h2.mono _ _ ρ' _ (upE_le l) (c ▸ q)⟩, fun _ _ h => h, fun _ _ h => h, fun _ _ h => h⟩ q⟩
theorem dss_one (h1 : DS Z X st t) : DSs Z X [st] t := ⟨h1.mono, pss_one h1.run⟩
/-- freeze slot i ahead of a statement -/
def dFrz (i : Nat) (t : DSt) : DSt := fun D ρ n => match ρ[i]? with
  | some (.own xs) => t D (ρ.set i (.fz (.lst xs))) n
  | _ => t D ρ n
theorem dFrz_mono {i : Nat} (h : MonoS t) : MonoS (dFrz i t) := fun D D' ρ n l q => by
  unfold dFrz at q ⊢
  split at q <;> exact h D D' _ n l q
theorem lift_frz {i : Nat} (h : MonoS t) {D : Ends} (q : liftS Z K (dFrz i t) D σ H) : liftS Z K t D σ H := by
  obtain ⟨W, ρ, S, q⟩ := q
  unfold dFrz at q
  split at q
  · rename_i xs e
    obtain ⟨W', l, _, cc, S'⟩ := S.freeze e
    exact ⟨W', _, S', h _ _ _ _ (upE_le l) (cc.symm ▸ q)⟩
  · exact ⟨W, ρ, S, q⟩
theorem ds_frz (i : Nat) (h : DS Z X st t) : DS Z X st (dFrz i t) := ⟨dFrz_mono h.mono, PS.weak h.run fun _ _ _ q => lift_frz h.mono q⟩
theorem dss_frz (i : Nat) (h : DSs Z X body t) : DSs Z X body (dFrz i t) := ⟨dFrz_mono h.mono, PSs.weak h.run fun _ _ _ q => lift_frz h.mono q⟩
/-- a list of one's own seen as a value while an expression is reckoned; the end a scalar -/
def PV.scal : PV → Bool
  | .non => true
  | .bl _ => true
  | .int _ => true
  | .str _ => true
  | _ => false
theorem Rep.scal {p : PV} {v : V} {W W' : Wd} (h : p.scal = true) (r : Rep P K W p v) : Rep P K W' p v := by
  cases p <;> first | (simp [PV.scal] at h; done) | (simp only [Rep] at r ⊢; exact r)
def dPeek (i : Nat) (t : DT) : DT := fun ρ Q n => match ρ[i]? with
  | some (.own xs) => t (ρ.set i (.fz (.lst xs))) (fun p n => p.scal = true ∧ Q p n) n
  | _ => t ρ Q n
def dPeekB (i : Nat) (t : DB) : DB := fun ρ Q n => match ρ[i]? with
  | some (.own xs) => t (ρ.set i (.fz (.lst xs))) Q n
  | _ => t ρ Q n
theorem Fr0.peek {W1 W' : Wd} {H' : Hp} (l : Wle W W1) (lb : W1.B = W.B) (f : Fr0 P H W1 W' H') : Fr0 P H W ⟨W.F, W'.B, W'.c⟩ H' := by
  refine ⟨⟨fun _ _ h => h, fun a k h => f.le.b a k (l.b a k h), Nat.le_trans l.c f.le.c⟩, fun a o h => f.sub a o (f.le.f a o (l.f a o h)), fun a o h n => f.keep a o h (by rw [lb]; exact n), fun a o h => .inl h, fun a k h => ?_, fun a k h => ?_⟩
  · rcases f.freshB a k h with z | z
    · exact .inl (by rw [← lb]; exact z)
    · exact .inr z
  · obtain ⟨h1, o, h2, h3⟩ := f.box a k h
    refine ⟨?_, o, h2, h3⟩
    cases e : W.F a with
    | none => rfl
    | some u => rw [f.le.f a u (l.f a u e)] at h1; cases h1
theorem de_peek (i : Nat) (h : DE Z X e te) : DE Z X e (dPeek i te) := by
  refine ⟨fun ρ Q Q' n hq q => ?_, PE.weak h.run fun σ H Q q => ?_⟩
  · unfold dPeek at q ⊢
    split at q
    · exact h.mono _ _ _ _ (fun p n q => ⟨q.1, hq _ _ q.2⟩) q
    · exact h.mono _ _ _ _ hq q
  · obtain ⟨W, ρ, S, q⟩ := q
    unfold dPeek at q
    split at q
    · rename_i xs e
      obtain ⟨W1, l, lb, cc, S1⟩ := S.freeze e
      exact ⟨W1, _, S1, h.mono _ _ _ _ (fun p n q v W2 H2 f2 c2 r2 => q.2 v _ H2 (f2.peek l lb) c2 (Rep.scal q.1 r2)) (cc.symm ▸ q)⟩
    · exact ⟨W, ρ, S, q⟩
theorem dt_peek {tb : DB} (i : Nat) (h : DTs Z X e tb) : DTs Z X e (dPeekB i tb) := by
  refine ⟨fun ρ Q Q' n hq q => ?_, PT.weak h.run fun σ H Q q => ?_⟩
  · unfold dPeekB at q ⊢
    split at q <;> exact h.mono _ _ _ _ hq q
  · obtain ⟨W, ρ, S, q⟩ := q
    unfold dPeekB at q
    split at q
    · rename_i xs e
      obtain ⟨W1, l, lb, cc, S1⟩ := S.freeze e
      exact ⟨W1, _, S1, h.mono _ _ _ _ (fun p n q W2 H2 f2 c2 => q _ H2 (f2.peek l lb) c2) (cc.symm ▸ q)⟩
    · exact ⟨W, ρ, S, q⟩

end
end DL

set_option maxRecDepth 100000
set_option maxHeartbeats 1000000
namespace DL
open PySem L2
section
variable {Z : Cz} {X : Cx} {P : Par} {K : PySem.W.Frag} {W : Wd} {H : Hp} {e a b o : Expr} {es : List Expr} {st : Stmt} {rest body : List Stmt} {pos p apos cpos p2 : Pos} {ta tb te : DT} {tc : DB} {t u : DSt} {Ex : PX → Pd} {H0 : Hp} {W0 : Wd} {σ : L2.St} {ρ : Rho}

/-! ### targets -/
abbrev DTg := PV → Rho → (Rho → Pd) → Pd
abbrev DTgs := List PV → Rho → (Rho → Pd) → Pd
def MonoG (g : DTg) : Prop := ∀ p ρ (Q Q' : Rho → Pd) n, (∀ r n, Q r n → Q' r n) → g p ρ Q n → g p ρ Q' n
def MonoGs (g : DTgs) : Prop := ∀ p ρ (Q Q' : Rho → Pd) n, (∀ r n, Q r n → Q' r n) → g p ρ Q n → g p ρ Q' n
def liftG (Z : Cz) (K : PySem.W.Frag) (g : DTg) : TG := fun v σ H Q => ∃ W ρ p, SR Z.P K Z.H0 Z.W0 W σ H ρ ∧ Rep Z.P K W p v ∧ g p ρ (fun ρ' n => ∀ W' σ' H', Wle W W' → W'.c = n → SR Z.P K Z.H0 Z.W0 W' σ' H' ρ' → Q σ' H') W.c
structure DG (Z : Cz) (X : Cx) (tg : Expr) (g : DTg) : Prop where
  mono : MonoG g
  run : PG X tg (liftG Z X.K g)
structure DGs (Z : Cz) (X : Cx) (tg : List Expr) (g : DTgs) : Prop where
  mono : MonoGs g
  run : PGs X tg fun vs σ H Q => ∃ W ρ ps, SR Z.P X.K Z.H0 Z.W0 W σ H ρ ∧ RepL Z.P X.K W ps vs ∧ g ps ρ (fun ρ' n => ∀ W' σ' H', Wle W W' → W'.c = n → SR Z.P X.K Z.H0 Z.W0 W' σ' H' ρ' → Q σ' H') W.c
theorem PG.weak {tg : Expr} {g g' : TG} (h : PG X tg g) (w : ∀ v σ H Q, g' v σ H Q → g v σ H Q) : PG X tg g' := ⟨fun pins s σ H v u Q I r q => h.run pins s σ H v u Q I r (w v σ H Q q)⟩
theorem PGs.weak {tg : List Expr} {g g' : TGs} (h : PGs X tg g) (w : ∀ v σ H Q, g' v σ H Q → g v σ H Q) : PGs X tg g' := ⟨fun pins s σ H v u Q I r q => h.run pins s σ H v u Q I r (w v σ H Q q)⟩
/-- targets that are names alone: the heap stays, the slots vs alone change -/
def Agree (vs : List Nat) (σ σ' : L2.St) : Prop := σ'.length = σ.length ∧ ∀ i, i ∉ vs → σ'[i]? = σ[i]?
theorem Agree.refl (vs : List Nat) (σ : L2.St) : Agree vs σ σ := ⟨rfl, fun _ _ => rfl⟩
theorem Agree.trans {vs : List Nat} {σ σ1 σ2 : L2.St} (a : Agree vs σ σ1) (b : Agree vs σ1 σ2) : Agree vs σ σ2 := ⟨b.1.trans a.1, fun i h => (b.2 i h).trans (a.2 i h)⟩
def liftGn (Z : Cz) (K : PySem.W.Frag) (vs : List Nat) (g : DTg) : TG := fun v σ H Q => ∃ W ρ p, SR Z.P K Z.H0 Z.W0 W σ H ρ ∧ Rep Z.P K W p v ∧ g p ρ (fun ρ' n => W.c = n → ∀ σ', SR Z.P K Z.H0 Z.W0 W σ' H ρ' → Agree vs σ σ' → Q σ' H) W.c
def liftGns (Z : Cz) (K : PySem.W.Frag) (vs : List Nat) (g : DTgs) : TGs := fun us σ H Q => ∃ W ρ ps, SR Z.P K Z.H0 Z.W0 W σ H ρ ∧ RepL Z.P K W ps us ∧ g ps ρ (fun ρ' n => W.c = n → ∀ σ', SR Z.P K Z.H0 Z.W0 W σ' H ρ' → Agree vs σ σ' → Q σ' H) W.c
structure DGn (Z : Cz) (X : Cx) (tg : Expr) (vs : List Nat) (g : DTg) : Prop where
  mono : MonoG g
  run : PG X tg (liftGn Z X.K vs g)
structure DGns (Z : Cz) (X : Cx) (tg : List Expr) (vs : List Nat) (g : DTgs) : Prop where
  mono : MonoGs g
  run : PGs X tg (liftGns Z X.K vs g)
theorem DGn.g {tg : Expr} {vs : List Nat} {g : DTg} (h : DGn Z X tg vs g) : DG Z X tg g := ⟨h.mono, PG.weak h.run fun v σ H Q q => by
  obtain ⟨W, ρ, p, S, r, q⟩ := q
  exact ⟨W, ρ, p, S, r, h.mono p ρ _ _ _ (fun ρ' n q cc σ' S' _ => q W σ' H (Wle.refl _) cc S') q⟩⟩
def dNm (i : Nat) : DTg := fun p ρ Q => Q (ρ.set i (.fz p))
theorem dn_name (i : Nat) {vs : List Nat} {x : Str} (hN : X.N.Nodup) (hv : i ∈ vs := by decide) (hi : X.N[i]? = some x := by rfl) (hx : Loc X.env.scope x := by first | exact Or.inl rfl | exact Or.inr rfl) (hf : X.fn x = true ∨ X.env.scope.names.lookup x = some .local := by first | exact .inl rfl | exact .inr rfl) : DGn Z X (.Name x pos) vs (dNm i) :=
  ⟨fun p ρ Q Q' n hq q => hq _ _ q, PG.weak (pg_name hN hi hx hf) fun v σ H Q q => by
    obtain ⟨W, ρ, p, S, r, q⟩ := q
    exact q rfl _ (S.setFz r) ⟨List.length_set, fun j hj => List.getElem?_set_ne (fun (z : i = j) => hj (z ▸ hv))⟩⟩
theorem dg_name (i : Nat) {x : Str} (hN : X.N.Nodup) (hi : X.N[i]? = some x := by rfl) (hx : Loc X.env.scope x := by first | exact Or.inl rfl | exact Or.inr rfl) (hf : X.fn x = true ∨ X.env.scope.names.lookup x = some .local := by first | exact .inl rfl | exact .inr rfl) : DG Z X (.Name x pos) (dNm i) := (dn_name (vs := [i]) i hN (by simp) hi hx hf).g
def dGNil : DTgs := fun ps ρ Q n => ps = [] ∧ Q ρ n
def dGCons (g : DTg) (h : DTgs) : DTgs := fun ps ρ Q n => match ps with
  | p :: qs => g p ρ (fun ρ' => h qs ρ' Q) n
  | [] => False
theorem dns_nil {vs : List Nat} : DGns Z X [] vs dGNil := ⟨fun p ρ Q Q' n hq q => ⟨q.1, hq _ _ q.2⟩, PGs.weak pgs_nil fun v σ H Q q => by
  obtain ⟨W, ρ, ps, S, r, e, q⟩ := q
  subst e
  simp only [RepL] at r
  exact ⟨r, q rfl σ S (Agree.refl _ _)⟩⟩
theorem dns_cons {vs : List Nat} {g : DTg} {h : DTgs} (h1 : DGn Z X e vs g) (h2 : DGns Z X es vs h) (hs : (assignEach (e :: es) X.env).map (·.2) = assign e X.env :: (assignEach es X.env).map (·.2) := by rfl) : DGns Z X (e :: es) vs (dGCons g h) := by
  refine ⟨fun p ρ Q Q' n hq q => by
    cases p with
    | nil => exact q.elim
    | cons p qs => exact h1.mono p ρ _ _ n (fun r n q => h2.mono qs r _ _ n hq q) q, PGs.weak (pgs_cons h1.run h2.run hs) fun v σ H Q q => ?_⟩
  obtain ⟨W, ρ, ps, S, r, q⟩ := q
  obtain ⟨p, qs, rfl⟩ : ∃ p qs, ps = p :: qs := by cases ps with
    | nil => exact q.elim
    | cons p qs => exact ⟨p, qs, rfl⟩
  simp only [RepL] at r
  obtain ⟨y, zs, rfl, ra, rb⟩ := r
  refine ⟨y, zs, rfl, W, ρ, p, S, ra, h1.mono p ρ _ _ _ (fun ρ' n q cc σ' S' ag => ?_) q⟩
  subst cc
  exact ⟨W, ρ', qs, S', rb, h2.mono qs ρ' _ _ _ (fun ρ2 n q cc σ2 S2 ag2 => q cc σ2 S2 (ag.trans ag2)) q⟩
def dGTup (k : Nat) (g : DTgs) : DTg := fun p ρ Q n => match p with
  | .tup xs => xs.length = k ∧ g xs ρ Q n
  | _ => False
theorem dn_tup {vs : List Nat} {n : Nat} {g : DTgs} {k : Nat} (hc : X.calm = true) (h : DGns Z X es vs g) (hn : (assignEach es X.env).length = n := by rfl) (hst : (assignEach es X.env).findIdx? (·.1) = none := by rfl) : DGn Z X (.Tuple es k pos) vs (dGTup n g) := by
  refine ⟨fun p ρ Q Q' n hq q => by cases p <;> first | exact q.elim | exact ⟨q.1, h.mono _ ρ _ _ n hq q.2⟩, PG.weak (pg_tup hc h.run hn hst) fun v σ H Q q => ?_⟩
  obtain ⟨W, ρ, p, S, r, q⟩ := q
  obtain ⟨xs, rfl⟩ : ∃ xs, p = .tup xs := by cases p <;> first | exact q.elim | exact ⟨_, rfl⟩
  obtain ⟨hl, q⟩ := q
  rw [rep_tup] at r
  obtain ⟨a, ys, rfl, h1, l⟩ := r
  exact ⟨a, ys, rfl, sqT_same S.same h1, by rw [← l.length]; exact hl, W, ρ, xs, S, l, q⟩
/-- a, b = a list of two -/
def dGLst (k : Nat) (g : DTgs) : DTg := fun p ρ Q n => match p with
  | .lst xs => xs.length = k ∧ g xs ρ Q n
  | _ => False
theorem dn_lst {vs : List Nat} {n : Nat} {g : DTgs} {k : Nat} (h : DGns Z X es vs g) (hp : PGs X es (liftGns Z X.K vs g) → PG X (.Tuple es k pos) (L2.gLst X.K n (liftGns Z X.K vs g))) : DGn Z X (.Tuple es k pos) vs (dGLst n g) := by
  refine ⟨fun p ρ Q Q' n hq q => by cases p <;> first | exact q.elim | exact ⟨q.1, h.mono _ ρ _ _ n hq q.2⟩, PG.weak (hp h.run) fun v σ H Q q => ?_⟩
  obtain ⟨W, ρ, p, S, r, q⟩ := q
  obtain ⟨xs, rfl⟩ : ∃ xs, p = .lst xs := by cases p <;> first | exact q.elim | exact ⟨_, rfl⟩
  obtain ⟨hl, q⟩ := q
  rw [rep_lst] at r
  obtain ⟨a, ys, rfl, h1, l⟩ := r
  exact ⟨a, ys, rfl, SqL.of (S.same _ _ h1), by rw [← l.length]; exact hl, W, ρ, xs, S, l, q⟩

/-! ### simple statements -/
def dAsg (te : DT) (g : DTg) : DSt := fun D ρ => te ρ fun p => g p ρ D.nx
theorem dAsg_mono {g : DTg} (h : MonoT te) (hg : MonoG g) : MonoS (dAsg te g) := fun D D' ρ n l q => h ρ _ _ n (fun p n q => hg p ρ _ _ n l.nx q) q
theorem lift_asg {g : DTg} {g' : TG} (h : MonoT te) (hg : MonoG g)
    (w : ∀ v σ H Q, (∃ W ρ p, SR Z.P K Z.H0 Z.W0 W σ H ρ ∧ Rep Z.P K W p v ∧ g p ρ (fun ρ' n => ∀ W' σ' H', Wle W W' → W'.c = n → SR Z.P K Z.H0 Z.W0 W' σ' H' ρ' → Q σ' H') W.c) → g' v σ H Q) {D : Ends} (q : liftS Z K (dAsg te g) D σ H) :
    tAsg (liftE Z.P K Z.H0 Z.W0 te) g' D σ H := by
  obtain ⟨W, ρ, S, q⟩ := q
  refine ⟨W, ρ, S, h ρ _ _ _ (fun p n q v W1 H1 f1 c1 r1 => ?_) q⟩
  exact w _ _ _ _ ⟨W1, ρ, p, S.step f1, r1, hg p ρ _ _ _ (fun ρ' n q W' σ' H' l cc S' => q W' σ' H' (f1.le.trans l) cc S') (c1 ▸ q)⟩
theorem ds_asg {tg : Expr} {g : DTg} (he : DE Z X e te) (hg : DG Z X tg g) (hs : swapsWithSole [tg] e pos.line X.env = pure false := by rfl) (hw : swappedStores [tg] e X.env = pure none := by rfl)
    (h1 : (assignEach [tg] X.env).map (·.2) = [assign tg X.env] := by rfl) : DS Z X (.Assign [tg] e pos) (dAsg te g) :=
  ⟨dAsg_mono he.mono hg.mono, PS.weak (ps_asg he.run hg.run hs hw h1) fun _ _ _ q => lift_asg he.mono hg.mono (fun _ _ _ _ q => q) q⟩
theorem ds_set (i : Nat) {x : Str} {pos' : Pos} (hN : X.N.Nodup) (he : DE Z X e te) (hi : X.N[i]? = some x := by rfl) (hx : Loc X.env.scope x := by first | exact Or.inl rfl | exact Or.inr rfl) (hs : swapsWith e (some (.Name x pos')) pos.line X.env = pure false := by rfl)
    (hf : X.fn x = true ∨ X.env.scope.names.lookup x = some .local := by first | exact .inl rfl | exact .inr rfl) : DS Z X (.Assign [.Name x pos'] e pos) (dAsg te (dNm i)) :=
  ⟨dAsg_mono he.mono (fun p ρ Q Q' n hq q => hq _ _ q), PS.weak (ps_set hN hi hx he.run hs hf) fun _ _ _ q => lift_asg (g := dNm i) he.mono (fun p ρ Q Q' n hq q => hq _ _ q) (fun v σ H Q q => by
    obtain ⟨W, ρ, p, S, r, q⟩ := q
    exact q W _ H (Wle.refl _) rfl (S.setFz r)) q⟩
/-- a, b = x, y -/
def dPar (i j : Nat) (ta : DA) : DSt := fun D ρ => ta ρ fun ps n => match ps with
  | [p, q] => D.nx ((ρ.set i (.fz p)).set j (.fz q)) n
  | _ => False
theorem ds_par (i j : Nat) {x y : Str} {ta : DA} {px py pt : Pos} {kt k2 pt2} (D : DX Z X Ex) (hN : X.N.Nodup) (hi : X.N[i]? = some x) (hj : X.N[j]? = some y) (hij : i ≠ j)
    (hx : X.env.scope.names.lookup x = some .local) (hy : X.env.scope.names.lookup y = some .local) (ha : DAs Z X [a, b] ta)
    (hp : PS X (.Assign [.Tuple [.Name x px, .Name y py] kt pt] (.Tuple [a, b] k2 pt2) pos) (tPar i j (liftA Z.P X.K Z.H0 Z.W0 ta))) :
    DS Z X (.Assign [.Tuple [.Name x px, .Name y py] kt pt] (.Tuple [a, b] k2 pt2) pos) (dPar i j ta) := by
  refine ⟨fun D D' ρ n l q => ha.mono ρ _ _ n (fun ps n q => ?_) q, PS.weak hp fun D σ H q => ?_⟩
  · match ps, q with
    | [p, r], q => exact l.nx _ _ q
  · obtain ⟨W, ρ, S, q⟩ := q
    refine ⟨W, ρ, S, ha.mono ρ _ _ _ (fun ps n q vs W1 H1 f1 c1 r1 => ?_) q⟩
    match ps, r1, q with
    | [p, r], r1, q =>
      obtain ⟨v, w, rfl, ra, rb⟩ := r1.two
      exact ⟨v, w, rfl, q W1 _ H1 f1.le c1 (((S.step f1).setFz ra).setFz rb)⟩
def dAug (i : Nat) (te : DT) (g : G2) : DSt := fun D ρ n => match ρ[i]? with
  | some (.fz x) => te ρ (fun y => g x y fun z => D.nx (ρ.set i (.fz z))) n
  | _ => False
theorem ds_aug (i : Nat) {x : Str} {op : Operator} {g : G2} {pos' : Pos} (hN : X.N.Nodup) (ho : DOp Z X (inplaceOp op) g) (he : DE Z X e te) (hi : X.N[i]? = some x := by rfl) (hx : Loc X.env.scope x := by first | exact Or.inl rfl | exact Or.inr rfl)
    (hf : X.fn x = true ∨ X.env.scope.names.lookup x = some .local := by first | exact .inl rfl | exact .inr rfl) : DS Z X (.AugAssign (.Name x pos') op e pos) (dAug i te g) := by
  have hp : PIp X op (r2Of Z.P X.K g) := fun pins s σ H x y v u Q I rx ry q => ho.run pins s σ H x y v u Q I rx ry q
  refine ⟨fun D D' ρ n l q => ?_, PS.weak (ps_aug hN hi hx he.run hp hf) fun D σ H q => ?_⟩
  · unfold dAug at q ⊢
    split at q
    · exact he.mono ρ _ _ _ (fun y n q => ho.mono _ y _ _ _ (fun z n q => l.nx _ _ q) q) q
    · exact q.elim
  · obtain ⟨W, ρ, S, q⟩ := q
    unfold dAug at q
    split at q
    · rename_i p e
      obtain ⟨v, ev, rv⟩ := S.slots i _ e
      refine ⟨v, ev, W, ρ, S, he.mono ρ _ _ _ (fun y n q w W1 H1 f1 c1 r1 => ?_) q⟩
      refine ⟨W1, p, y, f1.sub, f1.box, Rep.mono f1.le _ _ rv, r1, ho.mono _ y _ _ _ (fun z n q u W2 H2 f2 c2 r2 => ?_) (c1 ▸ q)⟩
      exact q W2 _ H2 (f1.le.trans f2.le) c2 (((S.step f1).step f2).setFz r2)
    · exact q.elim
def dDrop (te : DT) : DSt := fun D ρ => te ρ fun _ => D.nx ρ
theorem ds_expr (he : DE Z X e te) (hs : swapsWith e none pos.line X.env = pure false := by rfl) : DS Z X (.Expr e pos) (dDrop te) := by
  refine ⟨fun D D' ρ n l q => he.mono ρ _ _ n (fun p n q => l.nx _ _ q) q, PS.weak (ps_expr he.run hs) fun D σ H q => ?_⟩
  obtain ⟨W, ρ, S, q⟩ := q
  exact ⟨W, ρ, S, he.mono ρ _ _ _ (fun p n q v W1 H1 f1 c1 r1 => q W1 σ H1 f1.le c1 (S.step f1)) q⟩
def dRet (te : DT) : DSt := fun D ρ => te ρ D.rt
theorem ds_ret (he : DE Z X e te) : DS Z X (.Return (some e) pos) (dRet te) := by
  refine ⟨fun D D' ρ n l q => he.mono ρ _ _ n l.rt q, PS.weak (ps_ret he.run) fun D σ H q => ?_⟩
  obtain ⟨W, ρ, S, q⟩ := q
  exact ⟨W, ρ, S, he.mono ρ _ _ _ (fun p n q v W1 H1 f1 c1 r1 => q v W1 H1 f1.le c1 (S.fr.trans f1) r1) q⟩
def dRetN : DSt := fun D _ => D.rt .non
theorem ds_retN : DS Z X (.Return none pos) dRetN := ⟨fun D D' ρ n l q => l.rt _ _ q, PS.weak ps_retN fun D σ H q => by
  obtain ⟨W, ρ, S, q⟩ := q
  exact q .non W H (Wle.refl _) rfl S.fr (rep_non.2 rfl)⟩
theorem ds_pass : DS Z X (.Pass pos) dNext := ⟨fun D D' ρ n l q => l.nx _ _ q, PS.weak ps_pass fun D σ H q => by
  obtain ⟨W, ρ, S, q⟩ := q
  exact q W σ H (Wle.refl _) rfl S⟩
def dBrk : DSt := fun D ρ => D.bk ρ
def dCnt : DSt := fun D ρ => D.ct ρ
theorem ds_break : DS Z X (.Break pos) dBrk := ⟨fun D D' ρ n l q => l.bk _ _ q, PS.weak ps_break fun D σ H q => by
  obtain ⟨W, ρ, S, q⟩ := q
  exact q W σ H (Wle.refl _) rfl S⟩
theorem ds_continue : DS Z X (.Continue pos) dCnt := ⟨fun D D' ρ n l q => l.ct _ _ q, PS.weak ps_continue fun D σ H q => by
  obtain ⟨W, ρ, S, q⟩ := q
  exact q W σ H (Wle.refl _) rfl S⟩
def dIf (c : DB) (t u : DSt) : DSt := fun D ρ => c ρ fun b => if b = true then t D ρ else u D ρ
theorem ds_if {c : Expr} {p q : List Stmt} (hc : DTs Z X c tc) (ha : DSs Z X p t) (hb : DSs Z X q u) : DS Z X (.If c p q pos) (dIf tc t u) := by
  refine ⟨fun D D' ρ n l q => hc.mono ρ _ _ n (fun b n q => ?_) q, PS.weak (ps_if hc.run ha.run hb.run) fun D σ H q => ?_⟩
  · cases b with
    | true => rw [if_pos rfl] at q ⊢; exact ha.mono _ _ ρ _ l q
    | false => rw [if_neg Bool.false_ne_true] at q ⊢; exact hb.mono _ _ ρ _ l q
  · obtain ⟨W, ρ, S, q⟩ := q
    refine ⟨W, ρ, S, hc.mono ρ _ _ _ (fun b n q W1 H1 f1 c1 => ?_) q⟩
    cases b with
    | true => exact ⟨W1, ρ, S.step f1, ha.mono _ _ ρ _ (upE_le f1.le) (c1 ▸ q)⟩
    | false => exact ⟨W1, ρ, S.step f1, hb.mono _ _ ρ _ (upE_le f1.le) (c1 ▸ q)⟩
def dNever : DSt := fun _ _ _ => False
theorem ds_never : DS Z X st dNever := ⟨fun _ _ _ _ _ q => q, PS.weak ps_never fun D σ H q => let ⟨_, _, _, q⟩ := q; q⟩
theorem dss_never : DSs Z X body dNever := ⟨fun _ _ _ _ _ q => q, PSs.weak pss_never fun D σ H q => let ⟨_, _, _, q⟩ := q; q⟩

end
end DL

set_option maxRecDepth 100000
set_option maxHeartbeats 1000000
namespace DL
open PySem L2
section
variable {Z : Cz} {X : Cx} {P : Par} {K : PySem.W.Frag} {W : Wd} {H : Hp} {e a b o : Expr} {es : List Expr} {st : Stmt} {rest body : List Stmt} {pos p apos cpos p2 : Pos} {ta tb te : DT} {tc : DB} {t u : DSt} {Ex : PX → Pd} {H0 : Hp} {W0 : Wd} {σ : L2.St} {ρ : Rho}

/-! ### loops -/
def dWhile (c : DB) (b : DSt) : DSt := fun D ρ n => ∃ I : Nat → Rho → Pd, (∃ m, I m ρ n) ∧ ∀ m ρ n, I m ρ n → c ρ (fun k => if k = true then
  b { nx := fun ρ' n => ∃ m', m' < m ∧ I m' ρ' n, ct := fun ρ' n => ∃ m', m' < m ∧ I m' ρ' n, bk := D.nx, rt := D.rt } ρ else D.nx ρ) n
theorem ds_while {c : Expr} {tb : DSt} (D : DX Z X Ex) (hc : DTs Z X c tc) (hb : DSs Z X body tb) : DS Z X (.While c body [] pos) (dWhile tc tb) := by
  refine ⟨fun D D' ρ n l q => ?_, PS.weak (ps_while D.po hc.run hb.run) fun D σ H q => ?_⟩
  · obtain ⟨I, i0, turn⟩ := q
    refine ⟨I, i0, fun m ρ n i => hc.mono ρ _ _ _ (fun k n q => ?_) (turn m ρ n i)⟩
    cases k with
    | true =>
      rw [if_pos rfl] at q ⊢
      exact hb.mono { nx := fun ρ' n => ∃ m', m' < m ∧ I m' ρ' n, ct := fun ρ' n => ∃ m', m' < m ∧ I m' ρ' n, bk := D.nx, rt := D.rt } _ ρ _ ⟨fun _ _ q => q, l.rt, l.nx, fun _ _ q => q⟩ q
    | false => rw [if_neg Bool.false_ne_true] at q ⊢; exact l.nx _ _ q
  · obtain ⟨W, ρ, S, I, ⟨m0, i0⟩, turn⟩ := q
    refine ⟨fun m σ' H' => ∃ W' ρ', Wle W W' ∧ SR Z.P X.K Z.H0 Z.W0 W' σ' H' ρ' ∧ I m ρ' W'.c, ⟨m0, W, ρ, Wle.refl _, S, i0⟩, fun m σ1 H1 ⟨W1, ρ1, l1, S1, i1⟩ => ?_⟩
    refine ⟨W1, ρ1, S1, hc.mono ρ1 _ _ _ (fun k n q W2 H2 f2 c2 => ?_) (turn m ρ1 _ i1)⟩
    subst c2
    cases k with
    | true =>
      rw [if_pos rfl] at q ⊢
      refine ⟨fun σ' H' => ∃ m', m' < m ∧ ∃ W' ρ', Wle W W' ∧ SR Z.P X.K Z.H0 Z.W0 W' σ' H' ρ' ∧ I m' ρ' W'.c, fun σ' H' h => h, W2, ρ1, S1.step f2, hb.mono { nx := fun ρ' n => ∃ m', m' < m ∧ I m' ρ' n, ct := fun ρ' n => ∃ m', m' < m ∧ I m' ρ' n, bk := (upE Z X.K W D).nx, rt := (upE Z X.K W D).rt } _ ρ1 _ ⟨fun ρ' n q W' σ' H' l cc S' => ?_, ?_, ?_, fun ρ' n q W' σ' H' l cc S' => ?_⟩ q⟩
      · obtain ⟨m', hm, i'⟩ := q
        exact ⟨m', hm, W', ρ', (l1.trans f2.le).trans l, S', cc ▸ i'⟩
      · exact fun p n q v W' H' l cc f r => q v W' H' ((l1.trans f2.le).trans l) cc f r
      · exact fun ρ' n q W' σ' H' l cc S' => q W' σ' H' ((l1.trans f2.le).trans l) cc S'
      · obtain ⟨m', hm, i'⟩ := q
        exact ⟨m', hm, W', ρ', (l1.trans f2.le).trans l, S', cc ▸ i'⟩
    | false =>
      rw [if_neg Bool.false_ne_true] at q ⊢
      exact q W2 σ1 H2 (l1.trans f2.le) rfl (S1.step f2)
/-- what is walked, as data -/
def ItOk (P : Par) (K : PySem.W.Frag) (W : Wd) (J : It) (xs : List PV) : Prop := ∃ (G : Hp → Prop) (Y : Nat → Hp → V → Hp → Prop), Walk J xs.length G Y ∧ (∀ W' H', Wle W W' → Same W'.F H' → G H') ∧
  ∀ i x H1 H2 W', Wle W W' → Same W'.F H1 → BoxOk P W' H1 → i < xs.length → Y i H1 x H2 → ∃ W2 p, xs[i]? = some p ∧ Fr0 P H1 W' W2 H2 ∧ W2.c = W'.c ∧ Rep P K W2 p x
abbrev DIt := Rho → (List PV → Pd) → Pd
structure DI (Z : Cz) (X : Cx) (tg iter : Expr) (t : DIt) : Prop where
  mono : MonoT t
  run : PI X tg iter fun σ H R => ∃ W ρ, SR Z.P X.K Z.H0 Z.W0 W σ H ρ ∧ t ρ (fun xs n => ∀ J W' H', Fr0 Z.P H W W' H' → W'.c = n → ItOk Z.P X.K W' J xs → R J H') W.c
theorem PI.weak {tg iter : Expr} {w w' : TI} (h : PI X tg iter w) (k : ∀ σ H R, w' σ H R → w σ H R) : PI X tg iter w' := ⟨fun pins s σ H R I q => h.run pins s σ H R I (k σ H R q)⟩
/-- the loop over data, item by item -/
def dLoop (g : DTg) (b : DSt) (D : DEnds) : List PV → Rho → Pd
  | [], ρ => D.nx ρ
  | x :: xs, ρ => g x ρ fun ρ' => b { nx := dLoop g b D xs, ct := dLoop g b D xs, bk := D.nx, rt := D.rt } ρ'
theorem dLoop_mono {g : DTg} {b : DSt} (hg : MonoG g) (hb : MonoS b) {D D' : DEnds} (l : D.le D') : ∀ (xs : List PV) (ρ : Rho) (n : Nat), dLoop g b D xs ρ n → dLoop g b D' xs ρ n
  | [], ρ, n, q => l.nx ρ n q
  | x :: xs, ρ, n, q => hg x ρ _ _ n (fun ρ' n q => hb { nx := dLoop g b D xs, ct := dLoop g b D xs, bk := D.nx, rt := D.rt } _ ρ' n ⟨dLoop_mono hg hb l xs, l.rt, l.nx, dLoop_mono hg hb l xs⟩ q) q
def dFor (ti : DIt) (g : DTg) (b : DSt) : DSt := fun D ρ => ti ρ fun xs => dLoop g b D xs ρ
theorem drop_of {α : Type} {xs : List α} {i : Nat} {x : α} (h : xs[i]? = some x) : xs.drop i = x :: xs.drop (i + 1) := by
  obtain ⟨hi, e⟩ := List.getElem?_eq_some_iff.mp h
  rw [List.drop_eq_getElem_cons hi, e]
theorem ds_for {tg iter : Expr} {ti : DIt} {g : DTg} {tb : DSt} (D : DX Z X Ex) (hi : DI Z X tg iter ti) (hg : DG Z X tg g) (hb : DSs Z X body tb) (hs : ∀ x, foldedSetIterable iter X.env x = pure x := by intro _; rfl) :
    DS Z X (.For tg iter body [] pos) (dFor ti g tb) := by
  refine ⟨fun D D' ρ n l q => hi.mono ρ _ _ n (fun xs n q => dLoop_mono hg.mono hb.mono l xs ρ n q) q, PS.weak (ps_for D.po D.calm hi.run hg.run hb.run hs) fun D σ H q => ?_⟩
  obtain ⟨W, ρ, S, q⟩ := q
  refine ⟨W, ρ, S, hi.mono ρ _ _ _ (fun xs n q J W1 H1 f1 c1 it => ?_) q⟩
  subst c1
  obtain ⟨G, Y, wk, hG, hY⟩ := it
  refine for_it (g := liftG Z X.K g) (tb := liftS Z X.K tb) (D := D) wk (fun i σ' H' => ∃ W' ρ', Wle W1 W' ∧ SR Z.P X.K Z.H0 Z.W0 W' σ' H' ρ' ∧ dLoop g tb (upE Z X.K W1 D) (xs.drop i) ρ' W'.c) ⟨W1, ρ, Wle.refl _, S.step f1, ?_⟩ (fun i σ' H' _ ⟨W', ρ', l, S', _⟩ => hG W' H' l S'.same) ?_ ?_
  · rw [List.drop_zero]
    exact dLoop_mono hg.mono hb.mono (upE_le f1.le) xs ρ _ q
  · rintro i x σ' H' H2 hi ⟨W', ρ', l, S', q⟩ y
    obtain ⟨W2, p, e, f2, c2, r2⟩ := hY i x H' H2 W' l S'.same S'.box hi y
    rw [drop_of e] at q
    refine ⟨W2, ρ', p, S'.step f2, r2, hg.mono p ρ' _ _ _ (fun ρ3 n q W3 σ3 H3 l3 c3 S3 => ?_) (c2.symm ▸ q)⟩
    subst c3
    have l4 : Wle W1 W3 := (l.trans f2.le).trans l3
    refine ⟨W3, ρ3, S3, hb.mono { nx := dLoop g tb (upE Z X.K W1 D) (xs.drop (i + 1)), ct := dLoop g tb (upE Z X.K W1 D) (xs.drop (i + 1)), bk := (upE Z X.K W1 D).nx, rt := (upE Z X.K W1 D).rt } _ ρ3 _ ⟨fun ρ4 n q W4 σ4 H4 l5 c4 S4 => ⟨W4, ρ4, l4.trans l5, S4, c4 ▸ q⟩, fun p n q v W4 H4 l5 c4 f r => q v W4 H4 (l4.trans l5) c4 f r, fun ρ4 n q W4 σ4 H4 l5 c4 S4 => q W4 σ4 H4 (l4.trans l5) c4 S4, fun ρ4 n q W4 σ4 H4 l5 c4 S4 => ⟨W4, ρ4, l4.trans l5, S4, c4 ▸ q⟩⟩ q⟩
  · rintro σ' H' ⟨W', ρ', l, S', q⟩
    rw [List.drop_length] at q
    exact q W' σ' H' l rfl S'

end
end DL

set_option maxRecDepth 100000
set_option maxHeartbeats 1000000
namespace DL
open PySem L2
section
variable {Z : Cz} {X : Cx} {P : Par} {K : PySem.W.Frag} {W : Wd} {H : Hp} {e a b o : Expr} {es : List Expr} {st : Stmt} {rest body : List Stmt} {pos p apos cpos p2 : Pos} {ta tb te : DT} {tc : DB} {t u : DSt} {Ex : PX → Pd} {H0 : Hp} {W0 : Wd} {σ : L2.St} {ρ : Rho}

/-! ### what is walked -/
def dSeqI (te : DT) : DIt := fun ρ Q => te ρ fun p n => match p with
  | .lst xs => Q xs n
  | .scr xs => Q xs n
  | _ => False
def dTupI (te : DT) : DIt := fun ρ Q => te ρ fun p n => match p with
  | .tup xs => Q xs n
  | _ => False
theorem itok_at {J : It} {xs : List PV} {vs : List V} {G : Hp → Prop} {W : Wd} (l : RepL P K W xs vs) (wk : Walk J vs.length G (YAt vs)) (hG : ∀ W' H', Wle W W' → Same W'.F H' → G H') : ItOk P K W J xs := by
  refine ⟨G, YAt vs, by rw [l.length]; exact wk, hG, fun i x H1 H2 W' lw s b hi y => ?_⟩
  obtain ⟨rfl, e⟩ := y
  obtain ⟨p, e2, r⟩ := l.get' e
  exact ⟨W', p, e2, Fr0.refl s b, rfl, Rep.mono lw _ _ r⟩
theorem di_list {tg : Expr} (h : DE Z X e te) : DI Z X tg e (dSeqI te) := by
  refine ⟨fun ρ Q Q' n hq q => h.mono ρ _ _ n (fun p n q => by cases p <;> first | exact q.elim | exact hq _ _ q) q, PI.weak (pi_list h.run) fun σ H R q => ?_⟩
  obtain ⟨W, ρ, S, q⟩ := q
  refine ⟨W, ρ, S, h.mono ρ _ _ _ (fun p n q v W1 H1 f1 c1 r1 => ?_) q⟩
  cases p <;> first | exact q.elim | skip
  · rw [rep_lst] at r1
    obtain ⟨a, ys, rfl, h1, l⟩ := r1
    exact ⟨a, rfl, ⟨ys, SqL.of (f1.sub _ _ h1)⟩, q _ W1 H1 f1 c1 (itok_at l walk_list fun W' H' lw s => SqL.of (s _ _ (lw.f _ _ h1)))⟩
  · rw [rep_scr] at r1
    obtain ⟨a, ys, rfl, h1, l⟩ := r1
    exact ⟨a, rfl, ⟨ys, sqL_same f1.sub h1⟩, q _ W1 H1 f1 c1 (itok_at l walk_list fun W' H' lw s => sqL_same s (sqL_same lw.f h1))⟩
theorem di_tup {tg : Expr} (h : DE Z X e te) : DI Z X tg e (dTupI te) := by
  refine ⟨fun ρ Q Q' n hq q => h.mono ρ _ _ n (fun p n q => by cases p <;> first | exact q.elim | exact hq _ _ q) q, PI.weak (pi_tup h.run) fun σ H R q => ?_⟩
  obtain ⟨W, ρ, S, q⟩ := q
  refine ⟨W, ρ, S, h.mono ρ _ _ _ (fun p n q v W1 H1 f1 c1 r1 => ?_) q⟩
  cases p <;> first | exact q.elim | skip
  rw [rep_tup] at r1
  obtain ⟨a, ys, rfl, h1, l⟩ := r1
  exact ⟨a, rfl, ⟨ys, sqT_same f1.sub h1⟩, q _ W1 H1 f1 c1 (itok_at l walk_tup fun W' H' lw s => sqT_same s (sqT_same lw.f h1))⟩
def dOrI (t u : DIt) : DIt := fun ρ Q n => t ρ Q n ∨ u ρ Q n
theorem DI.or {tg : Expr} {t u : DIt} (h : DI Z X tg e t) (h' : DI Z X tg e u) : DI Z X tg e (dOrI t u) := by
  refine ⟨fun ρ Q Q' n hq q => q.imp (h.mono ρ _ _ n hq) (h'.mono ρ _ _ n hq), ⟨fun pins s σ H R I q => ?_⟩⟩
  obtain ⟨W, ρ, S, q⟩ := q
  rcases q with q | q
  · exact h.run.run pins s σ H R I ⟨W, ρ, S, q⟩
  · exact h'.run.run pins s σ H R I ⟨W, ρ, S, q⟩
def rng (lo : Int) (n : Nat) : List PV := (List.range n).map fun i => .int (lo + (i : Nat))
theorem rng_length (lo : Int) (n : Nat) : (rng lo n).length = n := by unfold rng; rw [List.length_map, List.length_range]
theorem rng_get {lo : Int} {n i : Nat} (h : i < n) : (rng lo n)[i]? = some (.int (lo + (i : Nat))) := by
  unfold rng
  rw [List.getElem?_map, List.getElem?_range h]
  rfl
theorem itok_range {lo : Int} {n : Nat} {W : Wd} : ItOk P K W (Itr lo n) (rng lo n) := by
  refine ⟨fun _ => True, YFn fun i => .int (lo + i), by rw [rng_length]; exact walk_range, fun _ _ _ _ => trivial, fun i x H1 H2 W' lw s b hi y => ?_⟩
  obtain ⟨rfl, rfl⟩ := y
  rw [rng_length] at hi
  exact ⟨W', _, rng_get hi, Fr0.refl s b, rfl, rep_int.2 rfl⟩
def dRng1 (ta : DA) : DIt := fun ρ Q => ta ρ fun ps t => ∃ n : Int, ps = [.int n] ∧ (-(2 ^ 62) ≤ n ∧ n < 2 ^ 62) ∧ Q (rng 0 n.toNat) t
def dRng2 (ta : DA) : DIt := fun ρ Q => ta ρ fun ps t => ∃ i j : Int, ps = [.int i, .int j] ∧ (-(2 ^ 62) ≤ i ∧ i < 2 ^ 62 ∧ -(2 ^ 62) ≤ j ∧ j < 2 ^ 62) ∧ Q (rng i (j - i).toNat) t
theorem di_range1 {ta : DA} {tg : Expr} (hm : X.mg "range" = none) (ha : DAs Z X [a] ta) (hg : Gl X "range" := by rfl) (hs : starEach [a] X.env = [(false, eval a X.env)] := by rfl) : DI Z X tg (.Call (.Name "range" p) [a] [] pos) (dRng1 ta) := by
  refine ⟨fun ρ Q Q' n hq q => ha.mono ρ _ _ n (fun ps n q => ?_) q, PI.weak (pi_range1 hg hm ha.run hs) fun σ H R q => ?_⟩
  · obtain ⟨n, e, c, q⟩ := q
    exact ⟨n, e, c, hq _ _ q⟩
  · obtain ⟨W, ρ, S, q⟩ := q
    refine ⟨W, ρ, S, ha.mono ρ _ _ _ (fun ps n q vs W1 H1 f1 c1 r1 => ?_) q⟩
    obtain ⟨n, rfl, c, q⟩ := q
    obtain ⟨v, rfl, r⟩ := r1.one
    rw [rep_int] at r
    subst r
    exact ⟨n, rfl, c.1, c.2, q _ W1 H1 f1 c1 itok_range⟩
theorem di_range2 {ta : DA} {tg : Expr} (hm : X.mg "range" = none) (ha : DAs Z X [a, b] ta) (hg : Gl X "range" := by rfl) (hs : starEach [a, b] X.env = [(false, eval a X.env), (false, eval b X.env)] := by rfl) (hs2 : starEach [b] X.env = [(false, eval b X.env)] := by rfl) :
    DI Z X tg (.Call (.Name "range" p) [a, b] [] pos) (dRng2 ta) := by
  refine ⟨fun ρ Q Q' n hq q => ha.mono ρ _ _ n (fun ps n q => ?_) q, PI.weak (pi_range2 hg hm ha.run hs hs2) fun σ H R q => ?_⟩
  · obtain ⟨i, j, e, c, q⟩ := q
    exact ⟨i, j, e, c, hq _ _ q⟩
  · obtain ⟨W, ρ, S, q⟩ := q
    refine ⟨W, ρ, S, ha.mono ρ _ _ _ (fun ps n q vs W1 H1 f1 c1 r1 => ?_) q⟩
    obtain ⟨i, j, rfl, c, q⟩ := q
    obtain ⟨v, w, rfl, r, r'⟩ := r1.two
    rw [rep_int] at r r'
    subst r; subst r'
    exact ⟨i, j, rfl, c, q _ W1 H1 f1 c1 itok_range⟩
theorem itok_pair {J : It} {n : Nat} {G : Hp → Prop} {W : Wd} {xs ys : Nat → Option V} {zs : List PV} (wk : Walk J n G (YPair xs ys)) (hn : zs.length = n) (hG : ∀ W' H', Wle W W' → Same W'.F H' → G H')
    (hz : ∀ i x y, i < n → xs i = some x → ys i = some y → ∃ p q, zs[i]? = some (.tup [p, q]) ∧ Rep P K W p x ∧ Rep P K W q y) : ItOk P K W J zs := by
  subst hn
  refine ⟨G, _, wk, hG, fun i x H1 H2 W' lw s b hi y => ?_⟩
  obtain ⟨T, u, w, rfl, n, rfl, e1, e2⟩ := y
  obtain ⟨p, q, e, r1, r2⟩ := hz i u w hi e1 e2
  exact ⟨W'.add T _, _, e, Fr0.new s b n, rfl, rep_newT n s (RepL.cons (Rep.mono lw _ _ r1) (RepL.cons (Rep.mono lw _ _ r2) RepL.nil))⟩
def enumP (xs : List PV) : List PV := xs.mapIdx fun i x => .tup [.int (i : Nat), x]
def dEnum (ta : DA) : DIt := fun ρ Q => ta ρ fun ps t => ∃ xs, (ps = [.lst xs] ∨ ps = [.scr xs]) ∧ Q (enumP xs) t
theorem itok_enum {a : Addr} {xs : List PV} {ys : List V} {W : Wd} (l : RepL P K W xs ys) (h : SqL K W.F a ys) : ItOk P K W (Ite K a) (enumP xs) := by
  refine itok_pair (walk_enum (K := K) (a := a) (xs := ys)) (by unfold enumP; rw [List.length_mapIdx, l.length]) (fun W' H' lw s => sqL_same s (sqL_same lw.f h)) fun i x y hi e1 e2 => ?_
  cases e1
  obtain ⟨p, e, r⟩ := l.get' e2
  exact ⟨.int (i : Nat), p, by unfold enumP; rw [List.getElem?_mapIdx, e]; rfl, rep_int.2 rfl, r⟩
theorem di_enum {ta : DA} {elts : List Expr} {kk : Nat} {tpos : Pos} (hm : X.mg "enumerate" = none) (ha : DAs Z X [e] ta) (hg : Gl X "enumerate" := by rfl) (hs : starEach [e] X.env = [(false, eval e X.env)] := by rfl) :
    DI Z X (.Tuple elts kk tpos) (.Call (.Name "enumerate" p) [e] [] pos) (dEnum ta) := by
  refine ⟨fun ρ Q Q' n hq q => ha.mono ρ _ _ n (fun ps n q => ?_) q, PI.weak (pi_enum hg hm ha.run hs) fun σ H R q => ?_⟩
  · obtain ⟨xs, e, q⟩ := q
    exact ⟨xs, e, hq _ _ q⟩
  · obtain ⟨W, ρ, S, q⟩ := q
    refine ⟨W, ρ, S, ha.mono ρ _ _ _ (fun ps n q vs W1 H1 f1 c1 r1 => ?_) q⟩
    obtain ⟨xs, e, q⟩ := q
    rcases e with rfl | rfl
    · obtain ⟨v, rfl, r⟩ := r1.one
      rw [rep_lst] at r
      obtain ⟨a, ys, rfl, h1, l⟩ := r
      exact ⟨a, ys, rfl, SqL.of (f1.sub _ _ h1), q _ W1 H1 f1 c1 (itok_enum l (SqL.of h1))⟩
    · obtain ⟨v, rfl, r⟩ := r1.one
      rw [rep_scr] at r
      obtain ⟨a, ys, rfl, h1, l⟩ := r
      exact ⟨a, ys, rfl, sqL_same f1.sub h1, q _ W1 H1 f1 c1 (itok_enum l h1)⟩
def zipP (xs ys : List PV) : List PV := (xs.zip ys).map fun p => .tup [p.1, p.2]
def dZip (ta : DA) : DIt := fun ρ Q => ta ρ fun ps t => ∃ xs ys, ((ps = [.lst xs, .lst ys]) ∨ (ps = [.tup xs, .tup ys])) ∧ Q (zipP xs ys) t
theorem itok_zip {a b : Addr} {xs ys : List PV} {us vs : List V} {W : Wd} (l : RepL P K W xs us) (l2 : RepL P K W ys vs) (h : SqL K W.F a us) (h2 : SqL K W.F b vs) : ItOk P K W (Itz K a b) (zipP xs ys) := by
  refine itok_pair (walk_zip (K := K) (a := a) (b := b) (xs := us) (ys := vs) rfl) (by unfold zipP; rw [List.length_map, List.length_zip, l.length, l2.length]) (fun W' H' lw s => ⟨sqL_same s (sqL_same lw.f h), sqL_same s (sqL_same lw.f h2)⟩) fun i x y hi e1 e2 => ?_
  obtain ⟨p, e, r⟩ := l.get' e1
  obtain ⟨q, e', r'⟩ := l2.get' e2
  exact ⟨p, q, by unfold zipP; rw [List.getElem?_map, (show (xs.zip ys)[i]? = some (p, q) from List.getElem?_zip_eq_some.2 ⟨e, e'⟩)]; rfl, r, r'⟩
theorem itok_zipT {a b : Addr} {xs ys : List PV} {us vs : List V} {W : Wd} (l : RepL P K W xs us) (l2 : RepL P K W ys vs) (h : SqT K W.F a us) (h2 : SqT K W.F b vs) : ItOk P K W (RZ.ItzT K a b) (zipP xs ys) := by
  have wk : Walk (RZ.ItzT K a b) (min us.length vs.length) (fun H => SqT K H a us ∧ SqT K H b vs) (YPair (fun i => us[i]?) (fun i => vs[i]?)) := by
    refine ⟨fun i _ hi q => ?_, fun _ q => ⟨us, vs, q.1, q.2, by omega⟩, fun i H v H' _ q y => ?_⟩
    · have g1 : i < us.length := by omega
      have g2 : i < vs.length := by omega
      exact ⟨us, vs, us[i], vs[i], q.1, q.2, by simp [g1], by simp [g2]⟩
    · obtain ⟨T, x, z, e1, e2, e3, e4, e5⟩ := y
      exact ⟨T, x, z, e1, e2, e3, e4 us q.1, e5 vs q.2⟩
  refine itok_pair wk (by unfold zipP; rw [List.length_map, List.length_zip, l.length, l2.length]) (fun W' H' lw s => ⟨sqT_same s (sqT_same lw.f h), sqT_same s (sqT_same lw.f h2)⟩) fun i x y hi e1 e2 => ?_
  obtain ⟨p, e, r⟩ := l.get' e1
  obtain ⟨q, e', r'⟩ := l2.get' e2
  exact ⟨p, q, by unfold zipP; rw [List.getElem?_map, (show (xs.zip ys)[i]? = some (p, q) from List.getElem?_zip_eq_some.2 ⟨e, e'⟩)]; rfl, r, r'⟩
theorem di_zip {ta : DA} {elts : List Expr} {kk : Nat} {tpos : Pos} (hm : X.mg "zip" = none) (ha : DAs Z X [a, b] ta)
    (hpi : ∀ ta' : TA, PA X [a, b] ta' → PI X (.Tuple elts kk tpos) (.Call (.Name "zip" p) [a, b] [] pos) (RZ.iZipA X.K ta')) :
    DI Z X (.Tuple elts kk tpos) (.Call (.Name "zip" p) [a, b] [] pos) (dZip ta) := by
  refine ⟨fun ρ Q Q' n hq q => ha.mono ρ _ _ n (fun ps n q => ?_) q, PI.weak (hpi _ ha.run) fun σ H R q => ?_⟩
  · obtain ⟨xs, ys, e, q⟩ := q
    exact ⟨xs, ys, e, hq _ _ q⟩
  · obtain ⟨W, ρ, S, q⟩ := q
    refine ⟨W, ρ, S, ha.mono ρ _ _ _ (fun ps n q vs W1 H1 f1 c1 r1 => ?_) q⟩
    obtain ⟨xs, ys, e, q⟩ := q
    rcases e with rfl | rfl
    · obtain ⟨v, w, rfl, r, r'⟩ := r1.two
      rw [rep_lst] at r r'
      obtain ⟨a, us, rfl, h1, l⟩ := r
      obtain ⟨b, us2, rfl, h2, l2⟩ := r'
      exact ⟨a, b, us, us2, rfl, Or.inl ⟨SqL.of (f1.sub _ _ h1), SqL.of (f1.sub _ _ h2), q _ W1 H1 f1 c1 (itok_zip l l2 (SqL.of h1) (SqL.of h2))⟩⟩
    · obtain ⟨v, w, rfl, r, r'⟩ := r1.two
      rw [rep_tup] at r r'
      obtain ⟨a, us, rfl, h1, l⟩ := r
      obtain ⟨b, us2, rfl, h2, l2⟩ := r'
      exact ⟨a, b, us, us2, rfl, Or.inr ⟨sqT_same f1.sub h1, sqT_same f1.sub h2, q _ W1 H1 f1 c1 (itok_zipT l l2 h1 h2)⟩⟩
end
end DL

set_option maxRecDepth 100000
set_option maxHeartbeats 1000000
/-! DLFun: defs by their promises over data; calls, instances, methods, properties, operators of one's own -/
namespace DL
open PySem L2
abbrev DSp := List PV → (PV → Pd) → (PX → Pd) → Pd
def MonoSp (D : DSp) : Prop := ∀ ps (Q Q' : PV → Pd) (E E' : PX → Pd) n, (∀ p n, Q p n → Q' p n) → (∀ x n, E x n → E' x n) → D ps Q E n → D ps Q' E' n
abbrev DSi := List PV → (List PV → Pd) → (PX → Pd) → Pd
def MonoSi (D : DSi) : Prop := ∀ ps (Q Q' : List PV → Pd) (E E' : PX → Pd) n, (∀ p n, Q p n → Q' p n) → (∀ x n, E x n → E' x n) → D ps Q E n → D ps Q' E' n
def upX (P : Par) (K : PySem.W.Frag) (H : Hp) (W : Wd) (E : XK) : PX → Pd := fun x n => ∀ cls d W' H', Fr0 P H W W' H' → W'.c = n → RepX P K W' H' x cls d → E cls d H'
def liftSp (P : Par) (K : PySem.W.Frag) (D : DSp) : Sp := fun vs H Q E => ∃ W ps, Same W.F H ∧ BoxOk P W H ∧ RepL P K W ps vs ∧ D ps (Tell P K W H Q) (upX P K H W E) W.c
def insH (Hb : Hp) (x dx C : Addr) : Hp := upd (upd Hb dx (.own x)) x (.ins C dx [])
def liftSi (P : Par) (K : PySem.W.Frag) (c : Nat) (D : DSi) : Sp := fun vs H Q E => ∃ Hb W ps x dx us, vs = .ref x :: us ∧ H = insH Hb x dx (P.cm c) ∧ Hb x = none ∧ Hb dx = none ∧ dx ≠ x ∧ Same W.F Hb ∧ BoxOk P W Hb ∧ RepL P K W ps us ∧
  D ps (fun fs n => ∀ W' H', Fr0 P Hb W W' H' → W'.c = n → (∃ dx' gs, H' x = some (.ins (P.cm c) dx' gs) ∧ gs.map (·.1) = P.fn c ∧ RepL P K W' fs (gs.map (·.2)) ∧ OwnA Hb W' x) → Q .non H') (upX P K Hb W E) W.c
structure FnD (Z : Par) (prog : Program) (w : World) (K : PySem.W.Frag) (mg : Str → Option Value) (base : Heap) (k : Nat) (f : Addr) (fd : FuncData) (ps : List Str) (D : DSp) : Prop where
  mono : MonoSp D
  ok : FnOk prog w K mg base (L2.CX prog w) k f fd ps (liftSp Z K D)
structure FnI (Z : Par) (prog : Program) (w : World) (K : PySem.W.Frag) (mg : Str → Option Value) (base : Heap) (k : Nat) (f : Addr) (fd : FuncData) (ps : List Str) (c : Nat) (D : DSi) : Prop where
  mono : MonoSi D
  ok : FnOk prog w K mg base (L2.CX prog w) k f fd ps (liftSi Z K c D)
theorem FnD.imp {Z : Par} {prog : Program} {w : World} {K : PySem.W.Frag} {mg : Str → Option Value} {base : Heap} {k : Nat} {f : Addr} {fd : FuncData} {ps : List Str} {D D' : DSp} (F : FnD Z prog w K mg base k f fd ps D) (m : MonoSp D')
    (h : ∀ vs Q E n, D' vs Q E n → D vs Q E n) : FnD Z prog w K mg base k f fd ps D' := ⟨m, F.ok.imp fun vs H Q E q => by
  obtain ⟨W, qs, s, b, r, q⟩ := q
  exact ⟨W, qs, s, b, r, h _ _ _ _ q⟩⟩

section
variable {Z : Cz} {X : Cx} {P : Par} {K : PySem.W.Frag} {W : Wd} {H : Hp} {e a b o : Expr} {es : List Expr} {pos p apos : Pos} {ta tb te : DT} {t : DA} {Ex : PX → Pd} {k : Nat} {f C : Addr} {fd : FuncData} {ps : List Str} {D : DSp} {Di : DSi} {dps : List PV} {dvs : List V} {c : Nat}

/-! ### calls -/
def dCall (D : DSp) (dps : List PV) (Ex : PX → Pd) (t : DA) : DT := fun ρ Q => t ρ fun ps => D (ps ++ dps) Q Ex
theorem dCall_mono (hD : MonoSp D) (h : MonoT t) : MonoT (dCall D dps Ex t) := fun ρ Q Q' n hq q => h ρ _ _ n (fun ps n q => hD _ _ _ _ _ n hq (fun _ _ x => x) q) q
/-- the callee's promise from the caller's data -/
theorem call_in {W1 : Wd} {H1 : Hp} {qs : List PV} {vs : List V} {Q : VK} (hD : MonoSp D) {W0 : Wd} {H0 : Hp} (f0 : Fr0 Z.P Z.H0 Z.W0 W0 H0) (f1 : Fr0 Z.P H0 W0 W1 H1) (r : RepL Z.P K W1 qs vs) (q : D qs (fun p n => ∀ v W' H', Fr0 Z.P H0 W0 W' H' → W'.c = n → Rep Z.P K W' p v → Q v H') Ex W1.c) :
    liftSp Z.P K D vs H1 Q (exK Z K Ex) :=
  ⟨W1, qs, f1.sub, f1.box, r, hD _ _ _ _ _ _ (fun p n t v W2 H2 f2 c2 r2 => t v W2 H2 (f1.trans f2) c2 r2) (fun x n ex cls d W2 H2 f2 c2 rx => ⟨x, W2, c2 ▸ ex, (f0.trans f1).trans f2, rx⟩) q⟩
theorem lift_call (hD : MonoSp D) (h : MonoT t) (hd : ∀ W, RepL Z.P K W dps dvs) {σ : L2.St} {H : Hp} {Q : VK} (q : liftE Z.P K Z.H0 Z.W0 (dCall D dps Ex t) σ H Q) :
    tCall (liftSp Z.P K D) dvs (exK Z K Ex) (liftA Z.P K Z.H0 Z.W0 t) σ H Q := by
  obtain ⟨W, ρ, S, q⟩ := q
  refine ⟨W, ρ, S, h ρ _ _ _ (fun qs n q vs W1 H1 f1 c1 r1 => ?_) q⟩
  exact call_in hD S.fr f1 (r1.append (hd W1)) (c1 ▸ q)
theorem de_call (hD : MonoSp D) (ha : DAs Z X es t) (hd : ∀ W, RepL Z.P X.K W dps dvs)
    (hp : PA X es (liftA Z.P X.K Z.H0 Z.W0 t) → PE X e (tCall (liftSp Z.P X.K D) dvs (exK Z X.K Ex) (liftA Z.P X.K Z.H0 Z.W0 t))) : DE Z X e (dCall D dps Ex t) :=
  ⟨dCall_mono hD ha.mono, PE.weak (hp ha.run) fun _ _ _ q => lift_call hD ha.mono hd q⟩
theorem no_dps (W : Wd) : RepL P K W [] [] := RepL.nil
/-- no arguments: the reading of none -/
theorem liftA_nil {σ : L2.St} {H : Hp} {Q : List V → Hp → Prop} (q : liftA Z.P K Z.H0 Z.W0 dNil σ H Q) : tNil σ H Q := by
  obtain ⟨W, ρ, S, q⟩ := q
  exact q [] W H (Fr0.refl S.same S.box) rfl RepL.nil
theorem de_call0 (hD : MonoSp D) (hd : ∀ W, RepL Z.P X.K W dps dvs)
    (hp : PE X e (tCall (liftSp Z.P X.K D) dvs (exK Z X.K Ex) tNil)) : DE Z X e (dCall D dps Ex dNil) := by
  refine ⟨dCall_mono hD (fun _ _ _ _ hq q => hq _ _ q), PE.weak hp fun σ H Q q => ?_⟩
  obtain ⟨W, ρ, S, q⟩ := q
  exact call_in hD S.fr (Fr0.refl S.same S.box) (hd W) q
/-- C(..) -/
def dMake (c : Nat) (D : DSi) (dps : List PV) (Ex : PX → Pd) (t : DA) : DT := fun ρ Q => t ρ fun ps => D (ps ++ dps) (fun fs => Q (.ins c fs)) Ex
theorem make_in {W1 : Wd} {H1 : Hp} {qs : List PV} {vs : List V} {Q : VK} (hD : MonoSi Di) {W0 : Wd} {H0 : Hp} (f0 : Fr0 Z.P Z.H0 Z.W0 W0 H0) (f1 : Fr0 Z.P H0 W0 W1 H1) (r : RepL Z.P K W1 qs vs) (q : Di qs (fun fs n => ∀ v W' H', Fr0 Z.P H0 W0 W' H' → W'.c = n → Rep Z.P K W' (.ins c fs) v → Q v H') Ex W1.c)
    {x dx : Addr} (nx : H1 x = none) (nd : H1 dx = none) (ne : dx ≠ x) : liftSi Z.P K c Di (.ref x :: vs) (insH H1 x dx (Z.P.cm c)) (fun v H2 => v = .non ∧ Q (.ref x) H2) (exK Z K Ex) := by
  refine ⟨H1, W1, qs, x, dx, vs, rfl, rfl, nx, nd, ne, f1.sub, f1.box, r, hD _ _ _ _ _ _ (fun fs n t W2 H2 f2 c2 h2 => ⟨rfl, ?_⟩) (fun x n ex cls d W2 H2 f2 c2 rx => ⟨x, W2, c2 ▸ ex, (f0.trans f1).trans f2, rx⟩) q⟩
  obtain ⟨dx', gs, hx, n, l, x1, x2, x3⟩ := h2
  have le : Wle W2 (W2.add x (.ins (Z.P.cm c) dx' gs)) := Wle.add x2
  refine t _ (W2.add x (.ins (Z.P.cm c) dx' gs)) H2 (f1.trans ⟨f2.le.trans le, fun y u h => ?_, f2.keep, fun y u h => ?_, f2.freshB, fun y j h => ?_⟩) c2 (rep_ins.2 ⟨x, dx', gs, rfl, add_same, n, RepL.mono le _ _ l⟩)
  · have h' : upd W2.F x (.ins (Z.P.cm c) dx' gs) y = some u := h
    by_cases e : y = x
    · subst e; rw [upd_same] at h'; rw [← h']; exact hx
    · rw [upd_ne e] at h'; exact f2.sub y u h'
  · have h' : upd W2.F x (.ins (Z.P.cm c) dx' gs) y = some u := h
    by_cases e : y = x
    · subst e; exact .inr nx
    · rw [upd_ne e] at h'; exact f2.freshF y u h'
  · obtain ⟨h1, u, h2, h3⟩ := f2.box y j h
    have nb : y ≠ x := fun e => by rw [e] at h; have h' : W2.B x = some j := h; rw [x3] at h'; cases h'
    exact ⟨by show upd W2.F x _ y = none; rw [upd_ne nb]; exact h1, u, h2, h3⟩
theorem dMake_mono (hD : MonoSi Di) (h : MonoT t) : MonoT (dMake c Di dps Ex t) := fun ρ Q Q' n hq q => h ρ _ _ n (fun ps n q => hD _ _ _ _ _ n (fun fs n => hq _ n) (fun _ _ x => x) q) q
theorem de_make (hD : MonoSi Di) (ha : DAs Z X es t) (hd : ∀ W, RepL Z.P X.K W dps dvs)
    (hp : PA X es (liftA Z.P X.K Z.H0 Z.W0 t) → PE X e (tMake (Z.P.cm c) (liftSi Z.P X.K c Di) dvs (exK Z X.K Ex) (liftA Z.P X.K Z.H0 Z.W0 t))) : DE Z X e (dMake c Di dps Ex t) := by
  refine ⟨dMake_mono hD ha.mono, PE.weak (hp ha.run) fun σ H Q q => ?_⟩
  obtain ⟨W, ρ, S, q⟩ := q
  refine ⟨W, ρ, S, ha.mono ρ _ _ _ (fun qs n q vs W1 H1 f1 c1 r1 x dx nx nd ne => ?_) q⟩
  exact make_in hD S.fr f1 (r1.append (hd W1)) (c1 ▸ q) nx nd ne
theorem de_make0 (hD : MonoSi Di) (hd : ∀ W, RepL Z.P X.K W dps dvs)
    (hp : PE X e (tMake (Z.P.cm c) (liftSi Z.P X.K c Di) dvs (exK Z X.K Ex) tNil)) : DE Z X e (dMake c Di dps Ex dNil) := by
  refine ⟨dMake_mono hD (fun _ _ _ _ hq q => hq _ _ q), PE.weak hp fun σ H Q q => ?_⟩
  obtain ⟨W, ρ, S, q⟩ := q
  exact fun x dx nx nd ne => make_in hD S.fr (Fr0.refl S.same S.box) (hd W) q nx nd ne
/-- o.m(..) of an instance of class c -/
def dMeth (c : Nat) (D : DSp) (dps : List PV) (Ex : PX → Pd) (ta : DT) (t : DA) : DT := fun ρ Q => ta ρ fun x n => ∃ vs, x = .ins c vs ∧ t ρ (fun ps => D (x :: (ps ++ dps)) Q Ex) n
theorem lookup_no {gs : List (Str × V)} {m : Str} (h : m ∉ gs.map (·.1)) : gs.lookup m = none := by
  induction gs with
  | nil => rfl
  | cons g gs ih =>
    obtain ⟨g1, g2⟩ := g
    simp only [List.map_cons, List.mem_cons, not_or] at h
    have e : (m == g1) = false := by simpa using h.1
    simp only [List.lookup, e]
    exact ih h.2
theorem dMeth_mono (hD : MonoSp D) (ha : MonoT ta) (h : MonoT t) : MonoT (dMeth c D dps Ex ta t) := fun ρ Q Q' n hq q => ha ρ _ _ n (fun x n q => by
  obtain ⟨vs, e, q⟩ := q
  exact ⟨vs, e, h ρ _ _ n (fun ps n q => hD _ _ _ _ _ n hq (fun _ _ x => x) q) q⟩) q
theorem de_meth {m : Str} (hD : MonoSp D) (ho : DE Z X o ta) (ha : DAs Z X es t) (hd : ∀ W, RepL Z.P X.K W dps dvs) (hn : m ∉ Z.P.fn c)
    (hp : PE X o (liftE Z.P X.K Z.H0 Z.W0 ta) → PA X es (liftA Z.P X.K Z.H0 Z.W0 t) → PE X e (tMeth (Z.P.cm c) m (liftSp Z.P X.K D) dvs (exK Z X.K Ex) (liftE Z.P X.K Z.H0 Z.W0 ta) (liftA Z.P X.K Z.H0 Z.W0 t))) : DE Z X e (dMeth c D dps Ex ta t) := by
  refine ⟨dMeth_mono hD ho.mono ha.mono, PE.weak (hp ho.run ha.run) fun σ H Q q => ?_⟩
  obtain ⟨W, ρ, S, q⟩ := q
  refine ⟨W, ρ, S, ho.mono ρ _ _ _ (fun x n q v W1 H1 f1 c1 r1 => ?_) q⟩
  subst c1
  obtain ⟨vs, rfl, q⟩ := q
  have r1' := r1
  rw [rep_ins] at r1
  obtain ⟨a, dx, gs, rfl, h1, nn, l⟩ := r1
  refine ⟨a, dx, gs, rfl, f1.sub _ _ h1, lookup_no (by rw [nn]; exact hn), W1, ρ, S.step f1, ha.mono ρ _ _ _ (fun qs n q us W2 H2 f2 c2 r2 => ?_) q⟩
  exact call_in hD S.fr (f1.trans f2) (RepL.cons (Rep.mono f2.le _ _ r1') (r2.append (hd W2))) (c2 ▸ q)
theorem de_meth0 {m : Str} (hD : MonoSp D) (ho : DE Z X o ta) (hd : ∀ W, RepL Z.P X.K W dps dvs) (hn : m ∉ Z.P.fn c)
    (hp : PE X o (liftE Z.P X.K Z.H0 Z.W0 ta) → PE X e (tMeth (Z.P.cm c) m (liftSp Z.P X.K D) dvs (exK Z X.K Ex) (liftE Z.P X.K Z.H0 Z.W0 ta) tNil)) : DE Z X e (dMeth c D dps Ex ta dNil) := by
  refine ⟨dMeth_mono hD ho.mono (fun _ _ _ _ hq q => hq _ _ q), PE.weak (hp ho.run) fun σ H Q q => ?_⟩
  obtain ⟨W, ρ, S, q⟩ := q
  refine ⟨W, ρ, S, ho.mono ρ _ _ _ (fun x n q v W1 H1 f1 c1 r1 => ?_) q⟩
  subst c1
  obtain ⟨vs, rfl, q⟩ := q
  have r1' := r1
  rw [rep_ins] at r1
  obtain ⟨a, dx, gs, rfl, h1, nn, l⟩ := r1
  exact ⟨a, dx, gs, rfl, f1.sub _ _ h1, lookup_no (by rw [nn]; exact hn), call_in hD S.fr f1 (RepL.cons r1' (hd W1)) q⟩
/-- o.f, a property of class c -/
def dProp (c : Nat) (D : DSp) (ta : DT) : DT := fun ρ Q => ta ρ fun x n => ∃ vs, x = .ins c vs ∧ D [x] Q (fun _ _ => False) n
theorem exK_false {K : PySem.W.Frag} {cls : Value} {d : Option Addr} {H' : Hp} (h : exK Z K (fun _ _ => False) cls d H') : False := by
  obtain ⟨_, _, h, _⟩ := h
  exact h
theorem pass_false {X' : Cx} : Passes (L2.CX X'.prog X'.w) X' (exK Z K (fun _ _ => False)) := by
  intro pins σ H s e s' I h
  refine passL pins σ H s e s' I ?_
  obtain ⟨a, B, h1, h2, h3, h4, h5, h6, h7, h8, h9, h10, z⟩ := h
  exact (exK_false z).elim
theorem de_prop (hD : MonoSp D) (ho : DE Z X o ta)
    (hp : PE X o (liftE Z.P X.K Z.H0 Z.W0 ta) → PE X e (tProp (Z.P.cm c) (liftSp Z.P X.K D) [] (exK Z X.K fun _ _ => False) (liftE Z.P X.K Z.H0 Z.W0 ta))) : DE Z X e (dProp c D ta) := by
  refine ⟨fun ρ Q Q' n hq q => ho.mono ρ _ _ n (fun x n q => let ⟨vs, e, q⟩ := q; ⟨vs, e, hD _ _ _ _ _ n hq (fun _ _ x => x) q⟩) q, PE.weak (hp ho.run) fun σ H Q q => ?_⟩
  obtain ⟨W, ρ, S, q⟩ := q
  refine ⟨W, ρ, S, ho.mono ρ _ _ _ (fun x n q v W1 H1 f1 c1 r1 => ?_) q⟩
  subst c1
  obtain ⟨vs, rfl, q⟩ := q
  have r1' := r1
  rw [rep_ins] at r1
  obtain ⟨a, dx, gs, rfl, h1, nn, l⟩ := r1
  exact ⟨a, dx, gs, rfl, f1.sub _ _ h1, call_in hD S.fr f1 (RepL.cons r1' RepL.nil) q⟩
/-- alternatives of an expression -/
def dOrE (ta tb : DT) : DT := fun ρ Q n => ta ρ Q n ∨ tb ρ Q n
theorem DE.or (h : DE Z X e ta) (h' : DE Z X e tb) : DE Z X e (dOrE ta tb) := by
  refine ⟨fun ρ Q Q' n hq q => q.imp (h.mono ρ _ _ n hq) (h'.mono ρ _ _ n hq), ⟨fun pins s σ H Q I q => ?_⟩⟩
  obtain ⟨W, ρ, S, q⟩ := q
  rcases q with q | q
  · exact h.run.run pins s σ H Q I ⟨W, ρ, S, q⟩
  · exact h'.run.run pins s σ H Q I ⟨W, ρ, S, q⟩

/-! ### operators of one's own -/
structure OwnOp (K : PySem.W.Frag) (C f : Addr) (nm : Str) : Prop where
  at_ : PySem.W.findIn K (.ref C) nm = some (some (.ref f))
  fn : PySem.W.isFn K (.ref f) = true
theorem not_ni {v : V} {u : Value} (r : RelV v u) : u ≠ .notImplemented := by
  cases v <;> first | (obtain ⟨t, rfl⟩ := r; intro z; cases z) | (cases r; intro z; cases z)
/-- a op b, both of class c -/
def gOwn (c : Nat) (D : DSp) : G2 := fun x y Q n => ∃ vs, x = .ins c vs ∧ ∃ us, y = .ins c us ∧ D [x, y] Q (fun _ _ => False) n
theorem gOwn_mono (hD : MonoSp D) : MonoG2 (gOwn c D) := fun x y Q Q' n hq q => let ⟨vs, e, us, e2, q⟩ := q; ⟨vs, e, us, e2, hD _ _ _ _ _ n hq (fun _ _ x => x) q⟩
theorem liftSp_own {W : Wd} {H : Hp} {qs : List PV} {vs : List V} {Q : VK} (hD : MonoSp D) (s : Same W.F H) (b : BoxOk Z.P W H) (r : RepL Z.P K W qs vs) (q : D qs (Tell Z.P K W H Q) (fun _ _ => False) W.c) : liftSp Z.P K D vs H Q (exK Z K fun _ _ => False) :=
  ⟨W, qs, s, b, r, hD _ _ _ _ _ _ (fun _ _ t => t) (fun x n z => z.elim) q⟩
theorem dop_own {op : Operator} (F : FnD Z.P X.prog X.w X.K X.mg X.base k f fd ps D) (hr : Room k X.A) (hb : Binds X.K fd ps []) (hs : OwnOp X.K (Z.P.cm c) f (PySem.dunder op.info.2)) (hc : PySem.W.selfFirst X.K (Z.P.cm c) = true) : DOp Z X (binaryOp op) (gOwn c D) := by
  refine ⟨gOwn_mono F.mono, fun pins s σ H x y u v Q I rx ry q => ?_⟩
  obtain ⟨W, p, r, s1, b1, r1, r2, vs, rfl, us, rfl, q⟩ := q
  have r1' := r1
  have r2' := r2
  rw [rep_ins] at r1 r2
  obtain ⟨a, dx, gs, rfl, h1, _, _⟩ := r1
  obtain ⟨a2, dx2, gs2, rfl, h2, _, _⟩ := r2
  cases rx
  cases ry
  obtain ⟨mA, J, _⟩ := ins_get I.hok (s1 _ _ h1)
  obtain ⟨mB, J', _⟩ := ins_get I.hok (s1 _ _ h2)
  obtain ⟨od, J, _⟩ := J.look
  obtain ⟨od', J', _⟩ := J'.look
  obtain ⟨m, hF⟩ := I.fr
  refine PySem.W.binop_K hF I.ok.mod.kin J J'.type hc hs.at_ hs.fn ?_
  refine wpAny_mono (run_fn (us := [.ref a, .ref a2]) F.ok hr hb .nil pass_false I (show Vals [V.ref a, V.ref a2] _ from .cons rfl (.cons rfl .nil)) (liftSp_own (Z := Z) F.mono s1 b1 (RepL.cons r1' (RepL.cons r2' RepL.nil)) q)) (fun u s' z => ?_) fun _ _ z => z
  have hne : u ≠ .notImplemented := let ⟨_, _, _, rv, _⟩ := z; not_ni rv
  unfold PySem.W.CmpBack
  split
  · exact absurd rfl hne
  · exact z
/-- a == b (op Eq), a own class on the left; the right one any value of a known type -/
def gOwnC (c : Nat) (D : DSp) : G2 := fun x y Q n => ∃ vs, x = .ins c vs ∧ ∃ us, y = .ins c us ∧ D [x, y] Q (fun _ _ => False) n
theorem dop_ownEq (F : FnD Z.P X.prog X.w X.K X.mg X.base k f fd ps D) (hr : Room k X.A) (hb : Binds X.K fd ps []) (hs : OwnOp X.K (Z.P.cm c) f "__eq__") : DOp Z X (compareOp .Eq) (gOwn c D) := by
  refine ⟨gOwn_mono F.mono, fun pins s σ H x y u v Q I rx ry q => ?_⟩
  obtain ⟨W, p, r, s1, b1, r1, r2, vs, rfl, us, rfl, q⟩ := q
  have r1' := r1
  have r2' := r2
  rw [rep_ins] at r1 r2
  obtain ⟨a, dx, gs, rfl, h1, _, _⟩ := r1
  obtain ⟨a2, dx2, gs2, rfl, h2, _, _⟩ := r2
  cases rx
  cases ry
  obtain ⟨mA, J, _⟩ := ins_get I.hok (s1 _ _ h1)
  obtain ⟨mB, J', _⟩ := ins_get I.hok (s1 _ _ h2)
  obtain ⟨od, J, _⟩ := J.look
  obtain ⟨od', J', _⟩ := J'.look
  obtain ⟨m, hF⟩ := I.fr
  show wpAny _ _ (richCompare .Eq (.ref a) (.ref a2)) _ _ _
  refine PySem.W.cmp_K (op := .Eq) (tb := .ref (Z.P.cm c)) hr.units0 hF I.ok.mod.kin J J'.type (by simp [PySem.W.notFirst]) hs.at_ hs.fn ?_
  refine wpAny_mono (run_fn (us := [.ref a, .ref a2]) F.ok hr hb .nil pass_false I (show Vals [V.ref a, V.ref a2] _ from .cons rfl (.cons rfl .nil)) (liftSp_own (Z := Z) F.mono s1 b1 (RepL.cons r1' (RepL.cons r2' RepL.nil)) q)) (fun u s' z => ?_) fun _ _ z => z
  have hne : u ≠ .notImplemented := let ⟨_, _, _, rv, _⟩ := z; not_ni rv
  unfold PySem.W.CmpBack
  split
  · exact absurd rfl hne
  · exact z
/-- the truth of an instance by its own __bool__ -/
def gTruO (c : Nat) (D : DSp) : GB := fun x Q n => ∃ vs, x = .ins c vs ∧ D [x] (fun p n => ∃ b, p = .bl b ∧ Q b n) (fun _ _ => False) n
theorem dtru_own (F : FnD Z.P X.prog X.w X.K X.mg X.base k f fd ps D) (hr : Room k X.A) (hb : Binds X.K fd ps []) (hs : OwnOp X.K (Z.P.cm c) f "__bool__") : DTru Z X (gTruO c D) := by
  refine ⟨fun x Q Q' n hq q => let ⟨vs, e, q⟩ := q; ⟨vs, e, F.mono _ _ _ _ _ n (fun p n z => let ⟨b, e, q⟩ := z; ⟨b, e, hq _ _ q⟩) (fun _ _ x => x) q⟩, fun pins s σ H x v Q I rx q => ?_⟩
  obtain ⟨W, p, s1, b1, r1, vs, rfl, q⟩ := q
  have r1' := r1
  rw [rep_ins] at r1
  obtain ⟨a, dx, gs, rfl, h1, _, _⟩ := r1
  cases rx
  obtain ⟨mA, J, _⟩ := ins_get I.hok (s1 _ _ h1)
  obtain ⟨od, J, _⟩ := J.look
  obtain ⟨m, hF⟩ := I.fr
  refine PySem.W.truthy_K hF I.ok.mod.kin J hs.at_ hs.fn ?_
  refine wpAny_mono (run_fn (us := [.ref a]) (Q := fun v H' => ∃ b, v = .bl b ∧ Q b H') F.ok hr hb .nil pass_false I (show Vals [V.ref a] _ from .cons rfl .nil) (liftSp_own (Z := Z) F.mono s1 b1 (RepL.cons r1' RepL.nil) (F.mono _ _ _ _ _ _ (fun p n z v W2 H2 f2 c2 r2 => ?_) (fun _ _ x => x) q))) (fun u s' z => ?_) fun _ _ z => z
  · obtain ⟨b, rfl, q⟩ := z
    exact ⟨b, rep_bl.1 r2, q W2 H2 f2 c2⟩
  · obtain ⟨w, H', I', rv, b, rfl, q⟩ := z
    cases rv
    exact ⟨H', I', q⟩
end

/-! ### a def's entry -/
def rstart (n : Nat) (vs : List PV) : Rho := vs.map .fz ++ List.replicate (n - vs.length) .no
theorem map_get {α β : Type} {f : α → β} {l : List α} {i : Nat} {y : β} (h : (l.map f)[i]? = some y) : ∃ x, l[i]? = some x ∧ f x = y := by
  rw [List.getElem?_map] at h
  cases e : l[i]? with
  | none => rw [e] at h; cases h
  | some x => rw [e] at h; exact ⟨x, rfl, Option.some.inj h⟩
theorem sr_start {P : Par} {K : PySem.W.Frag} {W : Wd} {H : Hp} {N : List Str} {ps : List PV} {vs : List V} (s : Same W.F H) (b : BoxOk P W H) (r : RepL P K W ps vs) : SR P K H W W (L2.start N vs) H (rstart N.length ps) := by
  have hl := r.length
  refine ⟨Fr0.refl s b, by unfold L2.start rstart; simp only [List.length_append, List.length_map, List.length_replicate, hl], fun i t h => ?_, fun i j t u a hi hj oi oj _ _ => ?_⟩
  · unfold rstart at h
    by_cases c : i < ps.length
    · rw [List.getElem?_append_left (by rw [List.length_map]; exact c)] at h
      obtain ⟨p, e, rfl⟩ := map_get h
      obtain ⟨v, e2, rv⟩ := r.get e
      refine ⟨v, ?_, rv⟩
      unfold L2.start
      rw [List.getElem?_append_left (by rw [List.length_map, ← hl]; exact c), List.getElem?_map, e2]
      rfl
    · rw [List.getElem?_append_right (by rw [List.length_map]; omega)] at h
      have := List.getElem?_replicate.symm.trans h
      split at this
      · cases this; trivial
      · cases this
  · exfalso
    unfold rstart at hi
    by_cases c : i < ps.length
    · rw [List.getElem?_append_left (by rw [List.length_map]; exact c)] at hi
      obtain ⟨p, e, rfl⟩ := map_get hi
      cases oi
    · rw [List.getElem?_append_right (by rw [List.length_map]; omega)] at hi
      have := List.getElem?_replicate.symm.trans hi
      split at this
      · cases this; cases oi
      · cases this
abbrev cxF (P : Program) (w : World) (K : PySem.W.Frag) (mg : Str → Option Value) (base : Heap) (N : List Str) (qual : Str) (sc : Scope) (f : Addr) (cdv : Value) (A : Around) (outer : List Env) (s : Shared) (H : Hp) (E : XK) : Cx := cxOf (L2.CX P w) P w K mg base N qual sc f cdv A outer s H E
theorem dx_of {P : Program} {w : World} {K : PySem.W.Frag} {mg : Str → Option Value} {base : Heap} {N : List Str} {qual : Str} {sc : Scope} {f : Addr} {cdv : Value} {A : Around} {outer : List Env} {s : Shared} {H : Hp} {E : XK} {Z : Par} {W : Wd} {Hb : Hp}
    {Ex : PX → Pd} (h : ∀ x n, Ex x n → upX Z K Hb W E x n) : DX ⟨Z, Hb, W⟩ (cxF P w K mg base N qual sc f cdv A outer s H E) Ex := by
  have tk0 : Takes (cxF P w K mg base N qual sc f cdv A outer s H E) (fun cls d _ H => E cls d H) := takes_of rfl rfl rfl rfl
  have tk : Takes (cxF P w K mg base N qual sc f cdv A outer s H E) (fun cls d _ H' => exK ⟨Z, Hb, W⟩ K Ex cls d H') := tk0.imp fun c d σ H' q => by
    obtain ⟨x, W', ex, fr, rx⟩ := q
    exact h x _ ex c d W' H' fr rfl rx
  exact ⟨passes_call tk fun _ _ _ _ q => q, tk, passes_of rfl, rfl⟩
section
variable {Zp : Par} {P : Program} {w : World} {K : PySem.W.Frag} {mg : Str → Option Value} {base : Heap}
theorem fnD {x qual : Str} {st : Stmt} {f : Addr} {fd : FuncData} {N ps : List Str} {k : Nat} {D : DSp} (F : Fun K x qual st f fd) (S : FnScope N ps (defScope st)) (m : MonoSp D) (len : ∀ vs Q E n, D vs Q E n → vs.length = ps.length)
    (body : ∀ (cdv : Value) (A : Around) (outer : List Env) (s : Shared) (H : Hp) (E : XK) (W : Wd) (Ex : PX → Pd), Room k (A.deeper (PyProof.Rows.envOfC qual (defScope st) s.heap.objs.size f cdv)) →
      DX ⟨Zp, H, W⟩ (cxF P w K mg base N qual (defScope st) f cdv A outer s H E) Ex → ∀ (vs : List PV) (Q : PV → Pd), D vs Q Ex W.c →
      ∃ t, DSs ⟨Zp, H, W⟩ (cxF P w K mg base N qual (defScope st) f cdv A outer s H E) (defBody st) t ∧ t { nx := fun _ => Q .non, rt := Q, bk := fun _ _ => False, ct := fun _ _ => False } (rstart N.length vs) W.c) : FnD Zp P w K mg base (k + 1) f fd ps D := by
  refine ⟨m, F.okX S (fun vs H Q E h => ?_) (fun cdv A outer s H vs Q E hr h => ?_)⟩
  · obtain ⟨W, qs, _, _, r, q⟩ := h
    rw [← r.length]; exact len _ _ _ _ q
  · obtain ⟨W, qs, sm, bx, r, q⟩ := h
    have dx : DX ⟨Zp, H, W⟩ (cxF P w K mg base N qual (defScope st) f cdv A outer s H E) (upX Zp K H W E) := dx_of fun x n h => h
    obtain ⟨t, ht, q⟩ := body cdv A outer s H E W _ hr dx qs _ q
    refine ⟨_, ht.run, W, _, sr_start sm bx r, ht.mono { nx := fun _ => Tell Zp K W H Q .non, rt := Tell Zp K W H Q, bk := fun _ _ => False, ct := fun _ _ => False } _ _ _ ⟨fun ρ n q W' σ' H' l c S' => ?_, fun p n q v W' H' l c fr rv => q v W' H' fr c rv, fun _ _ z => z.elim, fun _ _ z => z.elim⟩ q⟩
    exact q .non W' H' S'.fr c (rep_non.2 rfl)
/-- an __init__ -/
def istart (n : Nat) (x : Addr) (c : Nat) (vs : List PV) : Rho := .slf x c [] :: rstart (n - 1) vs
theorem sr_init {c : Nat} {W : Wd} {Hb : Hp} {N : List Str} {ps : List PV} {vs : List V} {x dx : Addr} (nx : Hb x = none) (nd : Hb dx = none) (s : Same W.F Hb) (b : BoxOk Zp W Hb) (r : RepL Zp K W ps vs) (hN : 0 < N.length) :
    SR Zp K Hb W W (L2.start N (.ref x :: vs)) (insH Hb x dx (Zp.cm c)) (istart N.length x c ps) := by
  have hl := r.length
  have kp : Same Hb (insH Hb x dx (Zp.cm c)) := fun y u h => by
    unfold insH
    rw [upd_ne (ne_of_none h nx), upd_ne (ne_of_none h nd)]; exact h
  have e1 : L2.start N (.ref x :: vs) = some (.ref x) :: L2.start N.tail vs := by
    unfold L2.start
    rw [List.map_cons, List.cons_append, List.length_cons, List.length_tail]
    congr 3
    omega
  have S := sr_start (N := N.tail) s b r
  rw [List.length_tail] at S
  rw [e1]
  refine ⟨⟨Wle.refl _, fun y u h => kp y u (s y u h), fun y u h _ => kp y u h, fun _ _ h => .inl h, fun _ _ h => .inl h, fun y j h => ?_⟩, by simp only [istart, List.length_cons, S.len], fun i t h => ?_, fun i j t u a hi hj oi oj ei ej => ?_⟩
  · obtain ⟨h1, u, h2, h3⟩ := b y j h
    exact ⟨h1, u, kp y u h2, h3⟩
  · cases i with
    | zero =>
      simp only [istart, List.getElem?_cons_zero, Option.some.injEq] at h
      subst h
      refine ⟨dx, [], rfl, upd_same, by simp, Nat.zero_le _, RepL.nil, nx, none_of_same s nx, ?_⟩
      cases e : W.B x with
      | none => rfl
      | some j => obtain ⟨_, u, h2, _⟩ := b x j e; rw [nx] at h2; cases h2
    | succ i =>
      simp only [istart, List.getElem?_cons_succ] at h
      have q := S.slots i t h
      simp only [List.getElem?_cons_succ]
      cases t with
      | no => trivial
      | fz p => exact q
      | own xs =>
        exfalso
        unfold rstart at h
        rcases List.mem_append.1 (List.mem_of_getElem? h) with z | z
        · obtain ⟨p, _, e⟩ := List.mem_map.1 z; cases e
        · have := List.eq_of_mem_replicate z; cases this
      | slf aa cc xs =>
        exfalso
        unfold rstart at h
        rcases List.mem_append.1 (List.mem_of_getElem? h) with z | z
        · obtain ⟨p, _, e⟩ := List.mem_map.1 z; cases e
        · have := List.eq_of_mem_replicate z; cases this
  · have only : ∀ (i : Nat) (t : Slot), (istart N.length x c ps)[i]? = some t → t.isOwn = true → i = 0 := fun i t h o => by
      cases i with
      | zero => rfl
      | succ i =>
        exfalso
        simp only [istart, List.getElem?_cons_succ] at h
        unfold rstart at h
        rcases List.mem_append.1 (List.mem_of_getElem? h) with z | z
        · obtain ⟨p, _, e⟩ := List.mem_map.1 z; subst e; cases o
        · have := List.eq_of_mem_replicate z; subst this; cases o
    rw [only i t hi oi, only j u hj oj]
theorem fnI {x qual : Str} {st : Stmt} {f : Addr} {fd : FuncData} {N ps : List Str} {k c : Nat} {D : DSi} (F : Fun K x qual st f fd) (S : FnScope N ps (defScope st)) (m : MonoSi D) (len : ∀ vs Q E n, D vs Q E n → vs.length + 1 = ps.length) (hN : 0 < N.length)
    (body : ∀ (cdv : Value) (A : Around) (outer : List Env) (s : Shared) (H Hb : Hp) (E : XK) (W : Wd) (Ex : PX → Pd), Room k (A.deeper (PyProof.Rows.envOfC qual (defScope st) s.heap.objs.size f cdv)) →
      DX ⟨Zp, Hb, W⟩ (cxF P w K mg base N qual (defScope st) f cdv A outer s H E) Ex → ∀ (x : Addr) (vs : List PV) (Q : List PV → Pd), D vs Q Ex W.c →
      ∃ t, DSs ⟨Zp, Hb, W⟩ (cxF P w K mg base N qual (defScope st) f cdv A outer s H E) (defBody st) t ∧ t { nx := fun ρ n => ∃ fs, ρ[0]? = some (.slf x c fs) ∧ fs.length = (Zp.fn c).length ∧ Q fs n, rt := fun _ _ => False, bk := fun _ _ => False, ct := fun _ _ => False } (istart N.length x c vs) W.c) :
    FnI Zp P w K mg base (k + 1) f fd ps c D := by
  refine ⟨m, F.okX S (fun vs H Q E h => ?_) (fun cdv A outer s H vs Q E hr h => ?_)⟩
  · obtain ⟨Hb, W, qs, x, dx, us, rfl, _, _, _, _, _, _, r, q⟩ := h
    rw [List.length_cons, ← r.length]; exact len _ _ _ _ q
  · obtain ⟨Hb, W, qs, x, dx, us, rfl, rfl, nx, nd, ne, sm, bx, r, q⟩ := h
    have dx' : DX ⟨Zp, Hb, W⟩ (cxF P w K mg base N qual (defScope st) f cdv A outer s (insH Hb x dx (Zp.cm c)) E) (upX Zp K Hb W E) := dx_of fun x n h => h
    obtain ⟨t, ht, q⟩ := body cdv A outer s _ Hb E W _ hr dx' x qs _ q
    refine ⟨_, ht.run, W, _, sr_init nx nd sm bx r hN, ht.mono { nx := fun ρ n => ∃ fs, ρ[0]? = some (.slf x c fs) ∧ fs.length = (Zp.fn c).length ∧ _, rt := fun _ _ => False, bk := fun _ _ => False, ct := fun _ _ => False } _ _ _ ⟨fun ρ n q W' σ' H' l cc S' => ?_, fun _ _ z => z.elim, fun _ _ z => z.elim, fun _ _ z => z.elim⟩ q⟩
    obtain ⟨fs, e0, hl, q⟩ := q
    obtain ⟨dx2, gs, e1, h1, n, _, rl, ow⟩ := S'.slots 0 _ e0
    exact q W' H' S'.fr cc ⟨dx2, gs, h1, by rw [n, hl, List.take_length], rl, ow⟩
end
end DL

set_option maxRecDepth 100000
set_option maxHeartbeats 1000000
/-! DLOwn: lists of one's own: made, grown, changed by place; comprehensions; self within __init__ -/
namespace DL
open PySem L2
section
variable {Z : Cz} {X : Cx} {P : Par} {K : PySem.W.Frag} {W : Wd} {H : Hp} {e a b o : Expr} {es : List Expr} {st : Stmt} {rest body : List Stmt} {pos p apos cpos p2 : Pos} {ta tb te : DT} {tc : DB} {t u : DSt} {Ex : PX → Pd} {H0 : Hp} {W0 : Wd} {σ : L2.St} {ρ : Rho}

/-! ### new lists -/
abbrev DN := Rho → (List PV → Pd) → Pd
def TellN (P : Par) (K : PySem.W.Frag) (W : Wd) (H : Hp) (Q : VK) (xs : List PV) : Pd := fun n => ∀ a ys W' H', Fr0 P H W W' H' → W'.c = n → H a = none → H' a = some (.lst ys) → W'.F a = none → W'.B a = none → RepL P K W' xs ys → Q (.ref a) H'
structure DNw (Z : Cz) (X : Cx) (e : Expr) (t : DN) : Prop where
  mono : MonoT t
  run : PE X e fun σ H Q => ∃ W ρ, SR Z.P X.K Z.H0 Z.W0 W σ H ρ ∧ t ρ (TellN Z.P X.K W H Q) W.c
/-- laid, not kept: what is told of the heap behind -/
theorem Fr0.laid {a : Addr} {o : HO} (s : Same W.F H) (b : BoxOk P W H) (n : H a = none) : Fr0 P H W W (upd H a o) ∧ W.F a = none ∧ W.B a = none := by
  have nB : W.B a = none := by
    cases e : W.B a with
    | none => rfl
    | some k => obtain ⟨_, u, h, _⟩ := b a k e; rw [n] at h; cases h
  refine ⟨⟨Wle.refl _, fun x u h => ?_, fun x u h _ => ?_, fun _ _ h => .inl h, fun _ _ h => .inl h, fun x k h => ?_⟩, none_of_same s n, nB⟩
  · rw [upd_ne (ne_of_none (s x u h) n)]; exact s x u h
  · rw [upd_ne (ne_of_none h n)]; exact h
  · obtain ⟨h1, u, h2, h3⟩ := b x k h
    exact ⟨h1, u, by rw [upd_ne (ne_of_none h2 n)]; exact h2, h3⟩
theorem TellN.at {Q : VK} {xs : List PV} {ys : List V} {W1 : Wd} {H1 : Hp} (q : TellN P K W H Q xs W1.c) (f : Fr0 P H W W1 H1) (r : RepL P K W1 xs ys) (nb : ∀ a, H1 a = none → H a = none) : ∀ a, H1 a = none → Q (.ref a) (upd H1 a (.lst ys)) := fun a n => by
  obtain ⟨f2, nF, nB⟩ := Fr0.laid (o := .lst ys) f.sub f.box n
  exact q a ys W1 _ (f.trans f2) rfl (nb a n) upd_same nF nB r
/-- fresh ahead of a step is fresh before -/
theorem Fr0.back {W' : Wd} {H' : Hp} (f : Fr0 P H W W' H') (bx : BoxOk P W H) {a : Addr} (n : H' a = none) : H a = none := by
  cases e : H a with
  | none => rfl
  | some o =>
    cases e2 : W.B a with
    | none => rw [f.keep a o e e2] at n; cases n
    | some k =>
      obtain ⟨_, u, h, _⟩ := f.box a k (f.le.b a k e2)
      rw [n] at h; cases h
/-- any new list, kept -/
theorem DNw.de {t : DN} (h : DNw Z X e t) : DE Z X e (fun ρ Q => t ρ fun xs => Q (.lst xs)) := by
  refine ⟨fun ρ Q Q' n hq q => h.mono ρ _ _ n (fun xs n q => hq _ _ q) q, PE.weak h.run fun σ H Q q => ?_⟩
  obtain ⟨W, ρ, S, q⟩ := q
  refine ⟨W, ρ, S, h.mono ρ _ _ _ (fun xs n q a ys W1 H1 f cc n ha nF nB r => ?_) q⟩
  refine q _ (W1.add a (.lst ys)) H1 ⟨f.le.trans (Wle.add nF), fun x u hx => ?_, f.keep, fun x u hx => ?_, f.freshB, fun x k hx => ?_⟩ cc (rep_lst.2 ⟨a, ys, rfl, add_same, RepL.mono (Wle.add nF) _ _ r⟩)
  · have h' : upd W1.F a (.lst ys) x = some u := hx
    by_cases c : x = a
    · subst c; rw [upd_same] at h'; rw [← h']; exact ha
    · rw [upd_ne c] at h'; exact f.sub x u h'
  · have h' : upd W1.F a (.lst ys) x = some u := hx
    by_cases c : x = a
    · subst c; exact .inr n
    · rw [upd_ne c] at h'; exact f.freshF x u h'
  · obtain ⟨h1, u, h2, h3⟩ := f.box x k hx
    have nb : x ≠ a := fun c => by rw [c] at hx; have h' : W1.B a = some k := hx; rw [nB] at h'; cases h'
    exact ⟨by show upd W1.F a _ x = none; rw [upd_ne nb]; exact h1, u, h2, h3⟩
def nLst (t : DA) : DN := fun ρ Q => t ρ fun xs n => xs.length ≤ sizeLine ∧ Q xs n
theorem dn_disp {t : DA} (h : DAs Z X es t) : DNw Z X (.List es pos) (nLst t) := by
  refine ⟨fun ρ Q Q' n hq q => h.mono ρ _ _ n (fun xs n q => ⟨q.1, hq _ _ q.2⟩) q, PE.weak (pe_lst h.run) fun σ H Q q => ?_⟩
  obtain ⟨W, ρ, S, q⟩ := q
  refine ⟨W, ρ, S, h.mono ρ _ _ _ (fun xs n q vs W1 H1 f1 c1 r1 => ⟨by rw [← r1.length]; exact q.1, ?_⟩) q⟩
  subst c1
  exact TellN.at q.2 f1 r1 fun a n => f1.back S.box n
/-- list(x) -/
def nList (ta : DT) : DN := fun ρ Q => ta ρ fun x n => ∃ xs, (x = .tup xs ∨ x = .lst xs ∨ x = .scr xs) ∧ Q xs n
theorem dn_list {x : Str} (hm : X.mg x = none) (hv : bootBuiltins x = some (.type "list")) (ha : DE Z X a ta) (hp : ∀ t : TA, PA X [a] t → PE X e (tCB (fun xs H Q => ∃ p ys, xs = [.ref p] ∧ (SqL X.K H p ys ∨ SqT X.K H p ys) ∧ ∀ l, H l = none → Q (.ref l) (upd H l (.lst ys))) t))
    (hs : starEach [a] X.env = (false, eval a X.env) :: starEach [] X.env := by rfl) : DNw Z X e (nList ta) := by
  have hA : DAs Z X [a] (dCons ta dNil) := da_cons ha da_nil hs
  refine ⟨fun ρ Q Q' n hq q => ha.mono ρ _ _ n (fun x n q => let ⟨xs, e, q⟩ := q; ⟨xs, e, hq _ _ q⟩) q, PE.weak (hp _ hA.run) fun σ H Q q => ?_⟩
  obtain ⟨W, ρ, S, q⟩ := q
  refine ⟨W, ρ, S, ha.mono ρ _ _ _ (fun x n q vs W1 H1 f1 c1 r1 => ?_) q⟩
  subst c1
  obtain ⟨xs, e, q⟩ := q
  obtain ⟨v, rfl, r⟩ := r1.one
  rcases e with rfl | rfl | rfl
  · rw [rep_tup] at r
    obtain ⟨a, ys, rfl, h1, l⟩ := r
    exact ⟨a, ys, rfl, Or.inr (sqT_same f1.sub h1), TellN.at q f1 l fun a n => f1.back S.box n⟩
  · rw [rep_lst] at r
    obtain ⟨a, ys, rfl, h1, l⟩ := r
    exact ⟨a, ys, rfl, Or.inl (SqL.of (f1.sub _ _ h1)), TellN.at q f1 l fun a n => f1.back S.box n⟩
  · rw [rep_scr] at r
    obtain ⟨a, ys, rfl, h1, l⟩ := r
    exact ⟨a, ys, rfl, Or.inl (sqL_same f1.sub h1), TellN.at q f1 l fun a n => f1.back S.box n⟩
/-- a list times an int -/
def nRep (ta tb : DT) : DN := fun ρ Q => ta ρ fun x => tb ρ fun y n => ∃ xs k, x = .lst xs ∧ y = .int k ∧ (-(2 ^ 63) ≤ k ∧ k < 2 ^ 63 ∧ xs.length * k.toNat ≤ sizeLine) ∧ Q (List.replicate k.toNat xs).flatten n
theorem dn_rep (ha : DE Z X a ta) (hb : DE Z X b tb) : DNw Z X (.BinOp a .Mult b pos) (nRep ta tb) := by
  refine ⟨fun ρ Q Q' n hq q => ha.mono ρ _ _ n (fun x n q => hb.mono ρ _ _ n (fun y n q => let ⟨xs, k, e, e2, c, q⟩ := q; ⟨xs, k, e, e2, c, hq _ _ q⟩) q) q, PE.weak (pe_op op_rep ha.run hb.run) fun σ H Q q => ?_⟩
  obtain ⟨W, ρ, S, q⟩ := q
  refine ⟨W, ρ, S, ha.mono ρ _ _ _ (fun x n q v W1 H1 f1 c1 r1 => ⟨W1, ρ, S.step f1, hb.mono ρ _ _ _ (fun y n q w W2 H2 f2 c2 r2 => ?_) (c1 ▸ q)⟩) q⟩
  subst c2
  obtain ⟨xs, k, rfl, rfl, c, q⟩ := q
  rw [rep_lst] at r1
  rw [rep_int] at r2
  obtain ⟨a, ys, rfl, h1, l⟩ := r1
  subst r2
  exact ⟨a, k, ys, rfl, rfl, f2.sub _ _ (f2.le.f _ _ h1), c.1, c.2.1, by rw [← l.length]; exact c.2.2, TellN.at q (f1.trans f2) ((RepL.mono f2.le _ _ l).flat _) fun a n => (f1.trans f2).back S.box n⟩
/-- list + list -/
def nCat (ta tb : DT) : DN := fun ρ Q => ta ρ fun x => tb ρ fun y n => ∃ xs ys, x = .lst xs ∧ y = .lst ys ∧ xs.length + ys.length ≤ sizeLine ∧ Q (xs ++ ys) n
theorem dn_cat (ha : DE Z X a ta) (hb : DE Z X b tb) : DNw Z X (.BinOp a .Add b pos) (nCat ta tb) := by
  refine ⟨fun ρ Q Q' n hq q => ha.mono ρ _ _ n (fun x n q => hb.mono ρ _ _ n (fun y n q => let ⟨xs, k, e, e2, c, q⟩ := q; ⟨xs, k, e, e2, c, hq _ _ q⟩) q) q, PE.weak (pe_op op_cat ha.run hb.run) fun σ H Q q => ?_⟩
  obtain ⟨W, ρ, S, q⟩ := q
  refine ⟨W, ρ, S, ha.mono ρ _ _ _ (fun x n q v W1 H1 f1 c1 r1 => ⟨W1, ρ, S.step f1, hb.mono ρ _ _ _ (fun y n q w W2 H2 f2 c2 r2 => ?_) (c1 ▸ q)⟩) q⟩
  subst c2
  obtain ⟨xs, zs, rfl, rfl, c, q⟩ := q
  rw [rep_lst] at r1 r2
  obtain ⟨a, ys, rfl, h1, l⟩ := r1
  obtain ⟨a2, ys2, rfl, h2, l2⟩ := r2
  exact ⟨a, a2, ys, ys2, rfl, rfl, f2.sub _ _ (f2.le.f _ _ h1), f2.sub _ _ h2, by rw [← l.length, ← l2.length]; exact c, TellN.at q (f1.trans f2) ((RepL.mono f2.le _ _ l).append l2) fun a n => (f1.trans f2).back S.box n⟩
/-- name = a new list, of one's own -/
def dOwn (i : Nat) (t : DN) : DSt := fun D ρ => t ρ fun xs => D.nx (ρ.set i (.own xs))
theorem lift_own {i : Nat} {t : DN} (hm : MonoT t) {D : Ends} (q : liftS Z X.K (dOwn i t) D σ H) : ∃ W ρ, SR Z.P X.K Z.H0 Z.W0 W σ H ρ ∧ t ρ (TellN Z.P X.K W H fun v H1 => gName i v σ H1 D.nx) W.c := by
  obtain ⟨W, ρ, S, q⟩ := q
  refine ⟨W, ρ, S, hm ρ _ _ _ (fun xs n q a ys W1 H1 f c1 n ha nF nB r => ?_) q⟩
  have S1 := S.step f
  have n0 : Z.H0 a = none := by
    cases e : Z.H0 a with
    | none => rfl
    | some o =>
      cases e2 : Z.W0.B a with
      | none => rw [S.fr.keep a o e e2] at n; cases n
      | some k => obtain ⟨_, u, h, _⟩ := S.fr.box a k (S.fr.le.b a k e2); rw [n] at h; cases h
  refine q W1 _ H1 f.le c1 (S1.setOwn ha r ⟨n0, nF, nB⟩ fun j s hj oj ej => ?_)
  have := S.slots j s hj
  cases s with
  | no => cases oj
  | fz _ => cases oj
  | own zs => obtain ⟨b, ws, e2, hb, _⟩ := this; rw [ej] at e2; cases e2; rw [n] at hb; cases hb
  | slf b c vs => obtain ⟨dx, gs, e2, hb, _⟩ := this; rw [ej] at e2; cases e2; rw [n] at hb; cases hb
theorem ds_own (i : Nat) {x : Str} {pos' : Pos} {t : DN} (hN : X.N.Nodup) (he : DNw Z X e t) (hi : X.N[i]? = some x := by rfl) (hx : Loc X.env.scope x := by first | exact Or.inl rfl | exact Or.inr rfl) (hs : swapsWith e (some (.Name x pos')) pos.line X.env = pure false := by rfl)
    (hf : X.fn x = true ∨ X.env.scope.names.lookup x = some .local := by first | exact .inl rfl | exact .inr rfl) : DS Z X (.Assign [.Name x pos'] e pos) (dOwn i t) :=
  ⟨fun D D' ρ n l q => he.mono ρ _ _ n (fun xs n q => l.nx _ _ q) q, PS.weak (ps_set hN hi hx he.run hs hf) fun D σ H q => lift_own he.mono q⟩

/-! ### own lists change -/
def onOwn (i : Nat) (ρ : Rho) (k : List PV → Pd) : Pd := fun n => match ρ[i]? with
  | some (.own xs) => k xs n
  | _ => False
theorem onOwn_mono {i : Nat} {ρ : Rho} {k k' : List PV → Pd} {n : Nat} (h : ∀ xs n, k xs n → k' xs n) (q : onOwn i ρ k n) : onOwn i ρ k' n := by
  unfold onOwn at q ⊢
  split at q
  · exact h _ _ q
  · exact q.elim
theorem onOwn_at {i : Nat} {ρ : Rho} {k : List PV → Pd} {n : Nat} (q : onOwn i ρ k n) : ∃ xs, ρ[i]? = some (.own xs) ∧ k xs n := by
  unfold onOwn at q
  split at q
  · rename_i xs e; exact ⟨xs, e, q⟩
  · exact q.elim
/-- x.append(e) -/
def dApnd (i : Nat) (te : DT) : DSt := fun D ρ => te ρ fun p => onOwn i ρ fun xs n => xs.length < sizeLine ∧ D.nx (ρ.set i (.own (xs ++ [p]))) n
theorem own_addr {i : Nat} {xs : List PV} (S : SR P K H0 W0 W σ H ρ) (h : ρ[i]? = some (.own xs)) : ∃ a ys, σ[i]? = some (some (.ref a)) ∧ H a = some (.lst ys) ∧ RepL P K W xs ys ∧ OwnA H0 W a := S.slots i _ h
theorem own_of (S : SR P K H0 W0 W σ H ρ) {i : Nat} {q : Prop} (h : ∃ xs, ρ[i]? = some (.own xs)) : ∃ a ys, σ[i]? = some (some (.ref a)) ∧ H a = some (.lst ys) := by
  obtain ⟨xs, h⟩ := h
  obtain ⟨a, ys, e, ha, _⟩ := S.slots i _ h
  exact ⟨a, ys, e, ha⟩
theorem ds_append (i : Nat) {x : Str} {xp : Pos} (he : DE Z X e te)
    (hp : PA X [e] (liftA Z.P X.K Z.H0 Z.W0 (dCons te dNil)) → PS X st (tDrop (tBM X.K "list" rAppend (tVar i) (liftA Z.P X.K Z.H0 Z.W0 (dCons te dNil)))))
    (hs : starEach [e] X.env = (false, eval e X.env) :: starEach [] X.env := by rfl) : DS Z X st (fun D ρ => onOwn i ρ fun _ => dApnd i te D ρ) := by
  have hA : DAs Z X [e] (dCons te dNil) := da_cons he da_nil hs
  refine ⟨fun D D' ρ n l q => onOwn_mono (fun xs n q => he.mono ρ _ _ n (fun p n q => onOwn_mono (fun xs n q => ⟨q.1, l.nx _ _ q.2⟩) q) q) q, PS.weak (hp hA.run) fun D σ H q => ?_⟩
  obtain ⟨W, ρ, S, q⟩ := q
  obtain ⟨xs0, e0, q⟩ := onOwn_at q
  obtain ⟨a, ys, ea, ha, _, _⟩ := own_addr S e0
  refine ⟨.ref a, ea, Or.inl ⟨rfl, ys, SqL.of ha⟩, W, ρ, S, he.mono ρ _ _ _ (fun p n q vs W1 H1 f1 c1 r1 => ?_) q⟩
  obtain ⟨xs, e1, c, q⟩ := onOwn_at q
  obtain ⟨v, rfl, r⟩ := r1.one
  have S1 := S.step f1
  obtain ⟨a', ys', ea', ha', l, ow⟩ := own_addr S1 e1
  rw [ea] at ea'
  cases ea'
  exact ⟨a, ys', v, rfl, rfl, ha', by rw [← l.length]; exact c, q W1 σ _ f1.le c1 (S1.mut e1 rfl ea ow ⟨a, _, rfl, upd_same, l.append (RepL.cons r RepL.nil), ow⟩)⟩
/-- x[i] = e of a list of one's own -/
def dSetO (i : Nat) (te ti : DT) : DSt := fun D ρ => te ρ fun p => ti ρ fun k => onOwn i ρ fun xs t => ∃ j n, k = .int j ∧ ixN xs.length j = some n ∧ D.nx (ρ.set i (.own (xs.set n p))) t
theorem ds_setO (i : Nat) {x : Str} {xp : Pos} {ti : DT} (he : DE Z X e te) (hi : DE Z X b ti)
    (hp : PE X e (liftE Z.P X.K Z.H0 Z.W0 te) → PE X b (liftE Z.P X.K Z.H0 Z.W0 ti) → PS X st (tAsg (liftE Z.P X.K Z.H0 Z.W0 te) (gSub (tVar i) (liftE Z.P X.K Z.H0 Z.W0 ti) rSetL))) : DS Z X st (fun D ρ => onOwn i ρ fun _ => dSetO i te ti D ρ) := by
  refine ⟨fun D D' ρ t l q => onOwn_mono (fun xs t q => he.mono ρ _ _ t (fun p t q => hi.mono ρ _ _ t (fun k t q => onOwn_mono (fun xs t q => let ⟨j, n, e, c, q⟩ := q; ⟨j, n, e, c, l.nx _ _ q⟩) q) q) q) q, PS.weak (hp he.run hi.run) fun D σ H q => ?_⟩
  obtain ⟨W, ρ, S, q⟩ := q
  obtain ⟨xs0, e0, q⟩ := onOwn_at q
  obtain ⟨a, ys, ea, ha, _, _⟩ := own_addr S e0
  refine ⟨W, ρ, S, he.mono ρ _ _ _ (fun p t q v W1 H1 f1 c1 r1 => ?_) q⟩
  refine ⟨.ref a, ea, W1, ρ, S.step f1, hi.mono ρ _ _ _ (fun k t q w W2 H2 f2 c2 r2 => ?_) (c1 ▸ q)⟩
  obtain ⟨xs, e1, j, n, rfl, c, q⟩ := onOwn_at q
  rw [rep_int] at r2
  subst r2
  have S2 := (S.step f1).step f2
  obtain ⟨a', ys', ea', ha', l, ow⟩ := own_addr S2 e1
  rw [ea] at ea'
  cases ea'
  exact ⟨a, ys', j, n, rfl, rfl, ha', by rw [← l.length]; exact c, q W2 σ _ (f1.le.trans f2.le) c2 (S2.mut e1 rfl ea ow ⟨a, _, rfl, upd_same, l.set n (Rep.mono f2.le _ _ r1), ow⟩)⟩
/-- x[k] of a list of one's own -/
def dIxO (i : Nat) (tb : DT) : DT := fun ρ Q => onOwn i ρ fun xs => tb ρ fun k n => ∃ j v, k = .int j ∧ atI xs j = some v ∧ Q v n
theorem de_ixO (i : Nat) {x : Str} {xp : Pos} (hb : DE Z X b tb) (hN : X.N[i]? = some x := by rfl) (hv : Vis X.env.scope x := by first | exact Or.inl rfl | exact Or.inr (Or.inl rfl) | exact Or.inr (Or.inr rfl))
    (hd : (x == ("__debug__" : Str)) = false := by decide) (hcd : (x == ("__classdict__" : Str)) = false := by decide) (hs : PlainIx b := by exact fun _ _ => rfl) : DE Z X (.Subscript (.Name x xp) b pos) (dIxO i tb) := by
  refine ⟨fun ρ Q Q' n hq q => onOwn_mono (fun xs n q => hb.mono ρ _ _ n (fun k n q => let ⟨j, v, e, c, q⟩ := q; ⟨j, v, e, c, hq _ _ q⟩) q) q, PE.weak (pe_ix ix_list (pe_var hN hv hd hcd) hb.run hs) fun σ H Q q => ?_⟩
  obtain ⟨W, ρ, S, q⟩ := q
  obtain ⟨xs, e0, q⟩ := onOwn_at q
  obtain ⟨a, ys, ea, ha, l, ow⟩ := own_addr S e0
  refine ⟨.ref a, ea, W, ρ, S, hb.mono ρ _ _ _ (fun k n q w W1 H1 f1 c1 r1 => ?_) q⟩
  obtain ⟨j, p, rfl, c, q⟩ := q
  rw [rep_int] at r1
  subst r1
  obtain ⟨ow', ha'⟩ := ow.step ha f1
  obtain ⟨v, c2, r⟩ := (RepL.mono f1.le _ _ l).atI c
  exact ⟨a, ys, j, v, rfl, rfl, SqL.of ha', c2, q v W1 H1 f1 c1 r⟩

/-! ### comprehensions -/
def wipeR (ρ : Rho) : List Nat → Rho
  | [] => ρ
  | v :: vs => (wipeR ρ vs).set v .no
theorem SR.setNo {i : Nat} {x : Option V} (S : SR P K H0 W0 W σ H ρ) : SR P K H0 W0 W (σ.set i x) H (ρ.set i .no) := by
  refine ⟨S.fr, by rw [List.length_set, List.length_set]; exact S.len, fun j s h => ?_, fun j k s t a hj hk oj ok ej ek => ?_⟩
  · by_cases c : i = j
    · subst c
      obtain ⟨e, _⟩ := get_set_eq h
      subst e; trivial
    · rw [List.getElem?_set_ne c] at h ⊢
      exact S.slots j s h
  · have nj : i ≠ j := fun c => by
      subst c
      obtain ⟨e, _⟩ := get_set_eq hj
      subst e; cases oj
    have nk : i ≠ k := fun c => by
      subst c
      obtain ⟨e, _⟩ := get_set_eq hk
      subst e; cases ok
    rw [List.getElem?_set_ne nj] at hj ej
    rw [List.getElem?_set_ne nk] at hk ek
    exact S.dist j k s t a hj hk oj ok ej ek
theorem SR.wipe (S : SR P K H0 W0 W σ H ρ) : ∀ vs : List Nat, SR P K H0 W0 W (L2.wipe σ vs) H (wipeR ρ vs)
  | [] => S
  | v :: vs => (SR.wipe S vs).setNo
theorem wipe_get (σ : L2.St) : ∀ (vs : List Nat) (i : Nat), (L2.wipe σ vs)[i]? = if i ∈ vs ∧ i < σ.length then some none else σ[i]?
  | [], i => by simp [L2.wipe]
  | v :: vs, i => by
    unfold L2.wipe
    by_cases c : v = i
    · subst c
      by_cases hl : v < σ.length
      · rw [List.getElem?_set_self (by rw [wipe_length]; exact hl), if_pos ⟨List.mem_cons_self, hl⟩]
      · rw [List.getElem?_eq_none (by rw [List.length_set, wipe_length]; omega), if_neg (fun z => hl z.2), List.getElem?_eq_none (by omega)]
    · rw [List.getElem?_set_ne c, wipe_get σ vs i]
      have e : (i ∈ v :: vs) ↔ i ∈ vs := by simp [Ne.symm c]
      simp only [e]
theorem wipe_agree {vs : List Nat} {σ σ2 : L2.St} (h : Agree vs (L2.wipe σ vs) σ2) : L2.wipe σ2 vs = L2.wipe σ vs := by
  have hl : σ2.length = σ.length := by rw [h.1, wipe_length]
  apply List.ext_getElem?
  intro i
  rw [wipe_get, wipe_get, hl]
  by_cases c : i ∈ vs
  · by_cases d : i < σ.length
    · rw [if_pos ⟨c, d⟩, if_pos ⟨c, d⟩]
    · rw [if_neg (fun z => d z.2), if_neg (fun z => d z.2), List.getElem?_eq_none (by omega), List.getElem?_eq_none (by omega)]
  · rw [if_neg (fun z => c z.1), if_neg (fun z => c z.1), h.2 i c, wipe_get, if_neg (fun z => c z.1)]
structure DCs (Z : Cz) (X : Cx) (ifs : List Expr) (t : DB) : Prop where
  mono : MonoT t
  run : PTs X ifs (liftB Z.P X.K Z.H0 Z.W0 t)
def dYes : DB := fun _ Q => Q true
theorem PTs.weak {ifs : List Expr} {t t' : TT} (h : PTs X ifs t) (w : ∀ σ H Q, t' σ H Q → t σ H Q) : PTs X ifs t' := ⟨fun pins s σ H Q I q => h.run pins s σ H Q I (w σ H Q q)⟩
theorem dcs_nil : DCs Z X [] dYes := ⟨fun _ _ _ _ hq q => hq _ _ q, PTs.weak pts_nil fun σ H Q q => by
  obtain ⟨W, ρ, S, q⟩ := q
  exact q W H (Fr0.refl S.same S.box) rfl⟩
theorem dcs_one {c : Expr} {t : DB} (h : DTs Z X c t) : DCs Z X [c] t := ⟨h.mono, pts_one h.run⟩
/-- the comprehension's turns over data -/
def dLcL (g : DTg) (tt : DB) (te : DT) (ρ : Rho) : List PV → List PV → (List PV → Pd) → Pd
  | [], acc, Q => Q acc
  | x :: xs, acc, Q => g x ρ fun ρ2 => tt ρ2 fun b => if b = true then te ρ2 fun y => dLcL g tt te ρ xs (acc ++ [y]) Q else dLcL g tt te ρ xs acc Q
theorem dLcL_mono {g : DTg} {tt : DB} {te : DT} (hg : MonoG g) (ht : MonoT tt) (he : MonoT te) {ρ : Rho} {Q Q' : List PV → Pd} (hq : ∀ p n, Q p n → Q' p n) : ∀ (xs acc : List PV) (n : Nat), dLcL g tt te ρ xs acc Q n → dLcL g tt te ρ xs acc Q' n
  | [], acc, n, q => hq _ _ q
  | x :: xs, acc, n, q => hg x ρ _ _ n (fun ρ2 n q => ht ρ2 _ _ n (fun b n q => by
      cases b with
      | true => rw [if_pos rfl] at q ⊢; exact he ρ2 _ _ n (fun y n q => dLcL_mono hg ht he hq xs _ n q) q
      | false => rw [if_neg Bool.false_ne_true] at q ⊢; exact dLcL_mono hg ht he hq xs _ n q) q) q
def nLc (ti : DIt) (g : DTg) (tt : DB) (te : DT) (vs : List Nat) : DN := fun ρ Q => ti ρ fun xs n => xs.length < sizeLine ∧ dLcL g tt te (wipeR ρ vs) xs [] Q n
theorem lift_lc {ti : DIt} {g : DTg} {tt : DB} {te : DT} {vs : List Nat} (hi : MonoT ti) (hg0 : MonoG g) (ht0 : MonoT tt) (he0 : MonoT te) {Q : VK} (q : ∃ W ρ, SR Z.P X.K Z.H0 Z.W0 W σ H ρ ∧ nLc ti g tt te vs ρ (TellN Z.P X.K W H Q) W.c) :
    tLc (fun σ H R => ∃ W ρ, SR Z.P X.K Z.H0 Z.W0 W σ H ρ ∧ ti ρ (fun xs n => ∀ J W' H', Fr0 Z.P H W W' H' → W'.c = n → ItOk Z.P X.K W' J xs → R J H') W.c) (liftGn Z X.K vs g) (liftB Z.P X.K Z.H0 Z.W0 tt) (liftE Z.P X.K Z.H0 Z.W0 te) vs σ H Q := by
  obtain ⟨W, ρ, S, q⟩ := q
  refine ⟨W, ρ, S, hi ρ _ _ _ (fun xs n q J W1 H1 f1 c1 it Dl nD => ?_) q⟩
  subst c1
  obtain ⟨hsz, q⟩ := q
  obtain ⟨G, Y, wk, hG, hY⟩ := it
  have S1 := S.step f1
  obtain ⟨fl, nF, nB⟩ := Fr0.laid (o := .lst []) f1.sub f1.box nD
  refine lc_it wk (fun i H' => ∃ W' acc ws, Fr0 Z.P H1 W1 W' H' ∧ H' Dl = some (.lst ws) ∧ RepL Z.P X.K W' acc ws ∧ W'.F Dl = none ∧ W'.B Dl = none ∧ acc.length ≤ i ∧ dLcL g tt te (wipeR ρ vs) (xs.drop i) acc (TellN Z.P X.K W H Q) W'.c)
    ⟨W1, [], [], fl, upd_same, RepL.nil, nF, nB, Nat.zero_le _, by rw [List.drop_zero]; exact q⟩ (fun i H' _ ⟨W', acc, ws, f, _⟩ => hG W' H' f.le f.sub) ?_ ?_
  · rintro i x H' H2 hi ⟨W', acc, ws, f, hD, rl, mF, mB, ha, q⟩ y
    obtain ⟨W2, p, ep, f2, c2, r2⟩ := hY i x H' H2 W' f.le f.sub f.box hi y
    rw [drop_of ep] at q
    have Sw : SR Z.P X.K Z.H0 Z.W0 W2 (L2.wipe σ vs) H2 (wipeR ρ vs) := ((S1.wipe vs).step f).step f2
    have stay : ∀ {Wa Wb : Wd} {Ha Hb : Hp}, Fr0 Z.P Ha Wa Wb Hb → Ha Dl = some (.lst ws) → Wa.F Dl = none → Wa.B Dl = none → Hb Dl = some (.lst ws) ∧ Wb.F Dl = none ∧ Wb.B Dl = none := fun {Wa Wb Ha Hb} f h1 h2 h3 => by
      refine ⟨f.keep _ _ h1 h3, ?_, ?_⟩
      · cases e : Wb.F Dl with
        | none => rfl
        | some u => rcases f.freshF _ u e with z | z; rw [h2] at z; cases z; rw [h1] at z; cases z
      · cases e : Wb.B Dl with
        | none => rfl
        | some u => rcases f.freshB _ u e with z | z; rw [h3] at z; cases z; rw [h1] at z; cases z
    obtain ⟨hD2, mF2, mB2⟩ := stay f2 hD mF mB
    refine ⟨W2, wipeR ρ vs, p, Sw, r2, hg0 p _ _ _ _ (fun ρ2 n q cg σ2 S2 ag => ⟨wipe_agree ag, ?_⟩) (c2.symm ▸ q)⟩
    subst cg
    refine ⟨W2, ρ2, S2, ht0 ρ2 _ _ _ (fun b n q W3 H3 f3 c3 => ?_) q⟩
    subst c3
    obtain ⟨hD3, mF3, mB3⟩ := stay f3 hD2 mF2 mB2
    cases b with
    | true =>
      rw [if_pos rfl] at q ⊢
      refine ⟨W3, ρ2, S2.step f3, he0 ρ2 _ _ _ (fun y n q v W4 H4 f4 c4 r4 => ?_) q⟩
      subst c4
      obtain ⟨hD4, mF4, mB4⟩ := stay f4 hD3 mF3 mB3
      have f5 : Fr0 Z.P H1 W1 W4 H4 := ((f.trans f2).trans f3).trans f4
      have l5 := RepL.mono ((f2.le.trans f3.le).trans f4.le) _ _ rl
      refine ⟨ws, hD4, by rw [← rl.length]; have := wk; omega, W4, acc ++ [y], ws ++ [v], ?_, upd_same, l5.append (RepL.cons r4 RepL.nil), mF4, mB4, by rw [List.length_append]; exact Nat.succ_le_succ ha, q⟩
      refine ⟨f5.le, fun z u hz => ?_, fun z u hz nz => ?_, f5.freshF, f5.freshB, fun z k hz => ?_⟩
      · rw [upd_ne (fun c => by rw [c, mF4] at hz; cases hz)]; exact f5.sub z u hz
      · rw [upd_ne (fun c => by rw [c, nD] at hz; cases hz)]; exact f5.keep z u hz nz
      · obtain ⟨g1, u, g2, g3⟩ := f5.box z k hz
        exact ⟨g1, u, by rw [upd_ne (fun c => by rw [c, mB4] at hz; cases hz)]; exact g2, g3⟩
    | false =>
      rw [if_neg Bool.false_ne_true] at q ⊢
      exact ⟨W3, acc, ws, (f.trans f2).trans f3, hD3, RepL.mono (f2.le.trans f3.le) _ _ rl, mF3, mB3, Nat.le_succ_of_le ha, q⟩
  · rintro H' ⟨W', acc, ws, f, hD, rl, mF, mB, ha, q⟩
    rw [List.drop_length] at q
    exact q Dl ws W' H' (f1.trans f) rfl (f1.back S.box nD) hD mF mB rl
theorem dn_lc {elt tg iter : Expr} {ifs : List Expr} {scope : Scope} {ti : DIt} {g : DTg} {tt : DB} {te : DT} {vs : List Nat} (D : DX Z X Ex) (hN : X.N.Nodup) (hi : DI Z X tg iter ti) (hg0 : MonoG g) (ht0 : MonoT tt) (he0 : MonoT te)
    (hp : PE X (.ListComp elt [⟨tg, iter, ifs, 0⟩] scope pos) (tLc (fun σ H R => ∃ W ρ, SR Z.P X.K Z.H0 Z.W0 W σ H ρ ∧ ti ρ (fun xs n => ∀ J W' H', Fr0 Z.P H W W' H' → W'.c = n → ItOk Z.P X.K W' J xs → R J H') W.c) (liftGn Z X.K vs g) (liftB Z.P X.K Z.H0 Z.W0 tt) (liftE Z.P X.K Z.H0 Z.W0 te) vs)) :
    DNw Z X (.ListComp elt [⟨tg, iter, ifs, 0⟩] scope pos) (nLc ti g tt te vs) := by
  refine ⟨fun ρ Q Q' n hq q => hi.mono ρ _ _ n (fun xs n q => ⟨q.1, dLcL_mono hg0 ht0 he0 hq xs [] n q.2⟩) q, PE.weak hp fun σ H Q q => lift_lc hi.mono hg0 ht0 he0 q⟩
/-- a block's context: nothing is let out of it -/
theorem dx_blk {s : Shared} {H : Hp} {scope : Scope} {C : Addr} {cl : List (Str × Addr)} {fp : List Addr} (D : DX Z X Ex) : DX Z (X.blk s H scope (PySem.compEnvC scope cl C X.env) fp) (fun _ _ => False) :=
  ⟨pass_false, (takes0 (X := X.blk s H scope (PySem.compEnvC scope cl C X.env) fp)).imp fun c d σ H' q => exK_false q, PassesOwn.never, D.calm⟩
end
end DL

set_option maxRecDepth 100000
set_option maxHeartbeats 1000000
/-! DLSelf: self within __init__; bit_length; x in l, l.index; a static method off its class -/
namespace DL
open PySem L2
section
variable {Z : Cz} {X : Cx} {P : Par} {K : PySem.W.Frag} {W : Wd} {H : Hp} {e a b o : Expr} {es : List Expr} {st : Stmt} {rest body : List Stmt} {pos p apos cpos p2 pos' : Pos} {ta tb te : DT} {tc : DB} {t u : DSt} {Ex : PX → Pd} {H0 : Hp} {W0 : Wd} {σ : L2.St} {ρ : Rho}
theorem putF_new {f : Str} {v : V} : ∀ {gs : List (Str × V)}, f ∉ gs.map (·.1) → putF f v gs = gs ++ [(f, v)]
  | [], _ => rfl
  | (g, w) :: gs, h => by
    simp only [List.map_cons, List.mem_cons, not_or] at h
    rw [show putF f v ((g, w) :: gs) = (if g = f then (g, v) :: gs else (g, w) :: putF f v gs) from rfl, if_neg (fun c => h.1 c.symm), putF_new h.2]
    rfl
def dSelfSet (i : Nat) (f : Str) (fn : Nat → List Str) (ok : Nat → Prop) (te : DT) : DSt := fun D ρ => te ρ fun p n => ∃ a c vs, ρ[i]? = some (.slf a c vs) ∧ ok c ∧ (fn c)[vs.length]? = some f ∧ D.nx (ρ.set i (.slf a c (vs ++ [p]))) n
/-- self.f = e within __init__, f the next field -/
theorem ds_self (i : Nat) {f : Str} {ok : Nat → Prop} {x : Str} {xp : Pos} (he : DE Z X e te) (hN : X.N[i]? = some x := by rfl) (hok : ∀ c, ok c → Cls X.K (Z.P.cm c) ∧ NoAttr X.K (Z.P.cm c) f ∧ (Z.P.fn c).Nodup ∧ (Z.P.fn c).length < 1000)
    (hv : Vis X.env.scope x := by first | exact Or.inl rfl | exact Or.inr (Or.inl rfl) | exact Or.inr (Or.inr rfl)) (hd : (x == ("__debug__" : Str)) = false := by decide)
    (hcd : (x == ("__classdict__" : Str)) = false := by decide)
    (hs : swapsWith e (some (.Attribute (.Name x xp) f pos')) pos.line X.env = pure false := by rfl) : DS Z X (.Assign [.Attribute (.Name x xp) f pos'] e pos) (dSelfSet i f Z.P.fn ok te) := by
  refine ⟨fun D D' ρ n l q => he.mono ρ _ _ n (fun p n q => let ⟨a, c, vs, e, o, g, q⟩ := q; ⟨a, c, vs, e, o, g, l.nx _ _ q⟩) q, PS.weak (ps_fld (pe_var hN hv hd hcd) he.run hs) fun D σ H q => ?_⟩
  obtain ⟨W, ρ, S, q⟩ := q
  refine ⟨W, ρ, S, he.mono ρ _ _ _ (fun p n q v W1 H1 f1 c1 r1 => ?_) q⟩
  obtain ⟨a, c, vs, e, o, g, q⟩ := q
  have S1 := S.step f1
  obtain ⟨dx, gs, ea, ha, hm, hl, rl, ow⟩ := S1.slots i _ e
  obtain ⟨o1, o2, o3, o4⟩ := hok c o
  have hlt : vs.length < (Z.P.fn c).length := (List.getElem?_eq_some_iff.mp g).1
  have hgl : gs.length = vs.length := by
    have := rl.length
    rw [List.length_map] at this
    exact this.symm
  have hnew : f ∉ gs.map (·.1) := by
    rw [hm]
    intro z
    obtain ⟨j, hj, ej⟩ := List.getElem_of_mem z
    rw [List.length_take] at hj
    obtain ⟨h1, h2⟩ := List.getElem?_eq_some_iff.mp g
    rw [List.getElem_take] at ej
    exact (List.pairwise_iff_getElem.1 o3 j vs.length (by omega) h1 (by omega)) (by rw [ej, h2])
  refine ⟨.ref a, ea, a, Z.P.cm c, dx, gs, rfl, ha, o1, o2, by omega, ?_⟩
  refine q W1 σ _ f1.le c1 (S1.mut (s' := .slf a c (vs ++ [p])) e rfl ea ow ⟨dx, gs ++ [(f, v)], rfl, by rw [upd_same, putF_new hnew], ?_, by rw [List.length_append]; exact hlt, ?_, ow⟩)
  · rw [List.map_append, hm, List.length_append]
    show _ = List.take (vs.length + 1) (Z.P.fn c)
    rw [List.take_add_one, g]
    rfl
  · rw [List.map_append]
    exact rl.append (RepL.cons r1 RepL.nil)
theorem idx_take : ∀ {l : List Str} {f : Str} {k m : Nat}, idx f l = some k → k < m → idx f (l.take m) = some k
  | [], _, _, _, h, _ => by simp [idx] at h
  | g :: l, f, k, m, h, hk => by
    cases m with
    | zero => omega
    | succ m =>
      rw [List.take_succ_cons]
      simp only [idx] at h ⊢
      by_cases c : f = g
      · rw [if_pos c] at h ⊢; exact h
      · rw [if_neg c] at h ⊢
        obtain ⟨j, h2, rfl⟩ := Option.map_eq_some_iff.1 h
        rw [idx_take h2 (by omega)]
        rfl
def dSelf (i : Nat) (f : Str) (fn : Nat → List Str) (ok : Nat → Prop) : DT := fun ρ Q n => ∃ a c vs k v, ρ[i]? = some (.slf a c vs) ∧ ok c ∧ idx f (fn c) = some k ∧ vs[k]? = some v ∧ Q v n
/-- self.f within __init__ -/
theorem de_self (i : Nat) {f : Str} {ok : Nat → Prop} {x : Str} {xp : Pos} (hN : X.N[i]? = some x := by rfl) (hok : ∀ c, ok c → Cls X.K (Z.P.cm c) ∧ NoAttr X.K (Z.P.cm c) f)
    (hv : Vis X.env.scope x := by first | exact Or.inl rfl | exact Or.inr (Or.inl rfl) | exact Or.inr (Or.inr rfl)) (hd : (x == ("__debug__" : Str)) = false := by decide)
    (hcd : (x == ("__classdict__" : Str)) = false := by decide) (hb : attributeBase (.Name x xp) f X.env (eval (.Name x xp) X.env) = eval (.Name x xp) X.env := by rfl) : DE Z X (.Attribute (.Name x xp) f pos) (dSelf i f Z.P.fn ok) := by
  refine ⟨fun ρ Q Q' n hq q => let ⟨a, c, vs, k, v, e, o, g, g2, q⟩ := q; ⟨a, c, vs, k, v, e, o, g, g2, hq _ _ q⟩, PE.weak (pe_fld (pe_var hN hv hd hcd) hb) fun σ H Q q => ?_⟩
  obtain ⟨W, ρ, S, a, c, vs, k, p, e, o, g, g2, q⟩ := q
  obtain ⟨dx, gs, ea, ha, hm, hl, rl, ow⟩ := S.slots i _ e
  obtain ⟨v, e3, r⟩ := rl.get g2
  have hk : k < vs.length := (List.getElem?_eq_some_iff.mp g2).1
  exact ⟨.ref a, ea, a, _, dx, gs, v, rfl, ha, (hok c o).1, (hok c o).2, idx_lookup (by rw [hm]; exact idx_take g hk) e3, q v W H (Fr0.refl S.same S.box) rfl r⟩
/-- x.bit_length() -/
def dBits (te : DT) : DT := fun ρ Q => te ρ fun x n => ∃ i, x = .int i ∧ Q (.int (Builtin.Int.intBits i : Nat)) n
theorem de_bits (ho : DE Z X o te) (hbase : attributeBase o "bit_length" X.env (eval o X.env) = eval o X.env := by rfl) (hline : (apos.endLine == pos.line) = true := by rfl) : DE Z X (.Call (.Attribute o "bit_length" apos) [] [] pos) (dBits te) := by
  refine ⟨fun ρ Q Q' n hq q => ho.mono ρ _ _ n (fun x n q => let ⟨i, e, q⟩ := q; ⟨i, e, hq _ _ q⟩) q, PE.weak (pe_bits ho.run hbase hline) fun σ H Q q => ?_⟩
  obtain ⟨W, ρ, S, q⟩ := q
  refine ⟨W, ρ, S, ho.mono ρ _ _ _ (fun x n q v W1 H1 f1 c1 r1 => ?_) q⟩
  obtain ⟨i, rfl, q⟩ := q
  rw [rep_int] at r1
  exact ⟨i, r1, q _ W1 H1 f1 c1 (rep_int.2 rfl)⟩

/-! ### x in l, l.index(x) -/
theorem toDs_any {x : PV} {n : Nat} (hx : x.okD n = true) : ∀ {xs : List PV} {m : Nat}, PV.okDs m xs = true → (PV.toDs xs).any (fun z => PyData.eqv z x.toD) = xs.any fun z => peq z x
  | [], _, _ => rfl
  | y :: ys, m, h => by
    simp only [PV.okDs, Bool.and_eq_true] at h
    simp only [PV.toDs, List.any_cons, eqv_peq y m x n h.1 hx, toDs_any hx h.2]
theorem okD_lst {xs : List PV} {n : Nat} (h : PV.okDs n xs = true) : (PV.lst xs).okD (n + 1) = true := by simpa [PV.okD] using h
def gIn (neg : Bool) : G2 := fun x y Q n => ∃ xs, (y = .lst xs ∨ y = .scr xs) ∧ x.okD 50 = true ∧ PV.okDs 50 xs = true ∧ Q (.bl (if neg then !(xs.any fun z => peq z x) else xs.any fun z => peq z x)) n
theorem gIn_mono {neg : Bool} : MonoG2 (gIn neg) := fun x y Q Q' n hq q => let ⟨xs, e, o1, o2, q⟩ := q; ⟨xs, e, o1, o2, hq _ _ q⟩
theorem okD_sh {x : PV} {n : Nat} (h : x.okD n = true) (hn : n ≤ 60) : SeqAt.shaped x.toD = true := by
  obtain ⟨a, b⟩ := okD_can x n h
  unfold SeqAt.shaped
  rw [a, decide_eq_true (by omega)]
  rfl
theorem list_dp {W : Wd} {H : Hp} {xs : List PV} {y : PV} {v : V} (e : y = .lst xs ∨ y = .scr xs) (o : PV.okDs 50 xs = true) (r : Rep P K W y v) (s : Same W.F H) : Dp K H v (.list (PV.toDs xs)) ∧ SeqAt.shaped (.list (PV.toDs xs)) = true := by
  rcases e with rfl | rfl
  · have h : (PV.lst xs).okD 51 = true := by simpa [PV.okD] using o
    have := toD_dp _ 51 v h r s
    have h2 := okD_sh h (by decide)
    simp only [PV.toD] at this h2
    exact ⟨this, h2⟩
  · have h : (PV.scr xs).okD 51 = true := by simpa [PV.okD] using o
    have := toD_dp _ 51 v h r s
    have h2 := okD_sh h (by decide)
    simp only [PV.toD] at this h2
    exact ⟨this, h2⟩
theorem dop_in (hu : X.A.units + 65 < cLine) : DOp Z X (compareOp .In) (gIn false) := by
  refine ⟨gIn_mono, fun pins s σ H x y u v Q I rx ry q => ?_⟩
  obtain ⟨W, p, r, s1, b1, r1, r2, xs, e, o1, o2, q⟩ := q
  obtain ⟨d, sh⟩ := list_dp e o2 r2 s1
  refine op_inD hu pins s σ H x y u v Q I rx ry ⟨p.toD, PV.toDs xs, toD_dp p 50 x o1 r1 s1, d, okD_sh o1 (by decide), sh, ?_⟩
  rw [toDs_any o1 o2]
  exact Tell.now q s1 b1 (rep_bl.2 rfl)
theorem dop_notIn (hu : X.A.units + 65 < cLine) : DOp Z X (compareOp .NotIn) (gIn true) := by
  refine ⟨gIn_mono, fun pins s σ H x y u v Q I rx ry q => ?_⟩
  obtain ⟨W, p, r, s1, b1, r1, r2, xs, e, o1, o2, q⟩ := q
  obtain ⟨d, sh⟩ := list_dp e o2 r2 s1
  refine op_notInD hu pins s σ H x y u v Q I rx ry ⟨p.toD, PV.toDs xs, toD_dp p 50 x o1 r1 s1, d, okD_sh o1 (by decide), sh, ?_⟩
  rw [toDs_any o1 o2]
  exact Tell.now q s1 b1 (rep_bl.2 rfl)
theorem toDs_get : ∀ {xs : List PV} {j : Nat}, (PV.toDs xs)[j]? = xs[j]?.map PV.toD
  | [], j => by simp [PV.toDs]
  | x :: xs, j => by
    cases j with
    | zero => simp [PV.toDs]
    | succ j => simpa [PV.toDs] using toDs_get (xs := xs) (j := j)
theorem okDs_get : ∀ {xs : List PV} {j m : Nat} {z : PV}, PV.okDs m xs = true → xs[j]? = some z → z.okD m = true
  | [], _, _, _, _, e => by simp at e
  | x :: xs, j, m, z, h, e => by
    simp only [PV.okDs, Bool.and_eq_true] at h
    cases j with
    | zero => simp at e; subst e; exact h.1
    | succ j => exact okDs_get h.2 (by simpa using e)
def dIndex (to te : DT) : DT := fun ρ Q => to ρ fun x n => ∃ xs, x = .lst xs ∧ te ρ (fun y n => ∃ j z, y.okD 50 = true ∧ PV.okDs 50 xs = true ∧ xs[j]? = some z ∧ peq z y = true ∧ (∀ m z', m < j → xs[m]? = some z' → peq z' y = false) ∧ Q (.int (j : Nat)) n) n
theorem de_index (hu : X.A.units + 65 < cLine) (ho : DE Z X o ta) (ha : DE Z X e te) (hs : starEach [e] X.env = (false, eval e X.env) :: starEach [] X.env := by rfl)
    (hp : MtR X "list.index" (rIndexD X.K) → PE X o (liftE Z.P X.K Z.H0 Z.W0 ta) → PA X [e] (liftA Z.P X.K Z.H0 Z.W0 (dCons te dNil)) → PE X b (tBM X.K "list" (rIndexD X.K) (liftE Z.P X.K Z.H0 Z.W0 ta) (liftA Z.P X.K Z.H0 Z.W0 (dCons te dNil)))) : DE Z X b (dIndex ta te) := by
  have hA : DAs Z X [e] (dCons te dNil) := da_cons ha da_nil hs
  refine ⟨fun ρ Q Q' n hq q => ho.mono ρ _ _ n (fun x n q => let ⟨xs, e, q⟩ := q; ⟨xs, e, ha.mono ρ _ _ n (fun y n q => let ⟨j, z, o1, o2, g, g1, g2, q⟩ := q; ⟨j, z, o1, o2, g, g1, g2, hq _ _ q⟩) q⟩) q, PE.weak (hp (mt_indexD hu) ho.run hA.run) fun σ H Q q => ?_⟩
  obtain ⟨W, ρ, S, q⟩ := q
  refine ⟨W, ρ, S, ho.mono ρ _ _ _ (fun x n q v W1 H1 f1 c1 r1 => ?_) q⟩
  subst c1
  obtain ⟨xs, rfl, q⟩ := q
  have r1' := r1
  rw [rep_lst] at r1
  obtain ⟨a, ys, rfl, h1, l⟩ := r1
  refine ⟨Or.inl ⟨rfl, ys, SqL.of (f1.sub _ _ h1)⟩, W1, ρ, S.step f1, ha.mono ρ _ _ _ (fun y n q vs W2 H2 f2 c2 r2 => ?_) q⟩
  obtain ⟨j, z, o1, o2, g, g1, g2, q⟩ := q
  obtain ⟨w, rfl, r⟩ := r2.one
  obtain ⟨d, sh⟩ := list_dp (.inl rfl) o2 (Rep.mono f2.le _ _ r1') f2.sub
  refine ⟨a, w, y.toD, PV.toDs xs, j, z.toD, rfl, rfl, d, toD_dp y 50 w o1 r f2.sub, sh, okD_sh o1 (by decide), by rw [toDs_get, g]; rfl, ?_, fun m z' hm e => ?_, q _ W2 H2 (f1.trans f2) c2 (rep_int.2 rfl)⟩
  · rw [eqv_peq z 50 y 50 (okDs_get o2 g) o1]; exact g1
  · rw [toDs_get] at e
    obtain ⟨z2, e2, rfl⟩ := Option.map_eq_some_iff.1 e
    rw [eqv_peq z2 50 y 50 (okDs_get o2 e2) o1]; exact g2 m z2 hm e2

/-! ### C.m(..), m a static method -/
structure SMet (K : PySem.W.Frag) (C : Addr) (m : Str) (p g : Addr) : Prop where
  rd : PySem.W.readsIn K C (.type "type") = true
  ga : PySem.W.specialIn K (.ref C) "__getattribute__" = some (some (.builtin "type.__getattribute__"))
  at_ : PySem.W.findCls K (.ref C) (.type "type") m = some (.get (.builtin "staticmethod.__get__") (.ref p) .none (.ref C))
  rc : ∃ rest, PySem.W.recIn K p "staticmethod" = some (.ref g :: rest)
  kp : PySem.W.keepIn K (.ref g) = true
theorem getsm_ok {pins : List (Addr × Obj)} {s : Shared} {pl : Sem Bool} {C p g : Addr} {m : Str} {A : Around} {E : Value → Shared → Prop} {Q : Value × List Value → Shared → Prop} (I : Inv X pins σ H s) (k : SMet X.K C m p g)
    (h : ∀ s', Inv X pins σ H s' → Q (.ref g, []) s') : wpAny (model X.prog X.w) A (getMethod (.ref C) m pl) Q E s := by
  obtain ⟨rest, hp⟩ := k.rc
  refine PySem.W.method_cls I.kIn k.ga (PySem.W.cls_bind I.kIn k.rd k.at_ ?_)
  exact wpAny_call (PySem.W.sm_get (s := { s with toks := s.toks + 1 }) I.kIn hp (PySem.W.handed_on rfl (h _ (I.tok _))))
def tSM (C : Addr) (sp : Sp) (dvs : List V) (E : XK) (ta : TE) (t : TA) : TE := fun σ H Q => ta σ H fun x H1 => x = .ref C ∧ t σ H1 fun vs H2 => sp (vs ++ dvs) H2 Q E
theorem pe_smeth {CX : CXT} {k : Nat} {C p g : Addr} {fd : FuncData} {ps : List Str} {dvs : List V} {ds : List Value} {sp : Sp} {E : XK} {m : Str} {pl : Sem Bool} {ta : TE} {t : TA} (he : PE X o ta) (c : SMet X.K C m p g) (F : FnOk X.prog X.w X.K X.mg X.base CX k g fd ps sp) (hr : Room k X.A) (hb : Binds X.K fd ps ds) (hd : Vals dvs ds) (hx : Passes CX X E) (ha : PA X (e :: es) t)
    (hst : starEach (e :: es) X.env = (false, eval e X.env) :: starEach es X.env := by rfl) (hpl : (backTo pos (starEach es X.env)).any (·.1) = false := by rfl)
    (ht : eval (.Call (.Attribute o m apos) (e :: es) [] pos) X.env = (do
      let ov ← eval o X.env
      standAt apos.atName
      let (f, first) ← holding [ov] (getMethod ov m pl)
      callWith pos f first (backTo pos (starEach (e :: es) X.env)) (backToKw pos (keywordEach [] X.env))) := by rfl) :
    PE X (.Call (.Attribute o m apos) (e :: es) [] pos) (tSM C sp dvs E ta t) := by
  refine ⟨fun pins s σ H Q I h => ?_⟩
  refine PySem.W.methodCall_KW (pl := pl) (thn (he.run pins s σ H _ I h) fun u s1 ⟨x, H1, I1, rx, ex, q⟩ => ?_) ht
  subst ex
  obtain rfl : u = Value.ref C := rx
  refine getsm_ok I1 c fun s2 I2 => ?_
  refine PySem.W.callWith_K (h₀ := X.base) I2.ok.mod.kin c.kp (thn (ha.run pos pins s2 σ H1 _ I2 q) fun us s3 ⟨vs, H2, I3, rv, q2⟩ => ⟨I3.kIn, ?_⟩) hst hpl
  exact run_fn F hr hb hd hx I3 rv q2
/-- the class by its name, then a static method of it -/
def dSM (D : DSp) (dps : List PV) (Ex : PX → Pd) (t : DA) : DT := fun ρ Q => t ρ fun ps => D (ps ++ dps) Q Ex
theorem de_smeth {k : Nat} {C p g : Addr} {fd : FuncData} {ps : List Str} {dvs : List V} {ds : List Value} {D : DSp} {dps : List PV} {m x : Str} {pl : Sem Bool} {t : DA} (c : SMet X.K C m p g) (F : FnD Z.P X.prog X.w X.K X.mg X.base k g fd ps D) (hr : Room k X.A) (hb : Binds X.K fd ps ds) (hd : Vals dvs ds)
    (hx : DX Z X Ex) (hd2 : ∀ W, RepL Z.P X.K W dps dvs) (ho : PE X o (tC (.ref C))) (ha : DAs Z X (e :: es) t)
    (hst : starEach (e :: es) X.env = (false, eval e X.env) :: starEach es X.env := by rfl) (hpl : (backTo pos (starEach es X.env)).any (·.1) = false := by rfl)
    (ht : eval (.Call (.Attribute o m apos) (e :: es) [] pos) X.env = (do
      let ov ← eval o X.env
      standAt apos.atName
      let (f, first) ← holding [ov] (getMethod ov m pl)
      callWith pos f first (backTo pos (starEach (e :: es) X.env)) (backToKw pos (keywordEach [] X.env))) := by rfl) : DE Z X (.Call (.Attribute o m apos) (e :: es) [] pos) (dCall D dps Ex t) := by
  refine de_call (Ex := Ex) F.mono ha hd2 (fun h => ?_)
  refine PE.weak (pe_smeth ho c F.ok hr hb hd hx.hx h hst hpl ht) fun σ H Q q => ⟨rfl, q⟩
end
end DL

set_option maxRecDepth 100000
set_option maxHeartbeats 1000000
/-! DLWalk: defs with defaults; calls in one word -/
namespace DL
open PySem L2
section
variable {Zp : Par} {P : Program} {w : World} {K : PySem.W.Frag} {mg : Str → Option Value} {base : Heap}
theorem fnDD {x qual : Str} {st : Stmt} {f : Addr} {fd : FuncData} {N ps : List Str} {k : Nat} {D : DSp} {dvs : List V} {kws : List (Str × V)} (F : FunD K x qual (defArgs st) (defBody st) (defScope st) dvs kws f fd) (S : FnScope N ps (defScope st)) (m : MonoSp D) (len : ∀ vs Q E n, D vs Q E n → vs.length = ps.length)
    (body : ∀ (cdv : Value) (A : Around) (outer : List Env) (s : Shared) (H : Hp) (E : XK) (W : Wd) (Ex : PX → Pd), Room k (A.deeper (PyProof.Rows.envOfC qual (defScope st) s.heap.objs.size f cdv)) →
      DX ⟨Zp, H, W⟩ (cxF P w K mg base N qual (defScope st) f cdv A outer s H E) Ex → ∀ (vs : List PV) (Q : PV → Pd), D vs Q Ex W.c →
      ∃ t, DSs ⟨Zp, H, W⟩ (cxF P w K mg base N qual (defScope st) f cdv A outer s H E) (defBody st) t ∧ t { nx := fun _ => Q .non, rt := Q, bk := fun _ _ => False, ct := fun _ _ => False } (rstart N.length vs) W.c) : FnD Zp P w K mg base (k + 1) f fd ps D := by
  refine ⟨m, F.ok S (fun vs H Q E h => ?_) (fun cdv A outer s H vs Q E hr h => ?_)⟩
  · obtain ⟨W, qs, _, _, r, q⟩ := h
    rw [← r.length]; exact len _ _ _ _ q
  · obtain ⟨W, qs, sm, bx, r, q⟩ := h
    have dx : DX ⟨Zp, H, W⟩ (cxF P w K mg base N qual (defScope st) f cdv A outer s H E) (upX Zp K H W E) := dx_of fun x n h => h
    obtain ⟨t, ht, q⟩ := body cdv A outer s H E W _ hr dx qs _ q
    refine ⟨_, ht.run, W, _, sr_start sm bx r, ht.mono { nx := fun _ => Tell Zp K W H Q .non, rt := Tell Zp K W H Q, bk := fun _ _ => False, ct := fun _ _ => False } _ _ _ ⟨fun ρ n q W' σ' H' l c S' => ?_, fun p n q v W' H' l c fr rv => q v W' H' fr c rv, fun _ _ z => z.elim, fun _ _ z => z.elim⟩ q⟩
    exact q .non W' H' S'.fr c (rep_non.2 rfl)
theorem fnID {x qual : Str} {st : Stmt} {f : Addr} {fd : FuncData} {N ps : List Str} {k c : Nat} {D : DSi} {dvs : List V} {kws : List (Str × V)} (F : FunD K x qual (defArgs st) (defBody st) (defScope st) dvs kws f fd) (S : FnScope N ps (defScope st)) (m : MonoSi D) (len : ∀ vs Q E n, D vs Q E n → vs.length + 1 = ps.length) (hN : 0 < N.length)
    (body : ∀ (cdv : Value) (A : Around) (outer : List Env) (s : Shared) (H Hb : Hp) (E : XK) (W : Wd) (Ex : PX → Pd), Room k (A.deeper (PyProof.Rows.envOfC qual (defScope st) s.heap.objs.size f cdv)) →
      DX ⟨Zp, Hb, W⟩ (cxF P w K mg base N qual (defScope st) f cdv A outer s H E) Ex → ∀ (x : Addr) (vs : List PV) (Q : List PV → Pd), D vs Q Ex W.c →
      ∃ t, DSs ⟨Zp, Hb, W⟩ (cxF P w K mg base N qual (defScope st) f cdv A outer s H E) (defBody st) t ∧ t { nx := fun ρ n => ∃ fs, ρ[0]? = some (.slf x c fs) ∧ fs.length = (Zp.fn c).length ∧ Q fs n, rt := fun _ _ => False, bk := fun _ _ => False, ct := fun _ _ => False } (istart N.length x c vs) W.c) :
    FnI Zp P w K mg base (k + 1) f fd ps c D := by
  refine ⟨m, F.ok S (fun vs H Q E h => ?_) (fun cdv A outer s H vs Q E hr h => ?_)⟩
  · obtain ⟨Hb, W, qs, x, dx, us, rfl, _, _, _, _, _, _, r, q⟩ := h
    rw [List.length_cons, ← r.length]; exact len _ _ _ _ q
  · obtain ⟨Hb, W, qs, x, dx, us, rfl, rfl, nx, nd, ne, sm, bx, r, q⟩ := h
    have dx' : DX ⟨Zp, Hb, W⟩ (cxF P w K mg base N qual (defScope st) f cdv A outer s (insH Hb x dx (Zp.cm c)) E) (upX Zp K Hb W E) := dx_of fun x n h => h
    obtain ⟨t, ht, q⟩ := body cdv A outer s _ Hb E W _ hr dx' x qs _ q
    refine ⟨_, ht.run, W, _, sr_init nx nd sm bx r hN, ht.mono { nx := fun ρ n => ∃ fs, ρ[0]? = some (.slf x c fs) ∧ fs.length = (Zp.fn c).length ∧ _, rt := fun _ _ => False, bk := fun _ _ => False, ct := fun _ _ => False } _ _ _ ⟨fun ρ n q W' σ' H' l cc S' => ?_, fun _ _ z => z.elim, fun _ _ z => z.elim, fun _ _ z => z.elim⟩ q⟩
    obtain ⟨fs, e0, hl, q⟩ := q
    obtain ⟨dx2, gs, e1, h1, n, _, rl, ow⟩ := S'.slots 0 _ e0
    exact q W' H' S'.fr cc ⟨dx2, gs, h1, by rw [n, hl, List.take_length], rl, ow⟩
end
section
variable {Z : Cz} {X : Cx} {e a b o : Expr} {es : List Expr} {pos p apos : Pos} {ta tb te : DT} {t : DA} {Ex : PX → Pd} {k c : Nat} {f C g q : Addr} {fd : FuncData} {ps : List Str} {D : DSp} {Di : DSi} {x m : Str} {dps : List PV} {dvs : List V} {ds : List Value}
/-- f(e, ..) -/
theorem de_fn (F : FnD Z.P X.prog X.w X.K X.mg X.base k f fd ps D) (hr : Room k X.A) (hm : X.mg x = some (.ref f)) (hk : PySem.W.keepIn X.K (.ref f) = true) (hb : Binds X.K fd ps []) (dx : DX Z X Ex) (ha : DAs Z X (e :: es) t) (hg : Gl X x := by rfl)
    (hdb : (x == ("__debug__" : Str)) = false := by decide) (he : starEach (e :: es) X.env = (false, eval e X.env) :: starEach es X.env := by rfl) (hpl : (backTo pos (starEach es X.env)).any (·.1) = false := by rfl) : DE Z X (.Call (.Name x p) (e :: es) [] pos) (dCall D [] Ex t) :=
  de_call F.mono ha no_dps fun h => pe_call F.ok hr hg hm hk hb .nil dx.hx h hdb he hpl
theorem de_fn0 (F : FnD Z.P X.prog X.w X.K X.mg X.base k f fd ps D) (hr : Room k X.A) (hm : X.mg x = some (.ref f)) (hk : PySem.W.keepIn X.K (.ref f) = true) (hb : Binds X.K fd ps []) (dx : DX Z X Ex) (hg : Gl X x := by rfl)
    (hdb : (x == ("__debug__" : Str)) = false := by decide) : DE Z X (.Call (.Name x p) [] [] pos) (dCall D [] Ex dNil) :=
  de_call0 F.mono no_dps (pe_call0 F.ok hr hg hm hk hb .nil dx.hx hdb)
/-- f(e, ..), the last ones by their defaults -/
theorem de_fnD (F : FnD Z.P X.prog X.w X.K X.mg X.base k f fd ps D) (hr : Room k X.A) (hm : X.mg x = some (.ref f)) (hk : PySem.W.keepIn X.K (.ref f) = true) (hb : ∃ ds, Vals dvs ds ∧ Binds X.K fd ps ds) (dx : DX Z X Ex) (ha : DAs Z X (e :: es) t) (hd : ∀ W, RepL Z.P X.K W dps dvs) (hg : Gl X x := by rfl)
    (hdb : (x == ("__debug__" : Str)) = false := by decide) (he : starEach (e :: es) X.env = (false, eval e X.env) :: starEach es X.env := by rfl) (hpl : (backTo pos (starEach es X.env)).any (·.1) = false := by rfl) : DE Z X (.Call (.Name x p) (e :: es) [] pos) (dCall D dps Ex t) :=
  let ⟨_, hv, hb⟩ := hb
  de_call F.mono ha hd fun h => pe_call F.ok hr hg hm hk hb hv dx.hx h hdb he hpl
/-- C(e, ..) -/
theorem de_mk (F : FnI Z.P X.prog X.w X.K X.mg X.base k f fd ps c Di) (M : Mk X.K (Z.P.cm c) f) (hr : Room (k + 1) X.A) (hm : X.mg x = some (.ref (Z.P.cm c))) (hb : Binds X.K fd ps []) (dx : DX Z X Ex) (ha : DAs Z X (e :: es) t) (hg : Gl X x := by rfl)
    (hdb : (x == ("__debug__" : Str)) = false := by decide) (he : starEach (e :: es) X.env = (false, eval e X.env) :: starEach es X.env := by rfl) (hpl : (backTo pos (starEach es X.env)).any (·.1) = false := by rfl) : DE Z X (.Call (.Name x p) (e :: es) [] pos) (dMake c Di [] Ex t) :=
  de_make F.mono ha no_dps fun h => pe_make M F.ok hr hg hm hb .nil dx.hx h hdb he hpl
theorem de_mkD (F : FnI Z.P X.prog X.w X.K X.mg X.base k f fd ps c Di) (M : Mk X.K (Z.P.cm c) f) (hr : Room (k + 1) X.A) (hm : X.mg x = some (.ref (Z.P.cm c))) (hb : ∃ ds, Vals dvs ds ∧ Binds X.K fd ps ds) (dx : DX Z X Ex) (ha : DAs Z X (e :: es) t) (hd : ∀ W, RepL Z.P X.K W dps dvs) (hg : Gl X x := by rfl)
    (hdb : (x == ("__debug__" : Str)) = false := by decide) (he : starEach (e :: es) X.env = (false, eval e X.env) :: starEach es X.env := by rfl) (hpl : (backTo pos (starEach es X.env)).any (·.1) = false := by rfl) : DE Z X (.Call (.Name x p) (e :: es) [] pos) (dMake c Di dps Ex t) :=
  let ⟨_, hv, hb⟩ := hb
  de_make F.mono ha hd fun h => pe_make M F.ok hr hg hm hb hv dx.hx h hdb he hpl
theorem de_mk0 (F : FnI Z.P X.prog X.w X.K X.mg X.base k f fd ps c Di) (M : Mk X.K (Z.P.cm c) f) (hr : Room (k + 1) X.A) (hm : X.mg x = some (.ref (Z.P.cm c))) (hb : Binds X.K fd ps []) (dx : DX Z X Ex) (hg : Gl X x := by rfl)
    (hdb : (x == ("__debug__" : Str)) = false := by decide) : DE Z X (.Call (.Name x p) [] [] pos) (dMake c Di [] Ex dNil) :=
  de_make0 F.mono no_dps (pe_make0 M F.ok hr hg hm hb .nil dx.hx hdb)
/-- o.m(e, ..) -/
theorem de_mt {pl : Sem Bool} (ho : DE Z X o ta) (cl : Cls X.K (Z.P.cm c)) (M : Meth X.K (Z.P.cm c) m f) (F : FnD Z.P X.prog X.w X.K X.mg X.base k f fd ps D) (hr : Room k X.A) (hb : Binds X.K fd ps []) (dx : DX Z X Ex) (ha : DAs Z X (e :: es) t) (hn : m ∉ Z.P.fn c)
    (hst : starEach (e :: es) X.env = (false, eval e X.env) :: starEach es X.env := by rfl) (hpl : (backTo pos (starEach es X.env)).any (·.1) = false := by rfl)
    (ht : eval (.Call (.Attribute o m apos) (e :: es) [] pos) X.env = (do
      let ov ← eval o X.env
      standAt apos.atName
      let (f, first) ← holding [ov] (getMethod ov m pl)
      callWith pos f first (backTo pos (starEach (e :: es) X.env)) (backToKw pos (keywordEach [] X.env))) := by rfl) : DE Z X (.Call (.Attribute o m apos) (e :: es) [] pos) (dMeth c D [] Ex ta t) :=
  de_meth F.mono ho ha no_dps hn fun h1 h2 => pe_meth h1 cl M F.ok hr hb .nil dx.hx h2 hst hpl ht
theorem de_mt0 {pl : Sem Bool} (ho : DE Z X o ta) (cl : Cls X.K (Z.P.cm c)) (M : Meth X.K (Z.P.cm c) m f) (F : FnD Z.P X.prog X.w X.K X.mg X.base k f fd ps D) (hr : Room k X.A) (hb : Binds X.K fd ps []) (dx : DX Z X Ex) (hn : m ∉ Z.P.fn c)
    (ht : eval (.Call (.Attribute o m apos) [] [] pos) X.env = (do
      let ov ← eval o X.env
      standAt apos.atName
      let (f, first) ← holding [ov] (getMethod ov m pl)
      callWith pos f first (backTo pos (starEach [] X.env)) (backToKw pos (keywordEach [] X.env))) := by rfl) : DE Z X (.Call (.Attribute o m apos) [] [] pos) (dMeth c D [] Ex ta dNil) :=
  de_meth0 F.mono ho no_dps hn fun h1 => pe_meth0 h1 cl M F.ok hr hb .nil dx.hx ht
/-- o.f, a property -/
theorem de_pr (ho : DE Z X o ta) (cl : Cls X.K (Z.P.cm c)) (hp : PropOf X.K (Z.P.cm c) m q g) (F : FnD Z.P X.prog X.w X.K X.mg X.base k g fd ps D) (hr : Room (k + 1) X.A) (hb : Binds X.K fd ps []) (hab : attributeBase o m X.env (eval o X.env) = eval o X.env := by rfl) : DE Z X (.Attribute o m pos) (dProp c D ta) :=
  de_prop F.mono ho fun h => pe_prop h cl hp F.ok hr hb .nil pass_false hab
/-- C.m(e, ..), static -/
theorem de_sm {pl : Sem Bool} (S : SMet X.K C m q g) (hm : X.mg x = some (.ref C)) (F : FnD Z.P X.prog X.w X.K X.mg X.base k g fd ps D) (hr : Room k X.A) (hb : Binds X.K fd ps []) (dx : DX Z X Ex) (ha : DAs Z X (e :: es) t) (hg : Gl X x := by rfl) (hdb : (x == ("__debug__" : Str)) = false := by decide)
    (hst : starEach (e :: es) X.env = (false, eval e X.env) :: starEach es X.env := by rfl) (hpl : (backTo pos (starEach es X.env)).any (·.1) = false := by rfl)
    (ht : eval (.Call (.Attribute (.Name x p) m apos) (e :: es) [] pos) X.env = (do
      let ov ← eval (.Name x p) X.env
      standAt apos.atName
      let (f, first) ← holding [ov] (getMethod ov m pl)
      callWith pos f first (backTo pos (starEach (e :: es) X.env)) (backToKw pos (keywordEach [] X.env))) := by rfl) : DE Z X (.Call (.Attribute (.Name x p) m apos) (e :: es) [] pos) (dCall D [] Ex t) :=
  de_smeth (x := x) S F hr hb .nil dx no_dps (pe_glob hg hm rfl hdb) ha hst hpl ht
end
end DL

set_option maxRecDepth 100000
set_option maxHeartbeats 1000000
/-! DLMore: fields by place, is None, lists' own methods in one word, comprehensions by name -/
namespace DL
open PySem L2
section
variable {Z : Cz} {X : Cx} {P : Par} {K : PySem.W.Frag} {W : Wd} {H : Hp} {e a b o : Expr} {es : List Expr} {st : Stmt} {rest body : List Stmt} {pos p apos cpos p2 pos' xp : Pos} {ta tb te : DT} {tc : DB} {t u : DSt} {Ex : PX → Pd} {H0 : Hp} {W0 : Wd} {σ : L2.St} {ρ : Rho}
/-- field k of an instance of class c -/
def gF (c k : Nat) : G1 := fun x Q n => ∃ vs, x = .ins c vs ∧ ∃ v, vs[k]? = some v ∧ Q v n
theorem gF_mono {c k : Nat} : MonoG1 (gF c k) := fun x Q Q' n hq ⟨vs, e, v, g, q⟩ => ⟨vs, e, v, g, hq _ _ q⟩
theorem de_f (c k : Nat) {f : Str} (he : DE Z X e te) (hx : idx f (Z.P.fn c) = some k) (cl : Cls X.K (Z.P.cm c)) (na : NoAttr X.K (Z.P.cm c) f) (hb : attributeBase e f X.env (eval e X.env) = eval e X.env := by rfl) : DE Z X (.Attribute e f pos) (dUn (gF c k) te) := by
  have h := de_fld (ok := fun x => x = c) (f := f) (pos := pos) he (fun c' hc => by subst hc; exact ⟨cl, na⟩) hb
  refine ⟨dUn_mono gF_mono he.mono, PE.weak h.run fun σ H Q q => ?_⟩
  obtain ⟨W, ρ, S, q⟩ := q
  exact ⟨W, ρ, S, he.mono ρ _ _ _ (fun x n ⟨vs, e, v, g, q⟩ => by subst e; exact ⟨rfl, k, v, hx, g, q⟩) q⟩
/-- x is None -/
def PV.isNon : PV → Option Bool
  | .non => some true
  | .raw _ => none
  | _ => some false
def gIsN (neg : Bool) : G2 := fun x y Q n => y = .non ∧ ∃ b, x.isNon = some b ∧ Q (.bl (if neg then !b else b)) n
theorem gIsN_mono {neg : Bool} : MonoG2 (gIsN neg) := fun x y Q Q' n hq ⟨e, b, g, q⟩ => ⟨e, b, g, hq _ _ q⟩
theorem isNon_rep {x : PV} {v : V} {b : Bool} (r : Rep P K W x v) (h : x.isNon = some b) : decide (v = .non) = b := by
  cases x with
  | non => rw [rep_non] at r; cases h; simp [r]
  | bl i => rw [rep_bl] at r; cases h; simp [r]
  | int i => rw [rep_int] at r; cases h; simp [r]
  | str i => rw [rep_str] at r; cases h; simp [r]
  | tup xs => rw [rep_tup] at r; cases h; obtain ⟨a, ys, rfl, _⟩ := r; simp
  | lst xs => rw [rep_lst] at r; cases h; obtain ⟨a, ys, rfl, _⟩ := r; simp
  | scr xs => rw [rep_scr] at r; cases h; obtain ⟨a, ys, rfl, _⟩ := r; simp
  | ins c vs => rw [rep_ins] at r; cases h; obtain ⟨a, dx, gs, rfl, _⟩ := r; simp
  | box k => rw [rep_box] at r; cases h; obtain ⟨a, rfl, _⟩ := r; simp
  | raw u => cases h
theorem dop_isN : DOp Z X (compareOp .Is) (gIsN false) := by
  refine ⟨gIsN_mono, fun pins s σ H x y u v Q I rx ry q => ?_⟩
  obtain ⟨W, p, r, s1, b1, r1, r2, rfl, b, hb, q⟩ := q
  rw [rep_non] at r2
  refine op_isN pins s σ H x y u v Q I rx ry ⟨r2, ?_⟩
  rw [isNon_rep r1 hb]
  exact Tell.now q s1 b1 (rep_bl.2 rfl)
theorem dop_notN : DOp Z X (compareOp .IsNot) (gIsN true) := by
  refine ⟨gIsN_mono, fun pins s σ H x y u v Q I rx ry q => ?_⟩
  obtain ⟨W, p, r, s1, b1, r1, r2, rfl, b, hb, q⟩ := q
  rw [rep_non] at r2
  refine op_notN pins s σ H x y u v Q I rx ry ⟨r2, ?_⟩
  rw [isNon_rep r1 hb]
  exact Tell.now q s1 b1 (rep_bl.2 rfl)
/-- x.append(e), x a list of one's own -/
theorem ds_app (i : Nat) {x : Str} (he : DE Z X e te) (hN : X.N[i]? = some x := by rfl) (hv : Vis X.env.scope x := by first | exact Or.inl rfl | exact Or.inr (Or.inl rfl) | exact Or.inr (Or.inr rfl)) (hd : (x == ("__debug__" : Str)) = false := by decide)
    (hcd : (x == ("__classdict__" : Str)) = false := by decide) (hbase : attributeBase (.Name x xp) "append" X.env (eval (.Name x xp) X.env) = eval (.Name x xp) X.env := by rfl)
    (hfew : ((backTo cpos (starEach [e] X.env)).all (fun x => !x.1) && (backToKw cpos (keywordEach [] X.env)).all (fun x => x.1.isSome)
      && decide (([e] : List Expr).length + ([] : List Keyword).length + (if ([] : List Keyword).isEmpty then 0 else 1) < 30)) = true := by rfl)
    (hline : (apos.endLine == cpos.line) = true := by rfl) (hs : starEach [e] X.env = (false, eval e X.env) :: starEach [] X.env := by rfl) (hplain : (backTo cpos (starEach [] X.env)).any (·.1) = false := by rfl)
    (hsw : swapsWith (.Call (.Attribute (.Name x xp) "append" apos) [e] [] cpos) none pos.line X.env = pure false := by rfl) :
    DS Z X (.Expr (.Call (.Attribute (.Name x xp) "append" apos) [e] [] cpos) pos) (fun D ρ => onOwn i ρ fun _ => dApnd i te D ρ) :=
  ds_append (x := x) (xp := xp) i he (fun h => ps_expr (pe_bm PySem.F.plainAttrs_list PySem.F.slot_list_append PySem.F.type_list_append mt_append (pe_var hN hv hd hcd) h hbase hfew hline hs hplain) hsw) hs
/-- l.index(e) -/
theorem de_idx (hu : X.A.units + 65 < cLine) (ho : DE Z X o ta) (he : DE Z X e te) (hbase : attributeBase o "index" X.env (eval o X.env) = eval o X.env := by rfl)
    (hfew : ((backTo cpos (starEach [e] X.env)).all (fun x => !x.1) && (backToKw cpos (keywordEach [] X.env)).all (fun x => x.1.isSome)
      && decide (([e] : List Expr).length + ([] : List Keyword).length + (if ([] : List Keyword).isEmpty then 0 else 1) < 30)) = true := by rfl)
    (hline : (apos.endLine == cpos.line) = true := by rfl) (hs : starEach [e] X.env = (false, eval e X.env) :: starEach [] X.env := by rfl) (hplain : (backTo cpos (starEach [] X.env)).any (·.1) = false := by rfl) :
    DE Z X (.Call (.Attribute o "index" apos) [e] [] cpos) (dIndex ta te) :=
  de_index hu ho he hs fun hm h1 h2 => pe_bm PySem.F.plainAttrs_list PySem.F.slot_list_index PySem.F.type_list_index hm h1 h2 hbase hfew hline hs hplain
/-- x[b] = e, x a list of one's own -/
theorem ds_put (i : Nat) {x : Str} {ti : DT} (he : DE Z X e te) (hi : DE Z X b ti) (hN : X.N[i]? = some x := by rfl) (hv : Vis X.env.scope x := by first | exact Or.inl rfl | exact Or.inr (Or.inl rfl) | exact Or.inr (Or.inr rfl)) (hd : (x == ("__debug__" : Str)) = false := by decide)
    (hcd : (x == ("__classdict__" : Str)) = false := by decide)
    (hs : swapsWithSole [.Subscript (.Name x xp) b apos] e pos.line X.env = pure false := by rfl) (hw : swappedStores [.Subscript (.Name x xp) b apos] e X.env = pure none := by rfl)
    (h1 : (assignEach [.Subscript (.Name x xp) b apos] X.env).map (·.2) = [assign (.Subscript (.Name x xp) b apos) X.env] := by rfl)
    (ha : ∀ v, assign (.Subscript (.Name x xp) b apos) X.env v = (do
      let ov ← holding [v] (eval (.Name x xp) X.env)
      let iv ← holding [v, ov] (eval b X.env)
      standAt apos
      holding [v, ov, iv] (setItem ov iv v)
      release [v, ov, iv] []) := by intro _; rfl) : DS Z X (.Assign [.Subscript (.Name x xp) b apos] e pos) (fun D ρ => onOwn i ρ fun _ => dSetO i te ti D ρ) :=
  ds_setO (x := x) (xp := xp) i he hi fun h h2 => ps_asg h (pg_sub (pe_var hN hv hd hcd) h2 set_list ha) hs hw h1
end
end DL
namespace DL
open PySem L2
section
variable {Z : Cz} {X : Cx} {elt tg iter : Expr} {ifs : List Expr} {scope : Scope} {own : List (Str × Nat)} {pos spos py : Pos} {ti : DIt} {g : DTg} {tt : DB} {te : DT} {Ex : PX → Pd}
/-- what a comprehension's parts are within its block -/
def Inner (Z : Cz) (X : Cx) (scope : Scope) (tg : Expr) (ifs : List Expr) (elt : Expr) (vs : List Nat) (g : DTg) (tt : DB) (te : DT) : Prop :=
  ∀ (s : Shared) (H : Hp) (C : Addr) (cl : List (Str × Addr)) (fp : List Addr), DX Z (X.blk s H scope (PySem.compEnvC scope cl C X.env) fp) (fun _ _ => False) →
    DGn Z (X.blk s H scope (PySem.compEnvC scope cl C X.env) fp) tg vs g ∧ DCs Z (X.blk s H scope (PySem.compEnvC scope cl C X.env) fp) ifs tt ∧ DE Z (X.blk s H scope (PySem.compEnvC scope cl C X.env) fp) elt te
/-- [e for x in xs if t] -/
theorem dn_comp (s0 : Shared) (D : DX Z X Ex) (hN : X.N.Nodup) (hi : DI Z X tg iter ti) (ok : BlkOk X.N X.env.scope scope own) (hb : Inner Z X scope tg ifs elt (own.map (·.2)) g tt te) (hs : ∀ x, foldedSetIterable iter X.env x = pure x := by intro _; rfl) :
    DNw Z X (.ListComp elt [⟨tg, iter, ifs, 0⟩] scope pos) (nLc ti g tt te (own.map (·.2))) := by
  obtain ⟨h1, h2, h3⟩ := hb s0 (fun _ => none) 0 [] [] (dx_blk D)
  exact dn_lc D hN hi h1.mono h2.mono h3.mono (pe_lc (g := liftGn Z X.K (own.map (·.2)) g) (tt := liftB Z.P X.K Z.H0 Z.W0 tt) (te := liftE Z.P X.K Z.H0 Z.W0 te) D.calm hN hi.run ok (fun s H C cl fp => (hb s H C cl fp (dx_blk D)).1.run) (fun s H C cl fp => (hb s H C cl fp (dx_blk D)).2.1.run) (fun s H C cl fp => (hb s H C cl fp (dx_blk D)).2.2.run) hs)
/-- y = [e for x in xs if t], a list of one's own -/
theorem ds_ownLc (s0 : Shared) (i : Nat) {y : Str} (D : DX Z X Ex) (hN : X.N.Nodup) (hi : DI Z X tg iter ti) (ok : BlkOk X.N X.env.scope scope own) (hb : Inner Z X scope tg ifs elt (own.map (·.2)) g tt te)
    (hsw : swapsWith (.ListComp elt [⟨tg, iter, ifs, 0⟩] scope pos) (some (.Name y py)) spos.line X.env = pure true) (hy : X.N[i]? = some y := by rfl) (hyl : X.env.scope.names.lookup y = some .local := by rfl) (hs : ∀ x, foldedSetIterable iter X.env x = pure x := by intro _; rfl) :
    DS Z X (.Assign [.Name y py] (.ListComp elt [⟨tg, iter, ifs, 0⟩] scope pos) spos) (dOwn i (nLc ti g tt te (own.map (·.2)))) := by
  obtain ⟨h1, h2, h3⟩ := hb s0 (fun _ => none) 0 [] [] (dx_blk D)
  have m : MonoT (nLc ti g tt te (own.map (·.2))) := fun ρ Q Q' n hq q => hi.mono ρ _ _ n (fun xs n q => ⟨q.1, dLcL_mono h1.mono h2.mono h3.mono hq xs [] n q.2⟩) q
  refine ⟨fun D D' ρ n l q => m ρ _ _ n (fun xs n q => l.nx _ _ q) q, PS.weak (ps_setLc (g := liftGn Z X.K (own.map (·.2)) g) (tt := liftB Z.P X.K Z.H0 Z.W0 tt) (te := liftE Z.P X.K Z.H0 Z.W0 te) D.calm hN hy hyl hsw hi.run ok (fun s H C cl fp => (hb s H C cl fp (dx_blk D)).1.run) (fun s H C cl fp => (hb s H C cl fp (dx_blk D)).2.1.run) (fun s H C cl fp => (hb s H C cl fp (dx_blk D)).2.2.run) hs) fun D σ H q => ?_⟩
  exact lift_lc hi.mono h1.mono h2.mono h3.mono (lift_own m q)
end
end DL
namespace DL
open PySem L2
theorem room65 {k : Nat} {A : Around} (r : Room k A) : A.units + 65 < cLine := by have := r.un; omega
section
variable {Z : Cz} {X : Cx} {a b : Expr} {pos : Pos} {Ex : PX → Pd}
theorem ds_par2 (i j : Nat) {x y : Str} {ta : DA} {px py pt : Pos} {kt k2 pt2} (D : DX Z X Ex) (hN : X.N.Nodup) (ha : DAs Z X [a, b] ta) (hi : X.N[i]? = some x := by rfl) (hj : X.N[j]? = some y := by rfl) (hij : i ≠ j := by decide)
    (hx : X.env.scope.names.lookup x = some .local := by rfl) (hy : X.env.scope.names.lookup y = some .local := by rfl)
    (hw : swappedStores [.Tuple [.Name x px, .Name y py] kt pt] (.Tuple [a, b] k2 pt2) X.env = pure (some [x, y]) := by rfl)
    (hs : swapsWithSole [.Tuple [.Name x px, .Name y py] kt pt] (.Tuple [a, b] k2 pt2) pos.line X.env = pure false := by rfl) :
    DS Z X (.Assign [.Tuple [.Name x px, .Name y py] kt pt] (.Tuple [a, b] k2 pt2) pos) (dPar i j ta) :=
  ds_par i j D hN hi hj hij hx hy ha (ps_par D.calm hN hi hj hij hx hy ha.run hw hs)
end
/-! ### the law's state: a list with a list of the script's numbers in it -/
/-- box 1: the numbers; box 0: [numbers, place, number, count] -/
def BIA (k : Nat) (B : Addr → Option Nat) (c : Nat) (o : HO) : Prop := match k with
  | 0 => ∃ a i r m, o = .lst [.ref a, .int i, .int r, .int m] ∧ B a = some 1 ∧ 0 ≤ i ∧ 0 ≤ m ∧ m ≤ (c : Int)
  | 1 => ∃ ns : List Int, o = .lst (ns.map V.int)
  | _ => False
theorem BIA_mono (k : Nat) (B B' : Addr → Option Nat) (c c' : Nat) (o : HO) (h : ∀ a j, B a = some j → B' a = some j) (hc : c ≤ c') (q : BIA k B c o) : BIA k B' c' o := by
  match k, q with
  | 0, ⟨a, i, r, m, e, b, h1, h2, h3⟩ => exact ⟨a, i, r, m, e, h _ _ b, h1, h2, by omega⟩
  | 1, q => exact q
/-- the state is laid by the script -/
def D_start : DSp := fun vs Q E n => ∃ ns : List Int, vs = [.scr (ns.map .int)] ∧ ns.length ≤ 1000 ∧ Q (.box 0) n
/-- a number is drawn: any one -/
def D_draw : DSp := fun vs Q E n => ∃ m : Int, vs = [.box 0, .int m] ∧ 0 < m ∧ m.natAbs.log2 < 9000 ∧ n < 100000 ∧ ∀ r : Nat, (r : Int) < m → Q (.int r) (n + 1)
theorem D_start_mono : MonoSp D_start := fun vs Q Q' E E' n hq he ⟨ns, e, l, q⟩ => ⟨ns, e, l, hq _ _ q⟩
theorem D_draw_mono : MonoSp D_draw := fun vs Q Q' E E' n hq he ⟨m, e, h0, h1, h2, q⟩ => ⟨m, e, h0, h1, h2, fun r hr => hq _ _ (q r hr)⟩
/-- a promise by the script alone, the law's -/
def D_law : DSp := fun vs Q E n => ∃ ns : List Int, vs = [.scr (ns.map .int)] ∧ ns.length ≤ 63 ∧ n = 0 ∧ ∀ n, Q (.bl true) n
theorem D_law_mono : MonoSp D_law := fun vs Q Q' E E' n hq he ⟨ns, e, l, z, q⟩ => ⟨ns, e, l, z, fun n => hq _ _ (q n)⟩
theorem repL_ints {P : Par} {K : PySem.W.Frag} {W : Wd} : ∀ ns : List Int, RepL P K W (ns.map .int) (ns.map V.int)
  | [] => RepL.nil
  | n :: ns => RepL.cons (rep_int.2 rfl) (repL_ints ns)
/-- the end: the law's promise from nothing -/
theorem law_lift {P : Par} {K : PySem.W.Frag} {H : Hp} {a : Addr} {ns : List Int} (hl : ns.length ≤ 63) (hS : SqL K H a (ns.map V.int)) : liftSp P K D_law [.ref a] H (fun v _ => v = .bl true) (fun _ _ _ => False) := by
  have r0 : Rep P K ⟨H, fun _ => none, 0⟩ (.scr (ns.map .int)) (.ref a) := rep_scr.2 ⟨a, _, rfl, hS, repL_ints ns⟩
  have b0 : BoxOk P ⟨H, fun _ => none, 0⟩ H := fun _ _ h => by cases h
  refine ⟨⟨H, fun _ => none, 0⟩, [.scr (ns.map .int)], Same.refl H, b0, RepL.cons r0 RepL.nil, ns, rfl, hl, rfl, fun n v W' H' _ _ r => ?_⟩
  rw [rep_bl] at r; exact r
theorem cx_none {P : Program} {w : World} {H : Hp} {s : Shared} {e : Value} {s' : Shared} (z : L2.CX P w [] H s (fun _ _ _ => False) e s') : False := by
  obtain ⟨a, B, h1, h2, h3, h4, h5, h6, h7, h8, h9, h10, z⟩ := z
  exact z
end DL
namespace DL
open PySem L2
theorem bt_len : bootBuiltins "len" = some (.builtin "len") := by decide +kernel
theorem bt_int : bootBuiltins "int" = some (.type "int") := by decide +kernel
theorem bt_bool : bootBuiltins "bool" = some (.type "bool") := by decide +kernel
theorem bt_list : bootBuiltins "list" = some (.type "list") := by decide +kernel
theorem bt_tuple : bootBuiltins "tuple" = some (.type "tuple") := by decide +kernel
theorem bt_max : bootBuiltins "max" = some (.builtin "max") := by decide +kernel
theorem bt_min : bootBuiltins "min" = some (.builtin "min") := by decide +kernel
theorem bt_sum : bootBuiltins "sum" = some (.builtin "sum") := by decide +kernel
theorem bt_all : bootBuiltins "all" = some (.builtin "all") := by decide +kernel
theorem bt_any : bootBuiltins "any" = some (.builtin "any") := by decide +kernel
end DL
namespace DL
open PySem L2
abbrev parA (cm : Nat → Addr) (fn : Nat → List Str) : Par := ⟨cm, fn, BIA, BIA_mono⟩
theorem start_fin {cm : Nat → Addr} {fn : Nat → List Str} {K : PySem.W.Frag} {W : Wd} {H : Hp} {Q : VK} {ns : List Int} (sm : Same W.F H) (bx : BoxOk (parA cm fn) W H) (q : Tell (parA cm fn) K W H Q (.box 0) W.c) (f : Int) :
    ∀ l, H l = none → ∀ p, (upd H l (.lst (ns.map V.int))) p = none → Q (.ref p) (upd (upd H l (.lst (ns.map V.int))) p (.lst [.ref l, .int 1, .int f, .int 0])) := by
  intro l hl p hp
  have nlp : p ≠ l := fun c => by rw [c, upd_same] at hp; cases hp
  have hp0 : H p = none := by rw [upd_ne nlp] at hp; exact hp
  have nB : ∀ a, H a = none → W.B a = none := fun a ha => by
    cases e : W.B a with
    | none => rfl
    | some k => obtain ⟨_, u, h, _⟩ := bx a k e; rw [ha] at h; cases h
  have bl : ∀ a k, W.B a = some k → a ≠ l ∧ a ≠ p := fun a k h => ⟨fun c => (by rw [c, nB l hl] at h; cases h), fun c => (by rw [c, nB p hp0] at h; cases h)⟩
  have F : Fr0 (parA cm fn) H W ⟨W.F, fun a => if a = p then some 0 else if a = l then some 1 else W.B a, W.c⟩ (upd (upd H l (.lst (ns.map V.int))) p (.lst [.ref l, .int 1, .int f, .int 0])) := by
    have old : ∀ a k, W.B a = some k → (if a = p then some 0 else if a = l then some 1 else W.B a) = some k := fun a k h => by
      rw [if_neg (bl a k h).2, if_neg (bl a k h).1]; exact h
    refine ⟨⟨fun _ _ h => h, fun a k h => old a k h, Nat.le_refl _⟩, fun a u h => ?_, fun a u h _ => ?_, fun a u h => .inl h, fun a k h => ?_, fun a k h => ?_⟩
    · rw [upd_ne (ne_of_none (sm a u h) hp0), upd_ne (ne_of_none (sm a u h) hl)]; exact sm a u h
    · rw [upd_ne (ne_of_none h hp0), upd_ne (ne_of_none h hl)]; exact h
    · simp only at h
      by_cases c : a = p
      · subst c; exact .inr hp0
      · rw [if_neg c] at h
        by_cases c2 : a = l
        · subst c2; exact .inr hl
        · rw [if_neg c2] at h; exact .inl h
    · simp only at h ⊢
      by_cases c : a = p
      · subst c
        rw [if_pos rfl] at h
        cases h
        refine ⟨none_of_same sm hp0, _, upd_same, l, 1, f, 0, rfl, ?_, by decide, by decide, by omega⟩
        show (if l = a then some 0 else if l = l then some 1 else W.B l) = some 1
        rw [if_neg (Ne.symm nlp), if_pos rfl]
      · rw [if_neg c] at h
        by_cases c2 : a = l
        · subst c2
          rw [if_pos rfl] at h
          cases h
          exact ⟨none_of_same sm hl, _, by rw [upd_ne c, upd_same], ns, rfl⟩
        · rw [if_neg c2] at h
          obtain ⟨h1, u, h2, h3⟩ := bx a k h
          exact ⟨h1, u, by rw [upd_ne c, upd_ne c2]; exact h2, BIA_mono k _ _ _ _ _ old (Nat.le_refl _) h3⟩
  exact q _ _ _ F rfl (rep_box.2 ⟨p, rfl, by simp⟩)
end DL
namespace DL
open PySem L2
theorem draw_fin {cm : Nat → Addr} {fn : Nat → List Str} {K : PySem.W.Frag} {W : Wd} {H H' : Hp} {st a : Addr} {i r m : Int} (sm : Same W.F H) (bx : BoxOk (parA cm fn) W H) (hb : W.B st = some 0) (ha : W.B a = some 1)
    (h1 : ∀ x, x ≠ st → H' x = H x) (h2 : H' st = some (.lst [.ref a, .int i, .int r, .int m])) (hi : 0 ≤ i) (hm0 : 0 ≤ m) (hm : m ≤ (W.c : Int) + 1) : Fr0 (parA cm fn) H W ⟨W.F, W.B, W.c + 1⟩ H' := by
  refine ⟨⟨fun _ _ h => h, fun _ _ h => h, Nat.le_succ _⟩, fun x u h => ?_, fun x u h n => ?_, fun x u h => .inl h, fun x k h => .inl h, fun x k h => ?_⟩
  · have nx : x ≠ st := fun c => by
      obtain ⟨z, _⟩ := bx st 0 hb
      subst c
      have h' : W.F x = some u := h
      rw [z] at h'; cases h'
    rw [h1 x nx]; exact sm x u h
  · have nx : x ≠ st := fun c => by rw [c, hb] at n; cases n
    rw [h1 x nx]; exact h
  · obtain ⟨g1, u, g2, g3⟩ := bx x k h
    refine ⟨g1, ?_⟩
    by_cases c : x = st
    · subst c
      have h' : W.B x = some k := h
      rw [hb] at h'; cases h'
      exact ⟨_, h2, a, i, r, m, rfl, ha, hi, hm0, by show m ≤ ((W.c + 1 : Nat) : Int); omega⟩
    · exact ⟨u, by rw [h1 x c]; exact g2, BIA_mono k _ _ _ _ _ (fun _ _ z => z) (Nat.le_succ _) g3⟩
theorem at_zero {α : Type} (x : α) (xs : List α) : L2.atI (x :: xs) 0 = some x := by simp [L2.atI, ixN]
end DL
namespace DL
open PySem L2
theorem loop_list {g : DTg} {b : DSt} {D : DEnds} (xs : List PV) (I : Nat → Rho → Pd) {ρ : Rho} {n : Nat} (h0 : I 0 ρ n)
    (step : ∀ (i : Nat) (x : PV) (ρ : Rho) (n : Nat) (Nx : Rho → Pd), xs[i]? = some x → I i ρ n → (∀ ρ' n', I (i + 1) ρ' n' → Nx ρ' n') → g x ρ (fun ρ' => b { nx := Nx, ct := Nx, bk := D.nx, rt := D.rt } ρ') n)
    (fin : ∀ ρ n, I xs.length ρ n → D.nx ρ n) : dLoop g b D xs ρ n := by
  have key : ∀ (ys : List PV) (i : Nat), i ≤ xs.length → xs.drop i = ys → ∀ ρ n, I i ρ n → dLoop g b D ys ρ n := by
    intro ys
    induction ys with
    | nil =>
      intro i hle hi ρ n h
      have hl : xs.length ≤ i := List.drop_eq_nil_iff.1 hi
      have c : i = xs.length := by omega
      subst c; exact fin ρ n h
    | cons y ys ih =>
      intro i hle hi ρ n h
      have hx : xs[i]? = some y := by
        have : (xs.drop i)[0]? = some y := by rw [hi]; rfl
        rw [List.getElem?_drop] at this
        simpa using this
      refine step i y ρ n _ hx h (fun ρ' n' h' => ih (i + 1) (List.getElem?_eq_some_iff.mp hx).1 ?_ ρ' n' h')
      rw [← List.drop_drop, hi]; rfl
  exact key xs 0 (Nat.zero_le _) (by simp) ρ n h0
end DL
namespace DL
open PySem L2
theorem loop_rng {g : DTg} {b : DSt} {D : DEnds} {lo : Int} {k : Nat} (I : Nat → Rho → Pd) {ρ : Rho} {n : Nat} (h0 : I 0 ρ n)
    (step : ∀ (i : Nat) (ρ : Rho) (n : Nat) (Nx : Rho → Pd), i < k → I i ρ n → (∀ ρ' n', I (i + 1) ρ' n' → Nx ρ' n') → g (.int (lo + (i : Nat))) ρ (fun ρ' => b { nx := Nx, ct := Nx, bk := D.nx, rt := D.rt } ρ') n)
    (fin : ∀ ρ n, I k ρ n → D.nx ρ n) : dLoop g b D (rng lo k) ρ n := by
  refine loop_list (rng lo k) I h0 (fun i x ρ n Nx hx h q => ?_) (fun ρ n h => fin ρ n (by rw [rng_length] at h; exact h))
  have hi : i < k := by rw [← rng_length lo k]; exact (List.getElem?_eq_some_iff.mp hx).1
  rw [rng_get hi] at hx
  cases hx
  exact step i ρ n Nx hi h q
theorem lcl_list {g : DTg} {tt : DB} {te : DT} {ρ : Rho} {Q : List PV → Pd} (xs : List PV) (I : Nat → List PV → Pd) {n : Nat} {acc : List PV} (h0 : I 0 acc n)
    (step : ∀ (i : Nat) (x : PV) (acc : List PV) (n : Nat) (Nx : List PV → Pd), xs[i]? = some x → I i acc n → (∀ acc' n', I (i + 1) acc' n' → Nx acc' n') →
      g x ρ (fun ρ2 => tt ρ2 fun b => if b = true then te ρ2 fun y => Nx (acc ++ [y]) else Nx acc) n)
    (fin : ∀ acc n, I xs.length acc n → Q acc n) : dLcL g tt te ρ xs acc Q n := by
  have key : ∀ (ys : List PV) (i : Nat), i ≤ xs.length → xs.drop i = ys → ∀ acc n, I i acc n → dLcL g tt te ρ ys acc Q n := by
    intro ys
    induction ys with
    | nil =>
      intro i hle hi acc n h
      have hl : xs.length ≤ i := List.drop_eq_nil_iff.1 hi
      have c : i = xs.length := by omega
      subst c; exact fin acc n h
    | cons y ys ih =>
      intro i hle hi acc n h
      have hx : xs[i]? = some y := by
        have : (xs.drop i)[0]? = some y := by rw [hi]; rfl
        rw [List.getElem?_drop] at this
        simpa using this
      refine step i y acc n (fun acc => dLcL g tt te ρ ys acc Q) hx h (fun acc' n' h' => ih (i + 1) (List.getElem?_eq_some_iff.mp hx).1 ?_ acc' n' h')
      rw [← List.drop_drop, hi]; rfl
  exact key xs 0 (Nat.zero_le _) (by simp) acc n h0
end DL
namespace DL
theorem ite_ap {α : Type} (c : Prop) [Decidable c] (f g : α → Prop) (x : α) : (if c then f else g) x = if c then f x else g x := by split <;> rfl
end DL
namespace DL
open PySem L2
theorem ixn_nat {n i : Nat} (h : i < n) : ixN n (i : Int) = some i := by
  unfold ixN
  rw [if_pos (by omega), if_pos (by omega)]; simp
end DL
namespace DL
open PySem L2
theorem okDs_ints {n : Nat} {f : Nat → Int} : ∀ l : List Nat, PV.okDs n (l.map fun i => PV.int (f i)) = true
  | [] => by cases n <;> rfl
  | x :: l => by
    have h : PV.okD n (PV.int (f x)) = true := by cases n <;> rfl
    simp only [List.map_cons, PV.okDs, h, okDs_ints l, Bool.and_self]
theorem peqs_ints {f : Nat → Int} : ∀ l : List Nat, peqs (l.map fun i => PV.int (f i)) (l.map fun i => PV.int (f i)) = true
  | [] => rfl
  | x :: l => by
    have h : peq (PV.int (f x)) (PV.int (f x)) = true := by simp only [peq]; simp
    simp only [List.map_cons, peqs, h, peqs_ints l, Bool.and_self]
theorem peq_int (a b : Int) : peq (.int a) (.int b) = (a == b) := rfl
theorem peq_tup (xs ys : List PV) : peq (.tup xs) (.tup ys) = peqs xs ys := rfl
theorem ite_same {b : Bool} {p q : Prop} (hb : b = true) (h : q) : if (!b) = true then p else q := by
  subst hb; exact h
end DL

/-! GF: polynomials over two elements as numbers -/
namespace GF
theorem tb0 (x : Nat) : x.testBit 0 = decide (x % 2 = 1) := by simp [Nat.testBit_zero]
theorem tb_half (x k : Nat) : (x / 2).testBit k = x.testBit (k + 1) := by rw [Nat.testBit_succ]
theorem tb_dbl (x k : Nat) : (2 * x).testBit (k + 1) = x.testBit k := by rw [Nat.testBit_succ]; congr 1; omega
theorem tb_dbl0 (x : Nat) : (2 * x).testBit 0 = false := by rw [tb0]; simp
theorem ext {x y : Nat} (h : ∀ k, x.testBit k = y.testBit k) : x = y := Nat.eq_of_testBit_eq h
theorem dbl_xor (x y : Nat) : 2 * x ^^^ 2 * y = 2 * (x ^^^ y) := ext fun k => by
  cases k with
  | zero => rw [Nat.testBit_xor, tb_dbl0, tb_dbl0, tb_dbl0]; rfl
  | succ k => rw [Nat.testBit_xor, tb_dbl, tb_dbl, tb_dbl, Nat.testBit_xor]
theorem half_xor (x y : Nat) : (x ^^^ y) / 2 = x / 2 ^^^ y / 2 := ext fun k => by
  rw [tb_half, Nat.testBit_xor, Nat.testBit_xor, tb_half, tb_half]
theorem xor_odd (x y : Nat) : (x ^^^ y) % 2 = (x % 2 + y % 2) % 2 := by
  have h := Nat.testBit_xor x y 0
  rw [tb0, tb0, tb0] at h
  have a := Nat.mod_two_eq_zero_or_one x
  have b := Nat.mod_two_eq_zero_or_one y
  have c := Nat.mod_two_eq_zero_or_one (x ^^^ y)
  rcases a with a | a <;> rcases b with b | b <;> rcases c with c | c <;> simp_all
theorem odd_dbl (x : Nat) (h : x % 2 = 1) : x = 1 ^^^ 2 * (x / 2) := ext fun k => by
  cases k with
  | zero => rw [Nat.testBit_xor, tb_dbl0, tb0, h]; rfl
  | succ k => rw [Nat.testBit_xor, tb_dbl, tb_half, Nat.testBit_succ 1]; simp
theorem even_dbl (x : Nat) (h : x % 2 = 0) : x = 2 * (x / 2) := by omega
/-- the product -/
def cm (a b : Nat) : Nat := if b = 0 then 0 else (if b % 2 = 1 then a else 0) ^^^ 2 * cm a (b / 2)
termination_by b
decreasing_by omega
theorem cm_zero (a : Nat) : cm a 0 = 0 := by rw [cm]; simp
theorem cm_dbl (a b : Nat) : cm a (2 * b) = 2 * cm a b := by
  by_cases h : b = 0
  · subst h; simp [cm_zero]
  · rw [cm, if_neg (by omega), if_neg (by omega)]
    rw [show 2 * b / 2 = b by omega]; simp
theorem cm_odd (a b : Nat) (h : b % 2 = 1) : cm a b = a ^^^ 2 * cm a (b / 2) := by
  rw [cm, if_neg (by omega), if_pos h]
theorem cm_even (a b : Nat) (h : b % 2 = 0) : cm a b = 2 * cm a (b / 2) := by
  by_cases h0 : b = 0
  · subst h0; simp [cm_zero]
  · rw [cm, if_neg h0, if_neg (by omega)]; simp
theorem ind {P : Nat → Prop} (h0 : P 0) (h : ∀ b, b ≠ 0 → P (b / 2) → P b) (b : Nat) : P b := by
  induction b using Nat.strongRecOn with
  | ind b ih =>
    by_cases c : b = 0
    · subst c; exact h0
    · exact h b c (ih _ (by omega))
theorem xor4 (a b c d : Nat) : (a ^^^ b) ^^^ (c ^^^ d) = (a ^^^ c) ^^^ (b ^^^ d) := ext fun k => by
  simp only [Nat.testBit_xor]
  cases a.testBit k <;> cases b.testBit k <;> cases c.testBit k <;> cases d.testBit k <;> rfl
theorem cm_xor_l (a a' b : Nat) : cm (a ^^^ a') b = cm a b ^^^ cm a' b := by
  induction b using ind with
  | h0 => simp [cm_zero]
  | h b hb ih =>
    rcases Nat.mod_two_eq_zero_or_one b with e | e
    · rw [cm_even _ _ e, cm_even _ _ e, cm_even _ _ e, ih, dbl_xor]
    · rw [cm_odd _ _ e, cm_odd _ _ e, cm_odd _ _ e, ih, xor4, dbl_xor]
theorem cm_zero_l (b : Nat) : cm 0 b = 0 := by
  induction b using ind with
  | h0 => exact cm_zero 0
  | h b hb ih =>
    rcases Nat.mod_two_eq_zero_or_one b with e | e
    · rw [cm_even _ _ e, ih]
    · rw [cm_odd _ _ e, ih]; rfl
theorem cm_dbl_l (a b : Nat) : cm (2 * a) b = 2 * cm a b := by
  induction b using ind with
  | h0 => simp [cm_zero]
  | h b hb ih =>
    rcases Nat.mod_two_eq_zero_or_one b with e | e
    · rw [cm_even _ _ e, cm_even _ _ e, ih]
    · rw [cm_odd _ _ e, cm_odd _ _ e, ih, dbl_xor]
theorem cm_one (a : Nat) : cm a 1 = a := by rw [cm_odd _ _ rfl, show 1 / 2 = 0 from rfl, cm_zero]; simp
theorem cm_one_l (b : Nat) : cm 1 b = b := by
  induction b using ind with
  | h0 => exact cm_zero 1
  | h b hb ih =>
    rcases Nat.mod_two_eq_zero_or_one b with e | e
    · rw [cm_even _ _ e, ih]; omega
    · rw [cm_odd _ _ e, ih]; exact (odd_dbl b e).symm
theorem cm_comm (a b : Nat) : cm a b = cm b a := by
  induction b using ind generalizing a with
  | h0 => rw [cm_zero, cm_zero_l]
  | h b hb ih =>
    rcases Nat.mod_two_eq_zero_or_one b with e | e
    · rw [cm_even _ _ e, ih, ← cm_dbl_l, ← even_dbl b e]
    · rw [cm_odd _ _ e, ih]
      conv => rhs; rw [odd_dbl b e, cm_xor_l, cm_dbl_l, cm_one_l]
theorem cm_xor (a b b' : Nat) : cm a (b ^^^ b') = cm a b ^^^ cm a b' := by
  rw [cm_comm, cm_xor_l, cm_comm b, cm_comm b']
theorem cm_assoc (a b c : Nat) : cm (cm a b) c = cm a (cm b c) := by
  induction c using ind with
  | h0 => simp [cm_zero]
  | h c hc ih =>
    rcases Nat.mod_two_eq_zero_or_one c with e | e
    · rw [cm_even _ _ e, cm_even _ _ e, ih, cm_dbl]
    · rw [cm_odd _ _ e, cm_odd _ _ e, ih, cm_xor, cm_dbl]
theorem cm_mod2 (a b : Nat) : (cm a b) % 2 = (a % 2) * (b % 2) := by
  rcases Nat.mod_two_eq_zero_or_one b with e | e
  · rw [cm_even _ _ e, e]; omega
  · rw [cm_odd _ _ e, xor_odd, e]; omega
/-- the length -/
def bl (x : Nat) : Nat := if x = 0 then 0 else x.log2 + 1
theorem bl_zero : bl 0 = 0 := rfl
theorem lt_bl (x : Nat) : x < 2 ^ bl x := by
  unfold bl
  by_cases h : x = 0
  · subst h; simp
  · rw [if_neg h]; exact Nat.lt_log2_self
theorem bl_le {x k : Nat} (h : x < 2 ^ k) : bl x ≤ k := by
  unfold bl
  by_cases c : x = 0
  · rw [if_pos c]; omega
  · rw [if_neg c]; exact (Nat.log2_lt c).2 h
theorem bl_lt_iff {x k : Nat} : bl x ≤ k ↔ x < 2 ^ k := ⟨fun h => Nat.lt_of_lt_of_le (lt_bl x) (Nat.pow_le_pow_right (by decide) h), bl_le⟩
theorem bl_pos {x : Nat} (h : x ≠ 0) : 0 < bl x := by unfold bl; rw [if_neg h]; omega
theorem bl_eq_zero {x : Nat} : bl x = 0 ↔ x = 0 := by
  refine ⟨fun h => ?_, fun h => by subst h; rfl⟩
  by_cases c : x = 0
  · exact c
  · have := bl_pos c; omega
theorem bl_half {x : Nat} (h : x ≠ 0) : bl x = bl (x / 2) + 1 := by
  have a := lt_bl x
  have b := lt_bl (x / 2)
  apply Nat.le_antisymm
  · apply bl_le; rw [Nat.pow_succ]; omega
  · have : bl (x / 2) ≤ bl x - 1 := bl_le (by
      have h1 : bl x = (bl x - 1) + 1 := by have := bl_pos h; omega
      rw [h1, Nat.pow_succ] at a; omega)
    have := bl_pos h; omega
theorem bl_dbl {x : Nat} (h : x ≠ 0) : bl (2 * x) = bl x + 1 := by
  rw [bl_half (by omega), show 2 * x / 2 = x by omega]
theorem bl_xor_lt {x y : Nat} (h : bl y < bl x) : bl (x ^^^ y) = bl x := by
  induction x using ind generalizing y with
  | h0 => simp [bl_zero] at h
  | h x hx ih =>
    by_cases hy : y = 0
    · subst hy; simp
    · by_cases hx2 : x / 2 = 0
      · have h1 : bl x = 1 := by rw [bl_half hx, hx2]; rfl
        have := bl_pos hy; omega
      · have a := bl_half hx
        have b := bl_half hy
        have e := ih (y := y / 2) (by omega)
        rw [← half_xor] at e
        have ne : x ^^^ y ≠ 0 := fun z => by
          rw [z] at e; have := bl_pos hx2; simp [bl_zero] at e; omega
        rw [bl_half ne, e]; omega
theorem bl_xor_le (x y : Nat) {k : Nat} (h1 : bl x ≤ k) (h2 : bl y ≤ k) : bl (x ^^^ y) ≤ k := by
  rw [bl_lt_iff] at *
  exact Nat.xor_lt_two_pow h1 h2
theorem bl_shift (x s : Nat) (h : x ≠ 0) : bl (x * 2 ^ s) = bl x + s := by
  induction s with
  | zero => simp
  | succ s ih =>
    rw [Nat.pow_succ, ← Nat.mul_assoc, Nat.mul_comm _ 2, bl_dbl, ih]; omega
    exact Nat.mul_ne_zero h (by have : 0 < 2 ^ s := Nat.two_pow_pos s
                                omega)
theorem bl_cm {a b : Nat} (ha : a ≠ 0) (hb : b ≠ 0) : bl (cm a b) + 1 = bl a + bl b := by
  induction b using ind with
  | h0 => exact absurd rfl hb
  | h b hb ih =>
    by_cases h2 : b / 2 = 0
    · have e : b = 1 := by omega
      subst e; rw [cm_one]; rfl
    · have i := ih h2
      have hne : cm a (b / 2) ≠ 0 := fun z => by
        rw [z, bl_zero] at i; have := bl_pos ha; have := bl_pos h2; omega
      have hb' := bl_half hb
      rcases Nat.mod_two_eq_zero_or_one b with e | e
      · rw [cm_even _ _ e, bl_dbl hne]; omega
      · rw [cm_odd _ _ e, Nat.xor_comm, bl_xor_lt, bl_dbl hne]; omega
        rw [bl_dbl hne]; have := bl_pos h2; omega
theorem cm_ne {a b : Nat} (ha : a ≠ 0) (hb : b ≠ 0) : cm a b ≠ 0 := fun z => by
  have := bl_cm ha hb
  rw [z, bl_zero] at this
  have := bl_pos ha; have := bl_pos hb; omega
theorem cm_cancel {a b c : Nat} (hc : c ≠ 0) (h : cm a c = cm b c) : a = b := by
  have e : cm (a ^^^ b) c = 0 := by rw [cm_xor_l, h, Nat.xor_self]
  by_cases z : a ^^^ b = 0
  · exact Nat.eq_of_testBit_eq fun k => by
      have := congrArg (fun x => x.testBit k) z
      simp only [Nat.testBit_xor, Nat.zero_testBit] at this
      cases h1 : a.testBit k <;> cases h2 : b.testBit k <;> simp_all
  · exact absurd e (cm_ne z hc)
/-- a power of two -/
theorem cm_pow (a s : Nat) : cm a (2 ^ s) = a * 2 ^ s := by
  induction s with
  | zero => simp [cm_one]
  | succ s ih => rw [Nat.pow_succ, Nat.mul_comm _ 2, cm_dbl, ih]; rw [← Nat.mul_assoc, Nat.mul_comm 2 a, Nat.mul_assoc]
theorem mod_pow_succ (b s : Nat) : b % 2 ^ (s + 1) = b % 2 ^ s ^^^ (if b.testBit s then 2 ^ s else 0) := ext fun k => by
  rw [Nat.testBit_xor, Nat.testBit_mod_two_pow, Nat.testBit_mod_two_pow]
  by_cases h : b.testBit s = true
  · rw [if_pos h, Nat.testBit_two_pow]
    by_cases c : s = k
    · subst c; simp [h]
    · rcases Nat.lt_or_gt_of_ne c with g | g
      · simp [c, show ¬ k < s + 1 by omega, show ¬ k < s by omega]
      · simp [c, show k < s + 1 by omega, show k < s by omega]
  · have h : b.testBit s = false := by simpa using h
    rw [h]
    by_cases c : s = k
    · subst c; simp [h]
    · rcases Nat.lt_or_gt_of_ne c with g | g
      · simp [show ¬ k < s + 1 by omega, show ¬ k < s by omega]
      · simp [show k < s + 1 by omega, show k < s by omega]
theorem cm_step (a b s : Nat) : cm a (b % 2 ^ (s + 1)) = cm a (b % 2 ^ s) ^^^ (if b.testBit s then a * 2 ^ s else 0) := by
  rw [mod_pow_succ, cm_xor]
  by_cases h : b.testBit s = true
  · rw [if_pos h, if_pos h, cm_pow]
  · rw [if_neg h, if_neg h, cm_zero]
theorem mod_bl (b : Nat) : b % 2 ^ bl b = b := Nat.mod_eq_of_lt (lt_bl b)

/-! ### division -/
/-- one = q * other + r -/
theorem div_step {one other q r : Nat} (h : one = cm q other ^^^ r) (s : Nat) : one = cm (q ^^^ 2 ^ s) other ^^^ (r ^^^ other * 2 ^ s) := by
  rw [cm_xor_l, cm_comm (2 ^ s), cm_pow, xor4, Nat.xor_self, Nat.xor_zero, ← h]
theorem div_less {r other : Nat} (ho : other ≠ 0) (h : bl other ≤ bl r) : bl (r ^^^ other * 2 ^ (bl r - bl other)) < bl r := by
  have hr : r ≠ 0 := fun z => by subst z; have := bl_pos ho; rw [bl_zero] at h; omega
  have e : bl (other * 2 ^ (bl r - bl other)) = bl r := by rw [bl_shift _ _ ho]; omega
  have key : ∀ (k x y : Nat), bl x = k + 1 → bl y = k + 1 → bl (x ^^^ y) ≤ k := by
    intro k
    induction k with
    | zero =>
      intro x y hx hy
      have a : x < 2 := by have := lt_bl x; rw [hx] at this; simpa using this
      have b : y < 2 := by have := lt_bl y; rw [hy] at this; simpa using this
      have a0 : x ≠ 0 := fun z => by subst z; simp [bl_zero] at hx
      have b0 : y ≠ 0 := fun z => by subst z; simp [bl_zero] at hy
      have : x = 1 := by omega
      have : y = 1 := by omega
      subst x; subst y; decide
    | succ k ih =>
      intro x y hx hy
      have a0 : x ≠ 0 := fun z => by subst z; simp [bl_zero] at hx
      have b0 : y ≠ 0 := fun z => by subst z; simp [bl_zero] at hy
      have i := ih (x / 2) (y / 2) (by have := bl_half a0; omega) (by have := bl_half b0; omega)
      by_cases z : x ^^^ y = 0
      · rw [z, bl_zero]; omega
      · rw [bl_half z, half_xor]; omega
  have hp := bl_pos hr
  have := key (bl r - 1) r (other * 2 ^ (bl r - bl other)) (by omega) (by omega)
  omega
/-- the quotient is told by the equation -/
theorem div_exact {q q' other r : Nat} (ho : other ≠ 0) (h : cm q' other = cm q other ^^^ r) (hr : bl r < bl other) : q = q' ∧ r = 0 := by
  have e : cm (q' ^^^ q) other = r := by
    rw [cm_xor_l, h]
    rw [Nat.xor_comm (cm q other), Nat.xor_assoc, Nat.xor_self, Nat.xor_zero]
  by_cases z : q' ^^^ q = 0
  · rw [z, cm_zero_l] at e
    refine ⟨?_, e.symm⟩
    exact Nat.eq_of_testBit_eq fun k => by
      have := congrArg (fun x => x.testBit k) z
      simp only [Nat.testBit_xor, Nat.zero_testBit] at this
      cases h1 : q.testBit k <;> cases h2 : q'.testBit k <;> simp_all
  · have := bl_cm z ho
    rw [e] at this
    have := bl_pos z; omega

/-! ### the greatest common divisor -/
def dvd (g a : Nat) : Prop := ∃ q, a = cm q g
theorem dvd_self (g : Nat) : dvd g g := ⟨1, (cm_one_l g).symm⟩
theorem dvd_zero (g : Nat) : dvd g 0 := ⟨0, (cm_zero_l g).symm⟩
theorem dvd_back {g one other q r : Nat} (h : one = cm q other ^^^ r) (h1 : dvd g other) (h2 : dvd g r) : dvd g one := by
  obtain ⟨a, ha⟩ := h1
  obtain ⟨b, hb⟩ := h2
  exact ⟨cm q a ^^^ b, by rw [cm_xor_l, cm_assoc, ← ha, ← hb, h]⟩

/-! ### series -/
/-- one beat of above / below -/
def step (b r : Nat) : Nat := (r ^^^ (if r % 2 = 1 then b else 0)) / 2
def run (b : Nat) : Nat → Nat → Nat
  | 0, r => r
  | n + 1, r => run b n (step b r)
/-- the coefficient -/
def co (a b n : Nat) : Nat := run b n a % 2
theorem run_add (b : Nat) : ∀ (m n r : Nat), run b (m + n) r = run b n (run b m r)
  | 0, n, r => by rw [Nat.zero_add]; rfl
  | m + 1, n, r => by
    rw [Nat.add_right_comm]
    exact run_add b m n (step b r)
theorem run_succ (b n r : Nat) : run b (n + 1) r = step b (run b n r) := run_add b n 1 r
theorem co_succ (a b n : Nat) : co a b (n + 1) = co (step b a) b n := rfl
theorem step_tb (b r k : Nat) (hb : b % 2 = 1) : (step b r).testBit k = (r.testBit (k + 1) ^^ (decide (r % 2 = 1) && b.testBit (k + 1))) := by
  unfold step
  rw [tb_half, Nat.testBit_xor]
  by_cases h : r % 2 = 1
  · rw [if_pos h]; simp [h]
  · rw [if_neg h]; simp [h]
theorem step_dbl (b r : Nat) (hb : b % 2 = 1) : r = 2 * step b r ^^^ (if r % 2 = 1 then b else 0) := by
  have e : (r ^^^ (if r % 2 = 1 then b else 0)) % 2 = 0 := by
    rw [xor_odd]
    by_cases h : r % 2 = 1
    · rw [if_pos h, hb, h]
    · rw [if_neg h]; omega
  unfold step
  rw [← even_dbl _ e, Nat.xor_assoc, Nat.xor_self, Nat.xor_zero]
theorem cm_if (c : Prop) [Decidable c] (b d : Nat) : cm (if c then b else 0) d = if c then cm b d else 0 := by
  by_cases h : c
  · rw [if_pos h, if_pos h]
  · rw [if_neg h, if_neg h, cm_zero_l]
/-- the same fraction, told in two ways -/
theorem step_cross {a b a' b' : Nat} (hb : b % 2 = 1) (hb' : b' % 2 = 1) (h : cm a b' = cm a' b) : cm (step b a) b' = cm (step b' a') b := by
  have hp : a % 2 = a' % 2 := by
    have := congrArg (· % 2) h
    simp only [cm_mod2, hb, hb', Nat.mul_one] at this
    exact this
  have h1 := step_dbl b a hb
  have h2 := step_dbl b' a' hb'
  rw [h1, h2, cm_xor_l, cm_xor_l, cm_dbl_l, cm_dbl_l, cm_if, cm_if] at h
  rw [hp, cm_comm b' b] at h
  generalize (if a' % 2 = 1 then cm b b' else 0) = z at h
  have := congrArg (· ^^^ z) h
  simp only [Nat.xor_assoc, Nat.xor_self, Nat.xor_zero] at this
  omega
theorem co_cross {a b a' b' : Nat} (hb : b % 2 = 1) (hb' : b' % 2 = 1) (h : cm a b' = cm a' b) (n : Nat) : co a b n = co a' b' n := by
  induction n generalizing a a' with
  | zero =>
    have := congrArg (· % 2) h
    simp only [cm_mod2, hb, hb', Nat.mul_one] at this
    exact this
  | succ n ih => rw [co_succ, co_succ]; exact ih (step_cross hb hb' h)
theorem step_xor (b x y : Nat) : step b (x ^^^ y) = step b x ^^^ step b y := by
  unfold step
  rw [← half_xor, xor4, xor_odd]
  congr 2
  rcases Nat.mod_two_eq_zero_or_one x with a | a <;> rcases Nat.mod_two_eq_zero_or_one y with c | c <;> rw [a, c] <;> simp
theorem co_xor (b n x y : Nat) : co (x ^^^ y) b n = (co x b n + co y b n) % 2 := by
  induction n generalizing x y with
  | zero => exact xor_odd x y
  | succ n ih => rw [co_succ, co_succ, co_succ, step_xor, ih]
theorem co_add {a b a' b' : Nat} (hb : b % 2 = 1) (hb' : b' % 2 = 1) (n : Nat) : co (cm a b' ^^^ cm a' b) (cm b b') n = (co a b n + co a' b' n) % 2 := by
  have hh : (cm b b') % 2 = 1 := by rw [cm_mod2, hb, hb']
  rw [co_xor, co_cross (a := cm a b') hh hb, co_cross (a := cm a' b) hh hb']
  · rw [cm_assoc, cm_comm b b']
  · rw [cm_assoc, cm_comm b' b]
theorem step_even (b r : Nat) : step b (2 * r) = r := by
  unfold step
  rw [if_neg (by omega), Nat.xor_zero]; omega
theorem run_shift (b r : Nat) : ∀ n, run b n (2 ^ n * r) = r
  | 0 => by simp [run]
  | n + 1 => by
    show run b n (step b (2 ^ (n + 1) * r)) = r
    rw [Nat.pow_succ, Nat.mul_comm _ 2, Nat.mul_assoc, step_even, run_shift b r n]
theorem co_shift (b r n m : Nat) : co (2 ^ n * r) b (m + n) = co r b m := by
  unfold co
  rw [Nat.add_comm, run_add, run_shift]
theorem co_shift0 (b r n : Nat) : co (2 ^ (n + 1) * r) b n = 0 := by
  unfold co
  rw [Nat.pow_succ, Nat.mul_assoc, run_shift]; omega
/-- every other bit -/
def Ev (x e y : Nat) : Prop := ∀ k, y.testBit k = x.testBit (2 * k + e)
theorem sq_tb (b : Nat) : ∀ k, (cm b b).testBit (2 * k) = b.testBit k ∧ (cm b b).testBit (2 * k + 1) = false := by
  induction b using ind with
  | h0 => intro k; simp [cm_zero]
  | h b hb ih =>
    have e4 : cm b b = (if b % 2 = 1 then 1 else 0) ^^^ 2 * (2 * cm (b / 2) (b / 2)) := by
      rcases Nat.mod_two_eq_zero_or_one b with e | e
      · conv => lhs; rw [even_dbl b e]
        rw [cm_dbl, cm_dbl_l, if_neg (by omega)]; simp
      · conv => lhs; rw [odd_dbl b e]
        rw [if_pos e]
        simp only [cm_xor, cm_xor_l, cm_dbl, cm_dbl_l, cm_one, cm_one_l]
        rw [← dbl_xor]
        generalize 2 * (b / 2) = u
        generalize 2 * (2 * cm (b / 2) (b / 2)) = v
        exact ext fun k => by
          simp only [Nat.testBit_xor]
          cases (1 : Nat).testBit k <;> cases u.testBit k <;> cases v.testBit k <;> rfl
    intro k
    rw [e4, Nat.testBit_xor, Nat.testBit_xor]
    cases k with
    | zero =>
      rw [show 2 * 0 = 0 from rfl, tb_dbl0, show (0 + 1 : Nat) = 1 from rfl, tb_dbl, tb_dbl0, tb0 b]
      rcases Nat.mod_two_eq_zero_or_one b with e | e <;> rw [e] <;> decide
    | succ k =>
      rw [show 2 * (k + 1) = 2 * k + 1 + 1 by omega, tb_dbl, tb_dbl, tb_dbl, tb_dbl, (ih k).1, (ih k).2, tb_half]
      rcases Nat.mod_two_eq_zero_or_one b with e | e <;> rw [e] <;> simp [Nat.testBit_succ]
theorem ev_step {b r y e : Nat} (hb : b % 2 = 1) (he : e < 2) (h : Ev r e y) : Ev (step (cm b b) (step (cm b b) r)) e (step b y) := fun k => by
  have hbb : (cm b b) % 2 = 1 := by rw [cm_mod2, hb]
  have d : ∀ x : Nat, decide (x % 2 = 1) = x.testBit 0 := fun x => (tb0 x).symm
  rw [step_tb _ _ _ hb, step_tb _ _ _ hbb, step_tb _ _ _ hbb, d, d, d, step_tb _ _ _ hbb, d, h (k + 1), h 0]
  have s1 := sq_tb b 0
  rw [show (0 + 1 : Nat) = 2 * 0 + 1 from rfl, s1.2]
  have e0 : e = 0 ∨ e = 1 := by omega
  rcases e0 with rfl | rfl
  · rw [show 2 * k + 0 + 1 + 1 = 2 * (k + 1) + 0 by omega, show 2 * k + 0 + 1 = 2 * k + 1 by omega, (sq_tb b k).2, show 2 * (k + 1) + 0 = 2 * (k + 1) by omega, (sq_tb b (k + 1)).1]
    simp
  · rw [show 2 * k + 1 + 1 + 1 = 2 * (k + 1) + 1 by omega, show 2 * k + 1 + 1 = 2 * (k + 1) by omega, (sq_tb b (k + 1)).2, (sq_tb b (k + 1)).1]
    simp
theorem co_ev {b r y e : Nat} (hb : b % 2 = 1) (he : e < 2) (h : Ev r e y) (m : Nat) : co r (cm b b) (2 * m + e) = co y b m := by
  induction m generalizing r y with
  | zero =>
    have e0 : e = 0 ∨ e = 1 := by omega
    have h0 := h 0
    rcases e0 with rfl | rfl
    · rw [tb0, show 2 * 0 + 0 = 0 from rfl, tb0] at h0
      show r % 2 = y % 2
      have := of_decide_eq_true (p := (y % 2 = 1 ↔ r % 2 = 1)) (by simpa using h0)
      omega
    · rw [tb0, show 2 * 0 + 1 = 0 + 1 from rfl, Nat.testBit_succ, tb0] at h0
      show step (cm b b) r % 2 = y % 2
      have s := step_tb (cm b b) r 0 (by rw [cm_mod2, hb])
      rw [show (0 + 1 : Nat) = 2 * 0 + 1 from rfl, (sq_tb b 0).2, Bool.and_false, Bool.xor_false, tb0, show 2 * 0 + 1 = 0 + 1 from rfl, Nat.testBit_succ, tb0] at s
      rw [← s] at h0
      have : (y % 2 = 1 ↔ step (cm b b) r % 2 = 1) := by simpa using h0
      omega
  | succ m ih =>
    rw [show 2 * (m + 1) + e = 2 * m + e + 1 + 1 by omega, co_succ, co_succ, co_succ]
    exact ih (ev_step hb he h)
/-- the far bit, by halves -/
theorem co_half {a b y n : Nat} (hb : b % 2 = 1) (h : Ev (cm a b) (n % 2) y) : co a b n = co y b (n / 2) := by
  have hbb : (cm b b) % 2 = 1 := by rw [cm_mod2, hb]
  have e1 : co a b n = co (cm a b) (cm b b) n := co_cross hb hbb (by rw [cm_assoc]) n
  rw [e1]
  have := co_ev hb (Nat.mod_lt n (by decide)) h (n / 2)
  rw [← this]
  congr 1; omega
/-- the sum at the ones below -/
def conv (a b : Nat) : Nat → Nat → Nat
  | 0, _ => 0
  | k + 1, n => conv a b k n + (if b.testBit k then co a b (n - k) else 0)
theorem conv_shift (a b : Nat) : ∀ (k n : Nat), k ≤ n + 1 → conv a b k (n + 1) % 2 = (conv (step b a) b k n + (if k = n + 2 then 0 else 0)) % 2
  | 0, n, _ => rfl
  | k + 1, n, h => by
    have := conv_shift a b k n (by omega)
    simp only [conv]
    rw [show n + 1 - k = (n - k) + 1 by omega, co_succ]
    simp only [ite_self, Nat.add_zero] at this ⊢
    omega
theorem conv_full (a b n : Nat) (hb : b % 2 = 1) : conv a b (n + 1) n % 2 = (if a.testBit n then 1 else 0) := by
  induction n generalizing a with
  | zero =>
    simp only [conv]
    rw [tb0, tb0]
    show (0 + if decide (b % 2 = 1) = true then a % 2 else 0) % 2 = _
    rw [hb]
    rcases Nat.mod_two_eq_zero_or_one a with e | e <;> rw [e] <;> rfl
  | succ n ih =>
    have i := ih (step b a)
    have s := conv_shift a b (n + 1) n (by omega)
    simp only [ite_self, Nat.add_zero] at s
    rw [step_tb _ _ _ hb] at i
    show (conv a b (n + 1) (n + 1) + (if b.testBit (n + 1) then co a b (n + 1 - (n + 1)) else 0)) % 2 = _
    rw [Nat.sub_self]
    show (conv a b (n + 1) (n + 1) + (if b.testBit (n + 1) then a % 2 else 0)) % 2 = _
    rw [← s] at i
    rw [Nat.add_mod, i]
    rcases Nat.mod_two_eq_zero_or_one a with e | e <;> rw [e] <;> cases a.testBit (n + 1) <;> cases b.testBit (n + 1) <;> rfl
theorem conv_more (a b n : Nat) : ∀ j, bl b ≤ j → conv a b j n = conv a b (bl b) n := by
  intro j hj
  induction j with
  | zero => rw [Nat.le_zero.1 hj]
  | succ j ih =>
    by_cases c : bl b = j + 1
    · rw [c]
    · have h := ih (by omega)
      show conv a b j n + _ = _
      have : b.testBit j = false := Nat.testBit_lt_two_pow (bl_lt_iff.1 (by omega))
      rw [this, h]; rfl
/-- behind the degrees the sum is 0 -/
theorem conv_none {a b n : Nat} (hb : b % 2 = 1) (h1 : bl a ≤ n) (h2 : bl b ≤ n + 1) : conv a b (bl b) n % 2 = 0 := by
  rw [← conv_more a b n (n + 1) h2, conv_full a b n hb, Nat.testBit_lt_two_pow (bl_lt_iff.1 h1)]
  rfl
theorem tb_high {x k : Nat} (h : bl x ≤ k) : x.testBit k = false := Nat.testBit_lt_two_pow (bl_lt_iff.1 h)
theorem bl_of_tb {x k : Nat} (h : ∀ i, k ≤ i → x.testBit i = false) : bl x ≤ k := by
  rw [bl_lt_iff]
  exact Nat.lt_pow_two_of_testBit x h
theorem ev_bl {x e y : Nat} (h : Ev x e y) : 2 * bl y ≤ bl x + 1 := by
  have : bl y ≤ (bl x + 1) / 2 := bl_of_tb fun i hi => by rw [h i]; exact tb_high (by omega)
  omega
/-- lowest terms: both by a common factor -/
def Red (A B x y : Nat) : Prop := ∃ g, g ≠ 0 ∧ A = cm x g ∧ B = cm y g
theorem Red.cross {A B x y : Nat} (h : Red A B x y) : cm x B = cm A y := by
  obtain ⟨g, _, rfl, rfl⟩ := h
  rw [cm_assoc, cm_comm g y]
theorem Red.odd {A B x y : Nat} (h : Red A B x y) (hb : B % 2 = 1) : y % 2 = 1 := by
  obtain ⟨g, _, _, rfl⟩ := h
  rw [cm_mod2] at hb
  have a := Nat.mod_two_eq_zero_or_one y
  rcases a with a | a
  · rw [a] at hb; omega
  · exact a
theorem cm_bl_le {x g : Nat} (hg : g ≠ 0) : bl x ≤ bl (cm x g) := by
  by_cases c : x = 0
  · subst c; rw [bl_zero]; omega
  · have := bl_cm c hg
    have := bl_pos hg; omega
theorem Red.bl_l {A B x y : Nat} (h : Red A B x y) : bl x ≤ bl A := by
  obtain ⟨g, hg, rfl, _⟩ := h
  exact cm_bl_le hg
theorem Red.bl_r {A B x y : Nat} (h : Red A B x y) : bl y ≤ bl B := by
  obtain ⟨g, hg, _, rfl⟩ := h
  exact cm_bl_le hg
theorem Red.ne {A B x y : Nat} (h : Red A B x y) (hb : B ≠ 0) : y ≠ 0 := by
  obtain ⟨g, hg, _, rfl⟩ := h
  intro z; subst z; rw [cm_zero_l] at hb; exact hb rfl
theorem Red.co {A B x y : Nat} (h : Red A B x y) (hb : B % 2 = 1) (n : Nat) : GF.co x y n = GF.co A B n := co_cross (h.odd hb) hb h.cross n
theorem bl_cm_le (a b : Nat) : bl (cm a b) ≤ bl a + bl b := by
  by_cases ha : a = 0
  · subst ha; rw [cm_zero_l, bl_zero]; omega
  · by_cases hb : b = 0
    · subst hb; rw [cm_zero, bl_zero]; omega
    · have := bl_cm ha hb; omega
end GF

set_option maxRecDepth 100000
/-! GFI: the program's words on ints that are no less than 0, as words on numbers -/
namespace GF
open PySem L2
theorem ib (b : Nat) : Builtin.Int.intBits (b : Int) = bl b := by
  unfold Builtin.Int.intBits bl
  by_cases h : b = 0
  · subst h; rfl
  · rw [if_neg h, if_neg (by simpa using h)]; rfl
theorem ix (a b : Nat) : Builtin.bitXor (a : Int) (b : Int) = ((a ^^^ b : Nat) : Int) := by
  rw [Bits.bitXor_pp (by omega) (by omega)]; rfl
theorem io (a b : Nat) : Builtin.bitOr (a : Int) (b : Int) = ((a ||| b : Nat) : Int) := by
  rw [Bits.bitOr_pp (by omega) (by omega)]; rfl
theorem ia (a b : Nat) : Builtin.bitAnd (a : Int) (b : Int) = ((a &&& b : Nat) : Int) := by
  rw [PyProof.Rows.bitAnd_pp (by omega) (by omega)]; rfl
theorem ia1 (a : Nat) : Builtin.bitAnd (a : Int) 1 = ((a % 2 : Nat) : Int) := by
  have := ia a 1
  rw [Nat.and_one_is_mod] at this
  exact this
theorem il (a k : Nat) : (a : Int) * 2 ^ ((k : Int)).toNat = ((a * 2 ^ k : Nat) : Int) := by simp
theorem ir (a k : Nat) : (a : Int) / 2 ^ ((k : Int)).toNat = ((a / 2 ^ k : Nat) : Int) := by simp
theorem il1 (k : Nat) : (1 : Int) * 2 ^ ((k : Int)).toNat = ((2 ^ k : Nat) : Int) := by simp
theorem ir1 (a : Nat) : (a : Int) / 2 ^ ((1 : Int)).toNat = ((a / 2 : Nat) : Int) := by simp
theorem ir2 (a : Nat) : (a : Int) / 2 ^ ((2 : Int)).toNat = ((a / 4 : Nat) : Int) := by simp
theorem in0 (a : Nat) : ((a : Int) != 0) = (a != 0) := by
  by_cases h : a = 0
  · subst h; rfl
  · have : ((a : Int) != 0) = true := by simpa using h
    rw [this]; simpa using h
theorem bitd (a k : Nat) : a / 2 ^ k % 2 = if a.testBit k then 1 else 0 := by
  rw [Nat.testBit_eq_decide_div_mod_eq]
  have := Nat.mod_two_eq_zero_or_one (a / 2 ^ k)
  rcases this with h | h <;> rw [h] <;> rfl
theorem shl_small {a k : Nat} (h : bl a + k ≤ 2 ^ 27) : CShl (a : Int) (k : Int) := by
  refine ⟨by omega, ?_⟩
  rw [ib]; omega
theorem and_lt {a : Nat} : a % 2 < 2 := Nat.mod_lt _ (by decide)
end GF

set_option maxRecDepth 100000
set_option maxHeartbeats 2000000
namespace K09
open PySem L2 DL
/-! the text by places -/
def top (i : Nat) : Stmt := PySem.Challenge.pw_bitsback_k09_whole_far_bits.main.body.getD i (.Pass ⟨0, 0, 0, 0⟩)
abbrev s_times_of : Stmt := top 8
abbrev s_divided : Stmt := top 9
abbrev s_Poly___init__ : Stmt := inClass (top 12) 0
abbrev s_Poly_degree : Stmt := inClass (top 12) 1
abbrev s_Poly_bit : Stmt := inClass (top 12) 3
abbrev s_Poly___bool__ : Stmt := inClass (top 12) 4
abbrev s_every_other : Stmt := top 15
abbrev s_Ratio_is_real : Stmt := inClass (top 16) 1
abbrev s_l_start : Stmt := top 18
abbrev s_l_draw : Stmt := top 19
abbrev s_l_cycle : Stmt := top 20
abbrev s_l_far : Stmt := top 21
abbrev s_Poly___add__ : Stmt := inClass (top 12) 6
abbrev s_Poly___mul__ : Stmt := inClass (top 12) 7
abbrev s_Poly___floordiv__ : Stmt := inClass (top 12) 8
abbrev s_gcd_of : Stmt := top 13
abbrev s_Ratio_check_beat : Stmt := inClass (top 16) 9
abbrev s_Ratio___init__ : Stmt := inClass (top 16) 0
abbrev s_Ratio_bits : Stmt := inClass (top 16) 10
abbrev s_Ratio_bit : Stmt := inClass (top 16) 11
abbrev s_l_still : Stmt := top 22
abbrev s_Ratio___add__ : Stmt := inClass (top 16) 6
abbrev s_Ratio___mul__ : Stmt := inClass (top 16) 7
abbrev s_Ratio_z : Stmt := inClass (top 16) 12
abbrev s_law : Stmt := top 23
abbrev N_times_of : List Str := ["one", "other", "found", "shift"]
theorem sc_times_of : FnScope N_times_of ["one", "other"] (defScope s_times_of) := ⟨rfl, rfl, rfl, by decide +kernel, rfl, by decide +kernel, by decide +kernel⟩
abbrev N_divided : List Str := ["one", "other", "quotient", "rest", "shift"]
theorem sc_divided : FnScope N_divided ["one", "other"] (defScope s_divided) := ⟨rfl, rfl, rfl, by decide +kernel, rfl, by decide +kernel, by decide +kernel⟩
abbrev N_Poly___init__ : List Str := ["self", "number"]
theorem sc_Poly___init__ : FnScope N_Poly___init__ ["self", "number"] (defScope s_Poly___init__) := ⟨rfl, rfl, rfl, by decide +kernel, rfl, by decide +kernel, by decide +kernel⟩
abbrev N_Poly_degree : List Str := ["self"]
theorem sc_Poly_degree : FnScope N_Poly_degree ["self"] (defScope s_Poly_degree) := ⟨rfl, rfl, rfl, by decide +kernel, rfl, by decide +kernel, by decide +kernel⟩
abbrev N_Poly_bit : List Str := ["self", "n"]
theorem sc_Poly_bit : FnScope N_Poly_bit ["self", "n"] (defScope s_Poly_bit) := ⟨rfl, rfl, rfl, by decide +kernel, rfl, by decide +kernel, by decide +kernel⟩
abbrev N_Poly___bool__ : List Str := ["self"]
theorem sc_Poly___bool__ : FnScope N_Poly___bool__ ["self"] (defScope s_Poly___bool__) := ⟨rfl, rfl, rfl, by decide +kernel, rfl, by decide +kernel, by decide +kernel⟩
abbrev N_every_other : List Str := ["number", "first", "found", "place", "rest"]
theorem sc_every_other : FnScope N_every_other ["number", "first"] (defScope s_every_other) := ⟨rfl, rfl, rfl, by decide +kernel, rfl, by decide +kernel, by decide +kernel⟩
abbrev N_Ratio_is_real : List Str := ["self"]
theorem sc_Ratio_is_real : FnScope N_Ratio_is_real ["self"] (defScope s_Ratio_is_real) := ⟨rfl, rfl, rfl, by decide +kernel, rfl, by decide +kernel, by decide +kernel⟩
abbrev N_l_start : List Str := ["_law_script", "_law_first"]
theorem sc_l_start : FnScope N_l_start ["_law_script"] (defScope s_l_start) := ⟨rfl, rfl, rfl, by decide +kernel, rfl, by decide +kernel, by decide +kernel⟩
abbrev N_l_draw : List Str := ["_law_state", "_law_many", "_law_drawn", "_law_seed", "_law_mixed"]
theorem sc_l_draw : FnScope N_l_draw ["_law_state", "_law_many"] (defScope s_l_draw) := ⟨rfl, rfl, rfl, by decide +kernel, rfl, by decide +kernel, by decide +kernel⟩
abbrev N_l_cycle : List Str := ["_law_above", "_law_below", "_law_seen", "_law_bits", "_law_rest"]
theorem sc_l_cycle : FnScope N_l_cycle ["_law_above", "_law_below"] (defScope s_l_cycle) := ⟨rfl, rfl, rfl, by decide +kernel, rfl, by decide +kernel, by decide +kernel⟩
abbrev N_l_far : List Str := ["_law_walk", "_law_beat", "_law_bits", "_law_back"]
theorem sc_l_far : FnScope N_l_far ["_law_walk", "_law_beat"] (defScope s_l_far) := ⟨rfl, rfl, rfl, by decide +kernel, rfl, by decide +kernel, by decide +kernel⟩
abbrev N_Poly___add__ : List Str := ["self", "other"]
theorem sc_Poly___add__ : FnScope N_Poly___add__ ["self", "other"] (defScope s_Poly___add__) := ⟨rfl, rfl, rfl, by decide +kernel, rfl, by decide +kernel, by decide +kernel⟩
abbrev N_Poly___mul__ : List Str := ["self", "other"]
theorem sc_Poly___mul__ : FnScope N_Poly___mul__ ["self", "other"] (defScope s_Poly___mul__) := ⟨rfl, rfl, rfl, by decide +kernel, rfl, by decide +kernel, by decide +kernel⟩
abbrev N_Poly___floordiv__ : List Str := ["self", "other"]
theorem sc_Poly___floordiv__ : FnScope N_Poly___floordiv__ ["self", "other"] (defScope s_Poly___floordiv__) := ⟨rfl, rfl, rfl, by decide +kernel, rfl, by decide +kernel, by decide +kernel⟩
abbrev N_gcd_of : List Str := ["a", "b", "one", "other"]
theorem sc_gcd_of : FnScope N_gcd_of ["a", "b"] (defScope s_gcd_of) := ⟨rfl, rfl, rfl, by decide +kernel, rfl, by decide +kernel, by decide +kernel⟩
abbrev N_Ratio_check_beat : List Str := ["self", "n"]
theorem sc_Ratio_check_beat : FnScope N_Ratio_check_beat ["self", "n"] (defScope s_Ratio_check_beat) := ⟨rfl, rfl, rfl, by decide +kernel, rfl, by decide +kernel, by decide +kernel⟩
abbrev N_Ratio___init__ : List Str := ["self", "above", "below", "common"]
theorem sc_Ratio___init__ : FnScope N_Ratio___init__ ["self", "above", "below"] (defScope s_Ratio___init__) := ⟨rfl, rfl, rfl, by decide +kernel, rfl, by decide +kernel, by decide +kernel⟩
abbrev N_Ratio_bits : List Str := ["self", "n", "found", "rest", "beat"]
theorem sc_Ratio_bits : FnScope N_Ratio_bits ["self", "n"] (defScope s_Ratio_bits) := ⟨rfl, rfl, rfl, by decide +kernel, rfl, by decide +kernel, by decide +kernel⟩
abbrev N_Ratio_bit : List Str := ["self", "n", "rest", "beat"]
theorem sc_Ratio_bit : FnScope N_Ratio_bit ["self", "n"] (defScope s_Ratio_bit) := ⟨rfl, rfl, rfl, by decide +kernel, rfl, by decide +kernel, by decide +kernel⟩
abbrev N_l_still : List Str := ["_law_ratio", "_law_beat", "_law_total", "_law_k"]
theorem sc_l_still : FnScope N_l_still ["_law_ratio", "_law_beat"] (defScope s_l_still) := ⟨rfl, rfl, rfl, by decide +kernel, rfl, by decide +kernel, by decide +kernel⟩
abbrev N_Ratio___add__ : List Str := ["self", "other"]
theorem sc_Ratio___add__ : FnScope N_Ratio___add__ ["self", "other"] (defScope s_Ratio___add__) := ⟨rfl, rfl, rfl, by decide +kernel, rfl, by decide +kernel, by decide +kernel⟩
abbrev N_Ratio___mul__ : List Str := ["self", "other"]
theorem sc_Ratio___mul__ : FnScope N_Ratio___mul__ ["self", "other"] (defScope s_Ratio___mul__) := ⟨rfl, rfl, rfl, by decide +kernel, rfl, by decide +kernel, by decide +kernel⟩
abbrev N_Ratio_z : List Str := ["n"]
theorem sc_Ratio_z : FnScope N_Ratio_z ["n"] (defScope s_Ratio_z) := ⟨rfl, rfl, rfl, by decide +kernel, rfl, by decide +kernel, by decide +kernel⟩
abbrev N_law : List Str := ["_law_script", "_law_state", "_law_above", "_law_below", "_law_small", "_law_walk", "_law_large", "_law_together", "_law_middle", "_law_cell", "_law_beat", "_law_n"]
theorem sc_law : FnScope N_law ["_law_script"] (defScope s_law) := ⟨rfl, rfl, rfl, by decide +kernel, rfl, by decide +kernel, by decide +kernel⟩
def fnm : Nat → List Str
  | 0 => ["number"]
  | 1 => ["above", "below"]
  | _ => []
theorem ix_Poly_number : idx "number" (fnm 0) = some 0 := by decide +kernel
theorem ix_Ratio_above : idx "above" (fnm 1) = some 0 := by decide +kernel
theorem ix_Ratio_below : idx "below" (fnm 1) = some 1 := by decide +kernel
theorem nf_Poly_bit : ("bit" : Str) ∉ fnm 0 := by decide +kernel
theorem nf_Ratio_bit : ("bit" : Str) ∉ fnm 1 := by decide +kernel
theorem nf_Ratio_bits : ("bits" : Str) ∉ fnm 1 := by decide +kernel
theorem nf_Ratio_check_beat : ("check_beat" : Str) ∉ fnm 1 := by decide +kernel
theorem nd_Poly : (fnm 0).Nodup := by decide +kernel
theorem ln_Poly : (fnm 0).length < 1000 := by decide +kernel
theorem nd_Ratio : (fnm 1).Nodup := by decide +kernel
theorem ln_Ratio : (fnm 1).length < 1000 := by decide +kernel
/-- what the top has written -/
structure Tx (K : PySem.W.Frag) (mg : Str → Option Value) where
  z_bool : mg "bool" = none
  z_int : mg "int" = none
  z_len : mg "len" = none
  z_list : mg "list" = none
  z_range : mg "range" = none
  z_tuple : mg "tuple" = none
  c_Poly : Addr
  m_Poly : mg "Poly" = some (.ref c_Poly)
  cl_Poly : Cls K c_Poly
  c_Ratio : Addr
  m_Ratio : mg "Ratio" = some (.ref c_Ratio)
  cl_Ratio : Cls K c_Ratio
  na_Poly_number : NoAttr K c_Poly "number"
  na_Ratio_above : NoAttr K c_Ratio "above"
  na_Ratio_below : NoAttr K c_Ratio "below"
  sf_Poly : PySem.W.selfFirst K c_Poly = true
  sf_Ratio : PySem.W.selfFirst K c_Ratio = true
  f_times_of : Addr
  d_times_of : FuncData
  F_times_of : Fun K "times_of" "times_of" s_times_of f_times_of d_times_of
  b_times_of : Binds K d_times_of ["one", "other"] []
  m_times_of : mg "times_of" = some (.ref f_times_of)
  f_divided : Addr
  d_divided : FuncData
  F_divided : Fun K "divided" "divided" s_divided f_divided d_divided
  b_divided : Binds K d_divided ["one", "other"] []
  m_divided : mg "divided" = some (.ref f_divided)
  f_Poly___init__ : Addr
  d_Poly___init__ : FuncData
  F_Poly___init__ : FunD K "__init__" "Poly.__init__" (defArgs s_Poly___init__) (defBody s_Poly___init__) (defScope s_Poly___init__) [V.int 0] [] f_Poly___init__ d_Poly___init__
  bd0_Poly___init__ : ∃ ds, Vals [] ds ∧ Binds K d_Poly___init__ ["self", "number"] ds
  bd1_Poly___init__ : ∃ ds, Vals [V.int 0] ds ∧ Binds K d_Poly___init__ ["self", "number"] ds
  mk_Poly : Mk K c_Poly f_Poly___init__
  f_Poly_degree : Addr
  d_Poly_degree : FuncData
  F_Poly_degree : Fun K "degree" "Poly.degree" s_Poly_degree f_Poly_degree d_Poly_degree
  b_Poly_degree : Binds K d_Poly_degree ["self"] []
  p_Poly_degree : Addr
  pr_Poly_degree : PropOf K c_Poly "degree" p_Poly_degree f_Poly_degree
  f_Poly_bit : Addr
  d_Poly_bit : FuncData
  F_Poly_bit : Fun K "bit" "Poly.bit" s_Poly_bit f_Poly_bit d_Poly_bit
  b_Poly_bit : Binds K d_Poly_bit ["self", "n"] []
  me_Poly_bit : Meth K c_Poly "bit" f_Poly_bit
  f_Poly___bool__ : Addr
  d_Poly___bool__ : FuncData
  F_Poly___bool__ : Fun K "__bool__" "Poly.__bool__" s_Poly___bool__ f_Poly___bool__ d_Poly___bool__
  b_Poly___bool__ : Binds K d_Poly___bool__ ["self"] []
  me_Poly___bool__ : Meth K c_Poly "__bool__" f_Poly___bool__
  ow_Poly___bool__ : OwnOp K c_Poly f_Poly___bool__ "__bool__"
  f_every_other : Addr
  d_every_other : FuncData
  F_every_other : Fun K "every_other" "every_other" s_every_other f_every_other d_every_other
  b_every_other : Binds K d_every_other ["number", "first"] []
  m_every_other : mg "every_other" = some (.ref f_every_other)
  f_Ratio_is_real : Addr
  d_Ratio_is_real : FuncData
  F_Ratio_is_real : Fun K "is_real" "Ratio.is_real" s_Ratio_is_real f_Ratio_is_real d_Ratio_is_real
  b_Ratio_is_real : Binds K d_Ratio_is_real ["self"] []
  p_Ratio_is_real : Addr
  pr_Ratio_is_real : PropOf K c_Ratio "is_real" p_Ratio_is_real f_Ratio_is_real
  f_l_start : Addr
  d_l_start : FuncData
  F_l_start : Fun K "_law_start" "_law_start" s_l_start f_l_start d_l_start
  b_l_start : Binds K d_l_start ["_law_script"] []
  m_l_start : mg "_law_start" = some (.ref f_l_start)
  f_l_draw : Addr
  d_l_draw : FuncData
  F_l_draw : Fun K "_law_draw" "_law_draw" s_l_draw f_l_draw d_l_draw
  b_l_draw : Binds K d_l_draw ["_law_state", "_law_many"] []
  m_l_draw : mg "_law_draw" = some (.ref f_l_draw)
  f_l_cycle : Addr
  d_l_cycle : FuncData
  F_l_cycle : Fun K "_law_cycle" "_law_cycle" s_l_cycle f_l_cycle d_l_cycle
  b_l_cycle : Binds K d_l_cycle ["_law_above", "_law_below"] []
  m_l_cycle : mg "_law_cycle" = some (.ref f_l_cycle)
  f_l_far : Addr
  d_l_far : FuncData
  F_l_far : Fun K "_law_far" "_law_far" s_l_far f_l_far d_l_far
  b_l_far : Binds K d_l_far ["_law_walk", "_law_beat"] []
  m_l_far : mg "_law_far" = some (.ref f_l_far)
  f_Poly___add__ : Addr
  d_Poly___add__ : FuncData
  F_Poly___add__ : Fun K "__add__" "Poly.__add__" s_Poly___add__ f_Poly___add__ d_Poly___add__
  b_Poly___add__ : Binds K d_Poly___add__ ["self", "other"] []
  me_Poly___add__ : Meth K c_Poly "__add__" f_Poly___add__
  ow_Poly___add__ : OwnOp K c_Poly f_Poly___add__ "__add__"
  f_Poly___mul__ : Addr
  d_Poly___mul__ : FuncData
  F_Poly___mul__ : Fun K "__mul__" "Poly.__mul__" s_Poly___mul__ f_Poly___mul__ d_Poly___mul__
  b_Poly___mul__ : Binds K d_Poly___mul__ ["self", "other"] []
  me_Poly___mul__ : Meth K c_Poly "__mul__" f_Poly___mul__
  ow_Poly___mul__ : OwnOp K c_Poly f_Poly___mul__ "__mul__"
  f_Poly___floordiv__ : Addr
  d_Poly___floordiv__ : FuncData
  F_Poly___floordiv__ : Fun K "__floordiv__" "Poly.__floordiv__" s_Poly___floordiv__ f_Poly___floordiv__ d_Poly___floordiv__
  b_Poly___floordiv__ : Binds K d_Poly___floordiv__ ["self", "other"] []
  me_Poly___floordiv__ : Meth K c_Poly "__floordiv__" f_Poly___floordiv__
  ow_Poly___floordiv__ : OwnOp K c_Poly f_Poly___floordiv__ "__floordiv__"
  f_gcd_of : Addr
  d_gcd_of : FuncData
  F_gcd_of : Fun K "gcd_of" "gcd_of" s_gcd_of f_gcd_of d_gcd_of
  b_gcd_of : Binds K d_gcd_of ["a", "b"] []
  m_gcd_of : mg "gcd_of" = some (.ref f_gcd_of)
  f_Ratio_check_beat : Addr
  d_Ratio_check_beat : FuncData
  F_Ratio_check_beat : Fun K "check_beat" "Ratio.check_beat" s_Ratio_check_beat f_Ratio_check_beat d_Ratio_check_beat
  b_Ratio_check_beat : Binds K d_Ratio_check_beat ["self", "n"] []
  me_Ratio_check_beat : Meth K c_Ratio "check_beat" f_Ratio_check_beat
  f_Ratio___init__ : Addr
  d_Ratio___init__ : FuncData
  F_Ratio___init__ : FunD K "__init__" "Ratio.__init__" (defArgs s_Ratio___init__) (defBody s_Ratio___init__) (defScope s_Ratio___init__) [V.non] [] f_Ratio___init__ d_Ratio___init__
  bd0_Ratio___init__ : ∃ ds, Vals [] ds ∧ Binds K d_Ratio___init__ ["self", "above", "below"] ds
  bd1_Ratio___init__ : ∃ ds, Vals [V.non] ds ∧ Binds K d_Ratio___init__ ["self", "above", "below"] ds
  mk_Ratio : Mk K c_Ratio f_Ratio___init__
  f_Ratio_bits : Addr
  d_Ratio_bits : FuncData
  F_Ratio_bits : Fun K "bits" "Ratio.bits" s_Ratio_bits f_Ratio_bits d_Ratio_bits
  b_Ratio_bits : Binds K d_Ratio_bits ["self", "n"] []
  me_Ratio_bits : Meth K c_Ratio "bits" f_Ratio_bits
  f_Ratio_bit : Addr
  d_Ratio_bit : FuncData
  F_Ratio_bit : Fun K "bit" "Ratio.bit" s_Ratio_bit f_Ratio_bit d_Ratio_bit
  b_Ratio_bit : Binds K d_Ratio_bit ["self", "n"] []
  me_Ratio_bit : Meth K c_Ratio "bit" f_Ratio_bit
  f_l_still : Addr
  d_l_still : FuncData
  F_l_still : Fun K "_law_still" "_law_still" s_l_still f_l_still d_l_still
  b_l_still : Binds K d_l_still ["_law_ratio", "_law_beat"] []
  m_l_still : mg "_law_still" = some (.ref f_l_still)
  f_Ratio___add__ : Addr
  d_Ratio___add__ : FuncData
  F_Ratio___add__ : Fun K "__add__" "Ratio.__add__" s_Ratio___add__ f_Ratio___add__ d_Ratio___add__
  b_Ratio___add__ : Binds K d_Ratio___add__ ["self", "other"] []
  me_Ratio___add__ : Meth K c_Ratio "__add__" f_Ratio___add__
  ow_Ratio___add__ : OwnOp K c_Ratio f_Ratio___add__ "__add__"
  f_Ratio___mul__ : Addr
  d_Ratio___mul__ : FuncData
  F_Ratio___mul__ : Fun K "__mul__" "Ratio.__mul__" s_Ratio___mul__ f_Ratio___mul__ d_Ratio___mul__
  b_Ratio___mul__ : Binds K d_Ratio___mul__ ["self", "other"] []
  me_Ratio___mul__ : Meth K c_Ratio "__mul__" f_Ratio___mul__
  ow_Ratio___mul__ : OwnOp K c_Ratio f_Ratio___mul__ "__mul__"
  f_Ratio_z : Addr
  d_Ratio_z : FuncData
  F_Ratio_z : Fun K "z" "Ratio.z" s_Ratio_z f_Ratio_z d_Ratio_z
  b_Ratio_z : Binds K d_Ratio_z ["n"] []
  p_Ratio_z : Addr
  sm_Ratio_z : SMet K c_Ratio "z" p_Ratio_z f_Ratio_z
  f_law : Addr
  d_law : FuncData
  F_law : Fun K "law" "law" s_law f_law d_law
  b_law : Binds K d_law ["_law_script"] []
  m_law : mg "law" = some (.ref f_law)
def cmap {K : PySem.W.Frag} {mg : Str → Option Value} (T : Tx K mg) : Nat → Addr
  | 0 => T.c_Poly
  | 1 => T.c_Ratio
  | _ => 0
abbrev pr {K : PySem.W.Frag} {mg : Str → Option Value} (T : Tx K mg) : Par := parA (cmap T) fnm
section
variable {P : Program} {w : World} {K : PySem.W.Frag} {mg : Str → Option Value} {base : Heap}
theorem ok_l_start (T : Tx K mg) : FnD (pr T) P w K mg base 1 T.f_l_start T.d_l_start ["_law_script"] D_start := by
  refine ⟨D_start_mono, T.F_l_start.okX sc_l_start (fun vs H Q E h => ?_) (fun cdv A outer s H vs Q E hr h => ?_)⟩
  · obtain ⟨W, ps, _, _, r, ns, rfl, _⟩ := h
    obtain ⟨v, rfl, _⟩ := r.one
    rfl
  · obtain ⟨W, ps, sm, bx, r, ns, rfl, hl, q⟩ := h
    obtain ⟨v, rfl, r1⟩ := r.one
    rw [rep_scr] at r1
    obtain ⟨sa, ys, rfl, hS, rl⟩ := r1
    have hys : ys = ns.map V.int := by
      have := ints?_rep (ints?_map ns) rl
      exact this
    subst hys
    have hS' := sqL_same sm hS
    refine ⟨_, pss_cons (ps_set (i := 1) sc_l_start.nd rfl (Or.inl rfl) pe_int)
      (pss_cons (ps_if (pt_cmpR op_gt (pe_callB call_len (by rfl) T.z_len bt_len (pa_cons (pv 0) pa_nil)) pe_int (nomark _))
        (pss_one (ps_set (i := 1) sc_l_start.nd rfl (Or.inl rfl) (pe_ix ix_list (pv 0) pe_int (fun _ _ => rfl))))
        pss_nil)
      (pss_one (ps_ret (pe_lst (pa_cons (pe_callTy call_list_of (by rfl) T.z_list bt_list (pa_cons (pv 0) pa_nil)) (pa_cons pe_int (pa_cons (pv 1) (pa_cons pe_int pa_nil)))))))), ?_⟩
    have fin := fun f => start_fin (ns := ns) sm bx q f
    refine ⟨.ref sa, rfl, _, ns.length, rfl, Or.inl ⟨_, hS', by simp⟩, _, _, rfl, rfl, _, rfl, ?_⟩
    refine ite2 (fun h => ?_) (fun h => ?_)
    · cases ns with
      | nil => exact absurd h (by simp)
      | cons z zs =>
        refine ⟨.ref sa, rfl, sa, _, 0, .int z, rfl, rfl, hS', at_zero _ _, ?_⟩
        exact ⟨.ref sa, rfl, sa, _, rfl, Or.inl hS', fun l hl => ⟨.int z, rfl, (by show 4 ≤ sizeLine; decide), fun p hp => fin z l hl p hp⟩⟩
    · exact ⟨.ref sa, rfl, sa, _, rfl, Or.inl hS', fun l hl => ⟨.int 0, rfl, (by show 4 ≤ sizeLine; decide), fun p hp => fin 0 l hl p hp⟩⟩
theorem ok_l_draw (T : Tx K mg) : FnD (pr T) P w K mg base 1 T.f_l_draw T.d_l_draw ["_law_state", "_law_many"] D_draw := by
  refine ⟨D_draw_mono, T.F_l_draw.okX sc_l_draw (fun vs H Q E h => ?_) (fun cdv A outer s H vs Q E hr h => ?_)⟩
  · obtain ⟨W, ps, _, _, r, m, rfl, _⟩ := h
    obtain ⟨v, u, rfl, _⟩ := r.two
    rfl
  · obtain ⟨W, ps, sm, bx, r, m, rfl, hm, hm2, hn, q⟩ := h
    obtain ⟨v, u, rfl, r1, r2⟩ := r.two
    rw [rep_box] at r1
    rw [rep_int] at r2
    obtain ⟨st, rfl, hb⟩ := r1
    subst r2
    obtain ⟨_, o, ho, a, i, r, c, rfl, ha, hi, hc0, hc⟩ := bx st 0 hb
    obtain ⟨_, o2, ho2, ns, rfl⟩ := bx a 1 ha
    have na : a ≠ st := fun e => by rw [e, hb] at ha; cases ha
    have fin : ∀ (H' : Hp) (i' r' m' : Int) (v : Nat), (∀ x, x ≠ st → H' x = H x) → H' st = some (.lst [.ref a, .int i', .int r', .int m']) → 0 ≤ i' → 0 ≤ m' → m' ≤ (W.c : Int) + 1 → (v : Int) < m → Q (.int v) H' :=
      fun H' i' r' m' v h1 h2 g1 g2 g3 hv => q v hv _ _ H' (draw_fin (K := K) sm bx hb ha h1 h2 g1 g2 g3) rfl (rep_int.2 rfl)
    refine ⟨_, pss_cons (ps_if (pt_cmpR op_ge (pe_ix ix_list (pv 0) pe_int (fun _ _ => rfl)) (pe_op op_pow pe_int pe_int) (nomark _))
        (pss_cons (ps_set (i := 2) sc_l_draw.nd rfl (Or.inl rfl) (pe_op op_mod (pe_callTy call_int1 (by rfl) T.z_int bt_int (pa_cons (pe_ix ix_list (pv 0) pe_int (fun _ _ => rfl)) pa_nil)) (pv 1)))
        (pss_cons (ps_asg (pe_op op_fdivW (pe_ix ix_list (pv 0) pe_int (fun _ _ => rfl)) (pv 1)) (pg_sub (pv 0) pe_int set_list))
        (pss_one (ps_ret (pv 2))))) pss_nil)
      (pss_cons (ps_asg (pe_op op_add (pe_ix ix_list (pv 0) pe_int (fun _ _ => rfl)) pe_int) (pg_sub (pv 0) pe_int set_list))
      (pss_cons (ps_set (i := 3) sc_l_draw.nd rfl (Or.inl rfl) (pe_op op_add (pe_op op_add (pe_op op_mod (pe_callTy call_int1 (by rfl) T.z_int bt_int (pa_cons (pe_ix ix_list (pv 0) pe_int (fun _ _ => rfl)) pa_nil)) pe_int) (pe_op op_mul pe_int (pe_ix ix_list (pv 0) pe_int (fun _ _ => rfl)))) pe_int))
      (pss_cons (ps_set (i := 4) sc_l_draw.nd rfl (Or.inl rfl) (pe_op op_mod (pe_op op_pow (pv 3) pe_int) pe_int))
      (pss_cons (ps_if (pt_cmpR op_lt (pe_ix ix_list (pv 0) pe_int (fun _ _ => rfl)) (pe_callB call_len (by rfl) T.z_len bt_len (pa_cons (pe_ix ix_list (pv 0) pe_int (fun _ _ => rfl)) pa_nil)) (nomark _))
        (pss_cons (ps_asg (pe_ix ix_list (pe_ix ix_list (pv 0) pe_int (fun _ _ => rfl)) (pe_ix ix_list (pv 0) pe_int (fun _ _ => rfl)) (fun _ _ => rfl)) (pg_sub (pv 0) pe_int set_list))
        (pss_one (ps_asg (pe_op op_add (pe_ix ix_list (pv 0) pe_int (fun _ _ => rfl)) pe_int) (pg_sub (pv 0) pe_int set_list)))) pss_nil)
      (pss_one (ps_ret (pe_op op_mod (pe_op op_fdivW (pe_callTy call_int1 (by rfl) T.z_int bt_int (pa_cons (pv 4) pa_nil)) pe_int) (pv 1)))))))), ?_⟩
    refine ⟨.ref st, rfl, st, _, 2, .int r, rfl, rfl, SqL.of ho, rfl, _, _, rfl, rfl, ⟨by decide, by decide, by decide⟩, _, _, rfl, rfl, _, rfl, ?_⟩
    refine ite2 (fun h => ?_) (fun h => ?_)
    · refine ⟨.ref st, rfl, st, _, 2, .int r, rfl, rfl, SqL.of ho, rfl, Or.inl ⟨_, rfl, .int m, rfl, _, _, rfl, rfl, hm, ?_⟩⟩
      refine ⟨.ref st, rfl, st, _, 2, .int r, rfl, rfl, SqL.of ho, rfl, .int m, rfl, _, _, rfl, rfl, ⟨hm, hm2⟩, ?_⟩
      refine ⟨.ref st, rfl, st, _, 2, 2, rfl, rfl, ho, rfl, _, rfl, ?_⟩
      have e1 : 0 ≤ r % m := Int.emod_nonneg _ (by omega)
      have e2 : r % m < m := Int.emod_lt_of_pos _ hm
      have := fin (upd H st (.lst ([V.ref a, .int i, .int r, .int c].set 2 (.int (r / m))))) i (r / m) c (r % m).toNat (fun x hx => upd_ne hx) upd_same hi hc0 (by omega) (by omega)
      rw [Int.toNat_of_nonneg e1] at this
      exact this
    · refine ⟨.ref st, rfl, st, _, 3, .int c, rfl, rfl, SqL.of ho, rfl, _, _, rfl, rfl, .ref st, rfl, st, _, 3, 3, rfl, rfl, ho, rfl, ?_⟩
      refine ⟨.ref st, rfl, st, _, 2, .int r, rfl, rfl, SqL.of upd_same, rfl, Or.inl ⟨_, rfl, _, _, rfl, rfl, (by show (0 : Int) < _; decide), ?_⟩⟩
      refine ⟨.ref st, rfl, st, _, 3, .int (c + 1), rfl, rfl, SqL.of upd_same, rfl, _, _, rfl, rfl, Or.inl ⟨by decide, by decide⟩, _, _, rfl, rfl, _, _, rfl, rfl, ?_⟩
      have e1 : 0 ≤ r % 1000000007 := Int.emod_nonneg _ (by decide)
      have e2 : r % 1000000007 < 1000000007 := Int.emod_lt_of_pos _ (by decide)
      refine ⟨_, rfl, _, _, rfl, rfl, ⟨by decide, by decide, by show ((_ : Int)).natAbs < _; omega⟩, _, _, rfl, rfl, (by show (0 : Int) < _; decide), ?_⟩
      have h1a : (upd H st (.lst ([V.ref a, .int i, .int r, .int c].set 3 (.int (c + 1))))) a = some (.lst (ns.map V.int)) := by rw [upd_ne na]; exact ho2
      refine ⟨.ref st, rfl, st, _, 1, .int i, rfl, rfl, SqL.of upd_same, rfl, .ref st, rfl, st, _, 0, .ref a, rfl, rfl, SqL.of upd_same, rfl, _, ns.length, rfl, Or.inl ⟨_, SqL.of h1a, by simp⟩, _, _, rfl, rfl, _, rfl, ?_⟩
      have e3 : 0 ≤ ((r % 1000000007 + 69621 * (c + 1) + 48271) ^ (17 : Int).toNat % 170141183460469231731687303715884105727) / 64 % m := Int.emod_nonneg _ (by omega)
      have e4 : ((r % 1000000007 + 69621 * (c + 1) + 48271) ^ (17 : Int).toNat % 170141183460469231731687303715884105727) / 64 % m < m := Int.emod_lt_of_pos _ hm
      refine ite2 (fun h => ?_) (fun h => ?_)
      · have hi2 : i < (ns.length : Int) := by simpa using h
        have hg : i.toNat < ns.length := by omega
        have hat : L2.atI (ns.map V.int) i = some (.int ns[i.toNat]) := by
          unfold L2.atI
          rw [List.length_map]
          unfold ixN
          rw [if_pos hi, if_pos hi2]
          simp [hg]
        refine ⟨.ref st, rfl, st, _, 0, .ref a, rfl, rfl, SqL.of upd_same, rfl, .ref st, rfl, st, _, 1, .int i, rfl, rfl, SqL.of upd_same, rfl, a, _, i, _, rfl, rfl, SqL.of h1a, hat, .ref st, rfl, st, _, 2, 2, rfl, rfl, upd_same, rfl, ?_⟩
        refine ⟨.ref st, rfl, st, _, 1, .int i, rfl, rfl, SqL.of upd_same, rfl, _, _, rfl, rfl, .ref st, rfl, st, _, 1, 1, rfl, rfl, upd_same, rfl, ?_⟩
        refine ⟨_, rfl, Or.inl ⟨_, rfl, _, _, rfl, rfl, ⟨by decide, by decide⟩, .int m, rfl, _, _, rfl, rfl, hm, ?_⟩⟩
        have := fin (upd (upd (upd H st (.lst ([V.ref a, .int i, .int r, .int c].set 3 (.int (c + 1))))) st (.lst ([V.ref a, .int i, .int r, .int (c + 1)].set 2 (.int ns[i.toNat])))) st (.lst ([V.ref a, .int i, .int ns[i.toNat], .int (c + 1)].set 1 (.int (i + 1))))) (i + 1) ns[i.toNat] (c + 1) (((r % 1000000007 + 69621 * (c + 1) + 48271) ^ (17 : Int).toNat % 170141183460469231731687303715884105727) / 64 % m).toNat (fun x hx => by rw [upd_ne hx, upd_ne hx, upd_ne hx]) upd_same (by omega) (by omega) (by omega) (by omega)
        rw [Int.toNat_of_nonneg e3] at this
        exact this
      · refine ⟨_, rfl, Or.inl ⟨_, rfl, _, _, rfl, rfl, ⟨by decide, by decide⟩, .int m, rfl, _, _, rfl, rfl, hm, ?_⟩⟩
        have := fin (upd H st (.lst ([V.ref a, .int i, .int r, .int c].set 3 (.int (c + 1))))) i r (c + 1) (((r % 1000000007 + 69621 * (c + 1) + 48271) ^ (17 : Int).toNat % 170141183460469231731687303715884105727) / 64 % m).toNat (fun x hx => upd_ne hx) upd_same (by omega) (by omega) (by omega) (by omega)
        rw [Int.toNat_of_nonneg e3] at this
        exact this
end
end K09

set_option maxRecDepth 100000
set_option maxHeartbeats 2000000
namespace K09
open PySem L2 DL GF
abbrev pp (k : Nat) : PV := .ins 0 [.int (k : Int)]
abbrev rr (a b : Nat) : PV := .ins 1 [pp a, pp b]
section
variable {P : Program} {w : World} {K : PySem.W.Frag} {mg : Str → Option Value} {base : Heap}
def D_times : DSp := fun vs Q E n => ∃ a b : Nat, vs = [.int a, .int b] ∧ bl a ≤ 1000000 ∧ bl b ≤ 1000000 ∧ Q (.int (cm a b : Nat)) n
theorem D_times_mono : MonoSp D_times := fun vs Q Q' E E' n hq he ⟨a, b, e, h1, h2, q⟩ => ⟨a, b, e, h1, h2, hq _ _ q⟩
theorem ok_times_of (T : Tx K mg) : FnD (pr T) P w K mg base 1 T.f_times_of T.d_times_of ["one", "other"] D_times := by
  refine fnD T.F_times_of sc_times_of D_times_mono (fun vs Q E n ⟨a, b, e, _⟩ => by subst e; rfl) (fun cdv A outer s H E W Ex hr dx vs Q h => ?_)
  obtain ⟨a, b, rfl, h1, h2, q⟩ := h
  refine ⟨_, (dss_cons (ds_set 2 sc_times_of.nd de_int)
      (dss_cons (ds_for dx (di_range1 T.z_range (da_cons (de_bits (dv 1)) da_nil)) (dg_name 3 sc_times_of.nd)
      (dss_cons (ds_if (dt_truth dtru (de_bin dop_and (de_bin dop_shr (dv 1) (dv 3)) de_int))
      (dss_cons (ds_set 2 sc_times_of.nd (de_bin dop_xor (dv 2) (de_bin dop_shl (dv 0) (dv 3))))
      dss_nil)
      dss_nil)
      dss_nil))
      (dss_cons (ds_ret (dv 2))
      dss_nil))), ?_⟩
  simp only [dSeq, dNext, dIf, dTst, dTru, dBin, dUn, dApp, dVar, dC, dAsg, dNm, dAug, dDrop, dRet, dRetN, dBrk, dCnt, dNever, dFrz, dPeek, dPeekB, dPar, dFor, dRng1, dRng2, dSeqI, dTupI, dNil, dCons, dTup, dLst, dAnd, dOr, dNot, dIfE, dAndV, dOrV, dNotV, dChain, dBits, dIndex, dOwn, nLst, nList, nRep, nCat, nLc, dApnd, dSetO, dIxO, onOwn, dSelfSet, dSelf, dCall, dMake, dMeth, dProp, dOrE, dSl, dNoP, dP, dEnum, dZip, dYes, dOrI,   gTru, gN1, gN2, rstart, istart, List.map_cons, List.map_nil, List.length_cons, List.length_nil, List.cons_append, List.nil_append, List.append_nil, List.replicate, List.getElem?_cons_zero, List.getElem?_cons_succ, List.set_cons_zero, List.set_cons_succ, Nat.sub_zero, Nat.reduceAdd, Nat.reduceSub, Nat.zero_add, if_true, Bool.false_eq_true, if_false, Int.zero_add, ite_ap, TT2, true_and, PV.int.injEq, exists_eq_left', List.cons.injEq, and_true, PV.ins.injEq, Option.some.injEq, gF, gOwn, gTruO, dGLst, dGTup, dGCons, dGNil, gLen, ib]
  refine ⟨by omega, ?_⟩
  refine loop_rng (fun i ρ n' => n' = W.c ∧ ∃ s, ρ = [.fz (.int a), .fz (.int b), .fz (.int (cm a (b % 2 ^ i) : Nat)), s]) ⟨rfl, .no, by simp [Nat.mod_one, cm_zero]⟩ ?_ ?_
  · rintro i ρ n Nx hi ⟨rfl, s, rfl⟩ k
    rw [Int.toNat_natCast] at hi
    simp only [dSeq, dNext, dIf, dTst, dTru, dBin, dUn, dApp, dVar, dC, dAsg, dNm, dAug, dDrop, dRet, dRetN, dBrk, dCnt, dNever, dFrz, dPeek, dPeekB, dPar, dFor, dRng1, dRng2, dSeqI, dTupI, dNil, dCons, dTup, dLst, dAnd, dOr, dNot, dIfE, dAndV, dOrV, dNotV, dChain, dBits, dIndex, dOwn, nLst, nList, nRep, nCat, nLc, dApnd, dSetO, dIxO, onOwn, dSelfSet, dSelf, dCall, dMake, dMeth, dProp, dOrE, dSl, dNoP, dP, dEnum, dZip, dYes, dOrI,   gTru, gN1, gN2, rstart, istart, List.map_cons, List.map_nil, List.length_cons, List.length_nil, List.cons_append, List.nil_append, List.append_nil, List.replicate, List.getElem?_cons_zero, List.getElem?_cons_succ, List.set_cons_zero, List.set_cons_succ, Nat.sub_zero, Nat.reduceAdd, Nat.reduceSub, Nat.zero_add, if_true, Bool.false_eq_true, if_false, Int.zero_add, ite_ap, TT2, true_and, PV.int.injEq, exists_eq_left', List.cons.injEq, and_true, PV.ins.injEq, Option.some.injEq, gF, gOwn, gTruO, dGLst, dGTup, dGCons, dGNil, gLen, gII, il, ir, ia1, ix, in0]
    refine ⟨by omega, ?_⟩
    rw [bitd]
    have e := cm_step a b i
    by_cases hb : b.testBit i = true
    · rw [if_pos hb] at e
      rw [if_pos hb, if_pos (by rfl)]
      refine ⟨shl_small (by omega), k _ _ ⟨rfl, .fz (.int i), ?_⟩⟩
      rw [e]
    · rw [if_neg hb] at e
      rw [if_neg hb, if_neg (by simp)]
      refine k _ _ ⟨rfl, .fz (.int i), ?_⟩
      rw [e, Nat.xor_zero]
  · rintro ρ n ⟨rfl, s, rfl⟩
    simp only [dSeq, dNext, dIf, dTst, dTru, dBin, dUn, dApp, dVar, dC, dAsg, dNm, dAug, dDrop, dRet, dRetN, dBrk, dCnt, dNever, dFrz, dPeek, dPeekB, dPar, dFor, dRng1, dRng2, dSeqI, dTupI, dNil, dCons, dTup, dLst, dAnd, dOr, dNot, dIfE, dAndV, dOrV, dNotV, dChain, dBits, dIndex, dOwn, nLst, nList, nRep, nCat, nLc, dApnd, dSetO, dIxO, onOwn, dSelfSet, dSelf, dCall, dMake, dMeth, dProp, dOrE, dSl, dNoP, dP, dEnum, dZip, dYes, dOrI,   gTru, gN1, gN2, rstart, istart, List.map_cons, List.map_nil, List.length_cons, List.length_nil, List.cons_append, List.nil_append, List.append_nil, List.replicate, List.getElem?_cons_zero, List.getElem?_cons_succ, List.set_cons_zero, List.set_cons_succ, Nat.sub_zero, Nat.reduceAdd, Nat.reduceSub, Nat.zero_add, if_true, Bool.false_eq_true, if_false, Int.zero_add, ite_ap, TT2, true_and, PV.int.injEq, exists_eq_left', List.cons.injEq, and_true, PV.ins.injEq, Option.some.injEq, gF, gOwn, gTruO, dGLst, dGTup, dGCons, dGNil, gLen, Int.toNat_natCast, mod_bl]
    exact q
def D_div : DSp := fun vs Q E n => ∃ a b : Nat, vs = [.int a, .int b] ∧ b ≠ 0 ∧ bl a ≤ 1000000 ∧ bl b ≤ 1000000 ∧ ∀ q r : Nat, a = cm q b ^^^ r → bl r < bl b → Q (.tup [.int q, .int r]) n
theorem D_div_mono : MonoSp D_div := fun vs Q Q' E E' n hq he ⟨a, b, e, h0, h1, h2, q⟩ => ⟨a, b, e, h0, h1, h2, fun x y u v => hq _ _ (q x y u v)⟩
theorem ok_divided (T : Tx K mg) : FnD (pr T) P w K mg base 1 T.f_divided T.d_divided ["one", "other"] D_div := by
  refine fnD T.F_divided sc_divided D_div_mono (fun vs Q E n ⟨a, b, e, _⟩ => by subst e; rfl) (fun cdv A outer s H E W Ex hr dx vs Q h => ?_)
  obtain ⟨a, b, rfl, h0, h1, h2, q⟩ := h
  refine ⟨_, (dss_cons (ds_set 2 sc_divided.nd de_int)
      (dss_cons (ds_set 3 sc_divided.nd (dv 0))
      (dss_cons (ds_while dx (dt_cmp dop_ge (de_bits (dv 3)) (de_bits (dv 1)))
      (dss_cons (ds_set 4 sc_divided.nd (de_bin dop_sub (de_bits (dv 3)) (de_bits (dv 1))))
      (dss_cons (ds_set 2 sc_divided.nd (de_bin dop_xor (dv 2) (de_bin dop_shl de_int (dv 4))))
      (dss_cons (ds_set 3 sc_divided.nd (de_bin dop_xor (dv 3) (de_bin dop_shl (dv 1) (dv 4))))
      dss_nil))))
      (dss_cons (ds_ret (de_tup (da_cons (dv 2) (da_cons (dv 3) da_nil))))
      dss_nil)))), ?_⟩
  simp only [dSeq, dNext, dIf, dTst, dTru, dBin, dUn, dApp, dVar, dC, dAsg, dNm, dAug, dDrop, dRet, dRetN, dBrk, dCnt, dNever, dFrz, dPeek, dPeekB, dPar, dFor, dRng1, dRng2, dSeqI, dTupI, dNil, dCons, dTup, dLst, dAnd, dOr, dNot, dIfE, dAndV, dOrV, dNotV, dChain, dBits, dIndex, dOwn, nLst, nList, nRep, nCat, nLc, dApnd, dSetO, dIxO, onOwn, dSelfSet, dSelf, dCall, dMake, dMeth, dProp, dOrE, dSl, dNoP, dP, dEnum, dZip, dYes, dOrI,   gTru, gN1, gN2, rstart, istart, List.map_cons, List.map_nil, List.length_cons, List.length_nil, List.cons_append, List.nil_append, List.append_nil, List.replicate, List.getElem?_cons_zero, List.getElem?_cons_succ, List.set_cons_zero, List.set_cons_succ, Nat.sub_zero, Nat.reduceAdd, Nat.reduceSub, Nat.zero_add, if_true, Bool.false_eq_true, if_false, Int.zero_add, ite_ap, TT2, true_and, PV.int.injEq, exists_eq_left', List.cons.injEq, and_true, PV.ins.injEq, Option.some.injEq, gF, gOwn, gTruO, dGLst, dGTup, dGCons, dGNil, gLen]
  refine ⟨fun m ρ n' => n' = W.c ∧ ∃ (u r : Nat) (s : Slot), m = bl r ∧ bl r ≤ bl a ∧ a = cm u b ^^^ r ∧ ρ = [.fz (.int a), .fz (.int b), .fz (.int u), .fz (.int r), s], ⟨_, rfl, 0, a, .no, rfl, Nat.le_refl _, by simp [cm_zero_l], rfl⟩, ?_⟩
  rintro m ρ n ⟨rfl, u, r, s, rfl, hl, he, rfl⟩
  simp only [dSeq, dNext, dIf, dTst, dTru, dBin, dUn, dApp, dVar, dC, dAsg, dNm, dAug, dDrop, dRet, dRetN, dBrk, dCnt, dNever, dFrz, dPeek, dPeekB, dPar, dFor, dRng1, dRng2, dSeqI, dTupI, dNil, dCons, dTup, dLst, dAnd, dOr, dNot, dIfE, dAndV, dOrV, dNotV, dChain, dBits, dIndex, dOwn, nLst, nList, nRep, nCat, nLc, dApnd, dSetO, dIxO, onOwn, dSelfSet, dSelf, dCall, dMake, dMeth, dProp, dOrE, dSl, dNoP, dP, dEnum, dZip, dYes, dOrI,   gTru, gN1, gN2, rstart, istart, List.map_cons, List.map_nil, List.length_cons, List.length_nil, List.cons_append, List.nil_append, List.append_nil, List.replicate, List.getElem?_cons_zero, List.getElem?_cons_succ, List.set_cons_zero, List.set_cons_succ, Nat.sub_zero, Nat.reduceAdd, Nat.reduceSub, Nat.zero_add, if_true, Bool.false_eq_true, if_false, Int.zero_add, ite_ap, TT2, true_and, PV.int.injEq, exists_eq_left', List.cons.injEq, and_true, PV.ins.injEq, Option.some.injEq, gF, gOwn, gTruO, dGLst, dGTup, dGCons, dGNil, gLen, gII, ib]
  by_cases c : bl b ≤ bl r
  · rw [if_pos (by simpa using c)]
    have e1 : ((bl r : Int) - (bl b : Int)) = ((bl r - bl b : Nat) : Int) := by omega
    simp only [e1, il, il1, ix]
    have h3 := shl_small (a := 1) (k := bl r - bl b) (by have : bl 1 = 1 := (by decide); omega)
    exact ⟨h3, shl_small (by omega), _, div_less h0 c, u ^^^ 2 ^ (bl r - bl b), r ^^^ b * 2 ^ (bl r - bl b), _, rfl, Nat.le_of_lt (Nat.lt_of_lt_of_le (div_less h0 c) hl), div_step he _, rfl, rfl, rfl⟩
  · rw [if_neg (by simpa using c)]
    exact ⟨by decide, q u r he (by omega)⟩
def D_pinit : DSi := fun vs Q E n => ∃ k : Nat, vs = [.int k] ∧ Q [.int k] n
theorem D_pinit_mono : MonoSi D_pinit := fun vs Q Q' E E' n hq he ⟨k, e, q⟩ => ⟨k, e, hq _ _ q⟩
theorem ok_Poly___init__ (T : Tx K mg) : FnI (pr T) P w K mg base 1 T.f_Poly___init__ T.d_Poly___init__ ["self", "number"] 0 D_pinit := by
  refine fnID T.F_Poly___init__ sc_Poly___init__ D_pinit_mono (fun vs Q E n ⟨k, e, _⟩ => by subst e; rfl) (by decide) (fun cdv A outer s H Hb E W Ex hr dx x vs Q h => ?_)
  obtain ⟨k, rfl, q⟩ := h
  refine ⟨_, (dss_cons (ds_if (dt_cmp dop_lt (dv 1) de_int)
      dss_never
      dss_nil)
      (dss_cons (ds_self 0 (ok := fun c => c = 0) (dv 1) rfl (fun c h => h ▸ ⟨T.cl_Poly, T.na_Poly_number, nd_Poly, ln_Poly⟩))
      dss_nil)), ?_⟩
  simp only [dSeq, dNext, dIf, dTst, dTru, dBin, dUn, dApp, dVar, dC, dAsg, dNm, dAug, dDrop, dRet, dRetN, dBrk, dCnt, dNever, dFrz, dPeek, dPeekB, dPar, dFor, dRng1, dRng2, dSeqI, dTupI, dNil, dCons, dTup, dLst, dAnd, dOr, dNot, dIfE, dAndV, dOrV, dNotV, dChain, dBits, dIndex, dOwn, nLst, nList, nRep, nCat, nLc, dApnd, dSetO, dIxO, onOwn, dSelfSet, dSelf, dCall, dMake, dMeth, dProp, dOrE, dSl, dNoP, dP, dEnum, dZip, dYes, dOrI,   gTru, gN1, gN2, rstart, istart, List.map_cons, List.map_nil, List.length_cons, List.length_nil, List.cons_append, List.nil_append, List.append_nil, List.replicate, List.getElem?_cons_zero, List.getElem?_cons_succ, List.set_cons_zero, List.set_cons_succ, Nat.sub_zero, Nat.reduceAdd, Nat.reduceSub, Nat.zero_add, if_true, Bool.false_eq_true, if_false, Int.zero_add, ite_ap, TT2, true_and, PV.int.injEq, exists_eq_left', List.cons.injEq, and_true, PV.ins.injEq, Option.some.injEq, gF, gOwn, gTruO, dGLst, dGTup, dGCons, dGNil, gLen, gII]
  rw [if_neg (by simp)]
  exact ⟨x, 0, [], rfl, rfl, rfl, [.int k], rfl, rfl, q⟩
def D_deg : DSp := fun vs Q E n => ∃ k : Nat, vs = [pp k] ∧ Q (.int ((bl k : Int) - 1)) n
theorem D_deg_mono : MonoSp D_deg := fun vs Q Q' E E' n hq he ⟨k, e, q⟩ => ⟨k, e, hq _ _ q⟩
theorem ok_Poly_degree (T : Tx K mg) : FnD (pr T) P w K mg base 1 T.f_Poly_degree T.d_Poly_degree ["self"] D_deg := by
  refine fnD T.F_Poly_degree sc_Poly_degree D_deg_mono (fun vs Q E n ⟨k, e, _⟩ => by subst e; rfl) (fun cdv A outer s H E W Ex hr dx vs Q h => ?_)
  obtain ⟨k, rfl, q⟩ := h
  refine ⟨_, (dss_cons (ds_ret (de_bin dop_sub (de_bits (de_f 0 0 (dv 0) ix_Poly_number T.cl_Poly T.na_Poly_number)) de_int))
      dss_nil), ?_⟩
  simp only [dSeq, dNext, dIf, dTst, dTru, dBin, dUn, dApp, dVar, dC, dAsg, dNm, dAug, dDrop, dRet, dRetN, dBrk, dCnt, dNever, dFrz, dPeek, dPeekB, dPar, dFor, dRng1, dRng2, dSeqI, dTupI, dNil, dCons, dTup, dLst, dAnd, dOr, dNot, dIfE, dAndV, dOrV, dNotV, dChain, dBits, dIndex, dOwn, nLst, nList, nRep, nCat, nLc, dApnd, dSetO, dIxO, onOwn, dSelfSet, dSelf, dCall, dMake, dMeth, dProp, dOrE, dSl, dNoP, dP, dEnum, dZip, dYes, dOrI,   gTru, gN1, gN2, rstart, istart, List.map_cons, List.map_nil, List.length_cons, List.length_nil, List.cons_append, List.nil_append, List.append_nil, List.replicate, List.getElem?_cons_zero, List.getElem?_cons_succ, List.set_cons_zero, List.set_cons_succ, Nat.sub_zero, Nat.reduceAdd, Nat.reduceSub, Nat.zero_add, if_true, Bool.false_eq_true, if_false, Int.zero_add, ite_ap, TT2, true_and, PV.int.injEq, exists_eq_left', List.cons.injEq, and_true, PV.ins.injEq, Option.some.injEq, gF, gOwn, gTruO, dGLst, dGTup, dGCons, dGNil, gLen, gII, gF, ib]
  exact q
def D_pbit : DSp := fun vs Q E n => ∃ k i : Nat, vs = [pp k, .int i] ∧ Q (.int ((if k.testBit i then 1 else 0 : Nat) : Int)) n
theorem D_pbit_mono : MonoSp D_pbit := fun vs Q Q' E E' n hq he ⟨k, i, e, q⟩ => ⟨k, i, e, hq _ _ q⟩
theorem ok_Poly_bit (T : Tx K mg) : FnD (pr T) P w K mg base 1 T.f_Poly_bit T.d_Poly_bit ["self", "n"] D_pbit := by
  refine fnD T.F_Poly_bit sc_Poly_bit D_pbit_mono (fun vs Q E n ⟨k, i, e, _⟩ => by subst e; rfl) (fun cdv A outer s H E W Ex hr dx vs Q h => ?_)
  obtain ⟨k, i, rfl, q⟩ := h
  refine ⟨_, (dss_cons (ds_if (dt_cmp dop_lt (dv 1) de_int)
      dss_never
      dss_nil)
      (dss_cons (ds_ret (de_bin dop_and (de_bin dop_shr (de_f 0 0 (dv 0) ix_Poly_number T.cl_Poly T.na_Poly_number) (dv 1)) de_int))
      dss_nil)), ?_⟩
  simp only [dSeq, dNext, dIf, dTst, dTru, dBin, dUn, dApp, dVar, dC, dAsg, dNm, dAug, dDrop, dRet, dRetN, dBrk, dCnt, dNever, dFrz, dPeek, dPeekB, dPar, dFor, dRng1, dRng2, dSeqI, dTupI, dNil, dCons, dTup, dLst, dAnd, dOr, dNot, dIfE, dAndV, dOrV, dNotV, dChain, dBits, dIndex, dOwn, nLst, nList, nRep, nCat, nLc, dApnd, dSetO, dIxO, onOwn, dSelfSet, dSelf, dCall, dMake, dMeth, dProp, dOrE, dSl, dNoP, dP, dEnum, dZip, dYes, dOrI,   gTru, gN1, gN2, rstart, istart, List.map_cons, List.map_nil, List.length_cons, List.length_nil, List.cons_append, List.nil_append, List.append_nil, List.replicate, List.getElem?_cons_zero, List.getElem?_cons_succ, List.set_cons_zero, List.set_cons_succ, Nat.sub_zero, Nat.reduceAdd, Nat.reduceSub, Nat.zero_add, if_true, Bool.false_eq_true, if_false, Int.zero_add, ite_ap, TT2, true_and, PV.int.injEq, exists_eq_left', List.cons.injEq, and_true, PV.ins.injEq, Option.some.injEq, gF, gOwn, gTruO, dGLst, dGTup, dGCons, dGNil, gLen, gII, gF, ir, ia1, bitd]
  rw [if_neg (by simp)]
  exact ⟨by omega, q⟩
def D_pbool : DSp := fun vs Q E n => ∃ k : Nat, vs = [pp k] ∧ Q (.bl (k != 0)) n
theorem D_pbool_mono : MonoSp D_pbool := fun vs Q Q' E E' n hq he ⟨k, e, q⟩ => ⟨k, e, hq _ _ q⟩
theorem ok_Poly___bool__ (T : Tx K mg) : FnD (pr T) P w K mg base 1 T.f_Poly___bool__ T.d_Poly___bool__ ["self"] D_pbool := by
  refine fnD T.F_Poly___bool__ sc_Poly___bool__ D_pbool_mono (fun vs Q E n ⟨k, e, _⟩ => by subst e; rfl) (fun cdv A outer s H E W Ex hr dx vs Q h => ?_)
  obtain ⟨k, rfl, q⟩ := h
  refine ⟨_, (dss_cons (ds_ret (de_callT dc_bool T.z_bool bt_bool (da_cons (de_f 0 0 (dv 0) ix_Poly_number T.cl_Poly T.na_Poly_number) da_nil)))
      dss_nil), ?_⟩
  simp only [dSeq, dNext, dIf, dTst, dTru, dBin, dUn, dApp, dVar, dC, dAsg, dNm, dAug, dDrop, dRet, dRetN, dBrk, dCnt, dNever, dFrz, dPeek, dPeekB, dPar, dFor, dRng1, dRng2, dSeqI, dTupI, dNil, dCons, dTup, dLst, dAnd, dOr, dNot, dIfE, dAndV, dOrV, dNotV, dChain, dBits, dIndex, dOwn, nLst, nList, nRep, nCat, nLc, dApnd, dSetO, dIxO, onOwn, dSelfSet, dSelf, dCall, dMake, dMeth, dProp, dOrE, dSl, dNoP, dP, dEnum, dZip, dYes, dOrI,   gTru, gN1, gN2, rstart, istart, List.map_cons, List.map_nil, List.length_cons, List.length_nil, List.cons_append, List.nil_append, List.append_nil, List.replicate, List.getElem?_cons_zero, List.getElem?_cons_succ, List.set_cons_zero, List.set_cons_succ, Nat.sub_zero, Nat.reduceAdd, Nat.reduceSub, Nat.zero_add, if_true, Bool.false_eq_true, if_false, Int.zero_add, ite_ap, TT2, true_and, PV.int.injEq, exists_eq_left', List.cons.injEq, and_true, PV.ins.injEq, Option.some.injEq, gF, gOwn, gTruO, dGLst, dGTup, dGCons, dGNil, gLen, gF, gBool, in0]
  exact q
def D_padd : DSp := fun vs Q E n => ∃ a b : Nat, vs = [pp a, pp b] ∧ Q (pp (a ^^^ b)) n
theorem D_padd_mono : MonoSp D_padd := fun vs Q Q' E E' n hq he ⟨a, b, e, q⟩ => ⟨a, b, e, hq _ _ q⟩
theorem ok_Poly___add__ (T : Tx K mg) : FnD (pr T) P w K mg base 3 T.f_Poly___add__ T.d_Poly___add__ ["self", "other"] D_padd := by
  refine fnD T.F_Poly___add__ sc_Poly___add__ D_padd_mono (fun vs Q E n ⟨a, b, e, _⟩ => by subst e; rfl) (fun cdv A outer s H E W Ex hr dx vs Q h => ?_)
  obtain ⟨a, b, rfl, q⟩ := h
  refine ⟨_, (dss_cons (ds_ret (de_mkD (dvs := []) (dps := []) (ok_Poly___init__ T) T.mk_Poly (hr.mono (by decide)) T.m_Poly T.bd0_Poly___init__ dx (da_cons (de_bin dop_xor (de_f 0 0 (dv 0) ix_Poly_number T.cl_Poly T.na_Poly_number) (de_f 0 0 (dv 1) ix_Poly_number T.cl_Poly T.na_Poly_number)) da_nil) no_dps))
      dss_nil), ?_⟩
  simp only [dSeq, dNext, dIf, dTst, dTru, dBin, dUn, dApp, dVar, dC, dAsg, dNm, dAug, dDrop, dRet, dRetN, dBrk, dCnt, dNever, dFrz, dPeek, dPeekB, dPar, dFor, dRng1, dRng2, dSeqI, dTupI, dNil, dCons, dTup, dLst, dAnd, dOr, dNot, dIfE, dAndV, dOrV, dNotV, dChain, dBits, dIndex, dOwn, nLst, nList, nRep, nCat, nLc, dApnd, dSetO, dIxO, onOwn, dSelfSet, dSelf, dCall, dMake, dMeth, dProp, dOrE, dSl, dNoP, dP, dEnum, dZip, dYes, dOrI,   gTru, gN1, gN2, rstart, istart, List.map_cons, List.map_nil, List.length_cons, List.length_nil, List.cons_append, List.nil_append, List.append_nil, List.replicate, List.getElem?_cons_zero, List.getElem?_cons_succ, List.set_cons_zero, List.set_cons_succ, Nat.sub_zero, Nat.reduceAdd, Nat.reduceSub, Nat.zero_add, if_true, Bool.false_eq_true, if_false, Int.zero_add, ite_ap, TT2, true_and, PV.int.injEq, exists_eq_left', List.cons.injEq, and_true, PV.ins.injEq, Option.some.injEq, gF, gOwn, gTruO, dGLst, dGTup, dGCons, dGNil, gLen, gII, gF, ix]
  exact ⟨_, rfl, q⟩
def D_pmul : DSp := fun vs Q E n => ∃ a b : Nat, vs = [pp a, pp b] ∧ bl a ≤ 1000000 ∧ bl b ≤ 1000000 ∧ Q (pp (cm a b)) n
theorem D_pmul_mono : MonoSp D_pmul := fun vs Q Q' E E' n hq he ⟨a, b, e, h1, h2, q⟩ => ⟨a, b, e, h1, h2, hq _ _ q⟩
theorem ok_Poly___mul__ (T : Tx K mg) : FnD (pr T) P w K mg base 3 T.f_Poly___mul__ T.d_Poly___mul__ ["self", "other"] D_pmul := by
  refine fnD T.F_Poly___mul__ sc_Poly___mul__ D_pmul_mono (fun vs Q E n ⟨a, b, e, _⟩ => by subst e; rfl) (fun cdv A outer s H E W Ex hr dx vs Q h => ?_)
  obtain ⟨a, b, rfl, h1, h2, q⟩ := h
  refine ⟨_, (dss_cons (ds_ret (de_mkD (dvs := []) (dps := []) (ok_Poly___init__ T) T.mk_Poly (hr.mono (by decide)) T.m_Poly T.bd0_Poly___init__ dx (da_cons (de_fn (ok_times_of T) (hr.mono (by decide)) T.m_times_of T.F_times_of.kp T.b_times_of dx (da_cons (de_f 0 0 (dv 0) ix_Poly_number T.cl_Poly T.na_Poly_number) (da_cons (de_f 0 0 (dv 1) ix_Poly_number T.cl_Poly T.na_Poly_number) da_nil))) da_nil) no_dps))
      dss_nil), ?_⟩
  simp only [dSeq, dNext, dIf, dTst, dTru, dBin, dUn, dApp, dVar, dC, dAsg, dNm, dAug, dDrop, dRet, dRetN, dBrk, dCnt, dNever, dFrz, dPeek, dPeekB, dPar, dFor, dRng1, dRng2, dSeqI, dTupI, dNil, dCons, dTup, dLst, dAnd, dOr, dNot, dIfE, dAndV, dOrV, dNotV, dChain, dBits, dIndex, dOwn, nLst, nList, nRep, nCat, nLc, dApnd, dSetO, dIxO, onOwn, dSelfSet, dSelf, dCall, dMake, dMeth, dProp, dOrE, dSl, dNoP, dP, dEnum, dZip, dYes, dOrI,   gTru, gN1, gN2, rstart, istart, List.map_cons, List.map_nil, List.length_cons, List.length_nil, List.cons_append, List.nil_append, List.append_nil, List.replicate, List.getElem?_cons_zero, List.getElem?_cons_succ, List.set_cons_zero, List.set_cons_succ, Nat.sub_zero, Nat.reduceAdd, Nat.reduceSub, Nat.zero_add, if_true, Bool.false_eq_true, if_false, Int.zero_add, ite_ap, TT2, true_and, PV.int.injEq, exists_eq_left', List.cons.injEq, and_true, PV.ins.injEq, Option.some.injEq, gF, gOwn, gTruO, dGLst, dGTup, dGCons, dGNil, gLen, gF]
  exact ⟨a, b, rfl, h1, h2, _, rfl, q⟩
def D_pdiv : DSp := fun vs Q E n => ∃ a b : Nat, vs = [pp a, pp b] ∧ b ≠ 0 ∧ bl a ≤ 1000000 ∧ bl b ≤ 1000000 ∧ ∀ q r : Nat, a = cm q b ^^^ r → bl r < bl b → Q (pp q) n
theorem D_pdiv_mono : MonoSp D_pdiv := fun vs Q Q' E E' n hq he ⟨a, b, e, h0, h1, h2, q⟩ => ⟨a, b, e, h0, h1, h2, fun x y u v => hq _ _ (q x y u v)⟩
theorem ok_Poly___floordiv__ (T : Tx K mg) : FnD (pr T) P w K mg base 3 T.f_Poly___floordiv__ T.d_Poly___floordiv__ ["self", "other"] D_pdiv := by
  refine fnD T.F_Poly___floordiv__ sc_Poly___floordiv__ D_pdiv_mono (fun vs Q E n ⟨a, b, e, _⟩ => by subst e; rfl) (fun cdv A outer s H E W Ex hr dx vs Q h => ?_)
  obtain ⟨a, b, rfl, h0, h1, h2, q⟩ := h
  refine ⟨_, (dss_cons (ds_if (dt_not (dt_truth dtru (de_f 0 0 (dv 1) ix_Poly_number T.cl_Poly T.na_Poly_number)))
      dss_never
      dss_nil)
      (dss_cons (ds_ret (de_mkD (dvs := []) (dps := []) (ok_Poly___init__ T) T.mk_Poly (hr.mono (by decide)) T.m_Poly T.bd0_Poly___init__ dx (da_cons (de_ix (de_fn (ok_divided T) (hr.mono (by decide)) T.m_divided T.F_divided.kp T.b_divided dx (da_cons (de_f 0 0 (dv 0) ix_Poly_number T.cl_Poly T.na_Poly_number) (da_cons (de_f 0 0 (dv 1) ix_Poly_number T.cl_Poly T.na_Poly_number) da_nil))) de_int) da_nil) no_dps))
      dss_nil)), ?_⟩
  simp only [dSeq, dNext, dIf, dTst, dTru, dBin, dUn, dApp, dVar, dC, dAsg, dNm, dAug, dDrop, dRet, dRetN, dBrk, dCnt, dNever, dFrz, dPeek, dPeekB, dPar, dFor, dRng1, dRng2, dSeqI, dTupI, dNil, dCons, dTup, dLst, dAnd, dOr, dNot, dIfE, dAndV, dOrV, dNotV, dChain, dBits, dIndex, dOwn, nLst, nList, nRep, nCat, nLc, dApnd, dSetO, dIxO, onOwn, dSelfSet, dSelf, dCall, dMake, dMeth, dProp, dOrE, dSl, dNoP, dP, dEnum, dZip, dYes, dOrI,   gTru, gN1, gN2, rstart, istart, List.map_cons, List.map_nil, List.length_cons, List.length_nil, List.cons_append, List.nil_append, List.append_nil, List.replicate, List.getElem?_cons_zero, List.getElem?_cons_succ, List.set_cons_zero, List.set_cons_succ, Nat.sub_zero, Nat.reduceAdd, Nat.reduceSub, Nat.zero_add, if_true, Bool.false_eq_true, if_false, Int.zero_add, ite_ap, TT2, true_and, PV.int.injEq, exists_eq_left', List.cons.injEq, and_true, PV.ins.injEq, Option.some.injEq, gF, gOwn, gTruO, dGLst, dGTup, dGCons, dGNil, gLen, gF, in0]
  rw [if_neg (by simpa using h0)]
  refine ⟨a, b, rfl, h0, h1, h2, fun u r e g => ?_⟩
  simp only [dSeq, dNext, dIf, dTst, dTru, dBin, dUn, dApp, dVar, dC, dAsg, dNm, dAug, dDrop, dRet, dRetN, dBrk, dCnt, dNever, dFrz, dPeek, dPeekB, dPar, dFor, dRng1, dRng2, dSeqI, dTupI, dNil, dCons, dTup, dLst, dAnd, dOr, dNot, dIfE, dAndV, dOrV, dNotV, dChain, dBits, dIndex, dOwn, nLst, nList, nRep, nCat, nLc, dApnd, dSetO, dIxO, onOwn, dSelfSet, dSelf, dCall, dMake, dMeth, dProp, dOrE, dSl, dNoP, dP, dEnum, dZip, dYes, dOrI,   gTru, gN1, gN2, rstart, istart, List.map_cons, List.map_nil, List.length_cons, List.length_nil, List.cons_append, List.nil_append, List.append_nil, List.replicate, List.getElem?_cons_zero, List.getElem?_cons_succ, List.set_cons_zero, List.set_cons_succ, Nat.sub_zero, Nat.reduceAdd, Nat.reduceSub, Nat.zero_add, if_true, Bool.false_eq_true, if_false, Int.zero_add, ite_ap, TT2, true_and, PV.int.injEq, exists_eq_left', List.cons.injEq, and_true, PV.ins.injEq, Option.some.injEq, gF, gOwn, gTruO, dGLst, dGTup, dGCons, dGNil, gLen, gIx]
  exact ⟨_, rfl, _, rfl, q u r e g⟩
def D_gcd : DSp := fun vs Q E n => ∃ a b : Nat, vs = [pp a, pp b] ∧ b ≠ 0 ∧ bl a ≤ 1000000 ∧ bl b ≤ 1000000 ∧ ∀ g : Nat, g ≠ 0 → dvd g a → dvd g b → Q (pp g) n
theorem D_gcd_mono : MonoSp D_gcd := fun vs Q Q' E E' n hq he ⟨a, b, e, h0, h1, h2, q⟩ => ⟨a, b, e, h0, h1, h2, fun g u v w => hq _ _ (q g u v w)⟩
theorem ok_gcd_of (T : Tx K mg) : FnD (pr T) P w K mg base 3 T.f_gcd_of T.d_gcd_of ["a", "b"] D_gcd := by
  refine fnD T.F_gcd_of sc_gcd_of D_gcd_mono (fun vs Q E n ⟨a, b, e, _⟩ => by subst e; rfl) (fun cdv A outer s H E W Ex hr dx vs Q h => ?_)
  obtain ⟨a, b, rfl, h0, h1, h2, q⟩ := h
  refine ⟨_, (dss_cons (ds_set 2 sc_gcd_of.nd (de_f 0 0 (dv 0) ix_Poly_number T.cl_Poly T.na_Poly_number))
      (dss_cons (ds_set 3 sc_gcd_of.nd (de_f 0 0 (dv 1) ix_Poly_number T.cl_Poly T.na_Poly_number))
      (dss_cons (ds_while dx (dt_truth dtru (dv 3))
      (dss_cons (ds_par2 2 3 dx sc_gcd_of.nd (da_cons (dv 3) (da_cons (de_ix (de_fn (ok_divided T) (hr.mono (by decide)) T.m_divided T.F_divided.kp T.b_divided dx (da_cons (dv 2) (da_cons (dv 3) da_nil))) de_int) da_nil)))
      dss_nil))
      (dss_cons (ds_ret (de_mkD (dvs := []) (dps := []) (ok_Poly___init__ T) T.mk_Poly (hr.mono (by decide)) T.m_Poly T.bd0_Poly___init__ dx (da_cons (dv 2) da_nil) no_dps))
      dss_nil)))), ?_⟩
  simp only [dSeq, dNext, dIf, dTst, dTru, dBin, dUn, dApp, dVar, dC, dAsg, dNm, dAug, dDrop, dRet, dRetN, dBrk, dCnt, dNever, dFrz, dPeek, dPeekB, dPar, dFor, dRng1, dRng2, dSeqI, dTupI, dNil, dCons, dTup, dLst, dAnd, dOr, dNot, dIfE, dAndV, dOrV, dNotV, dChain, dBits, dIndex, dOwn, nLst, nList, nRep, nCat, nLc, dApnd, dSetO, dIxO, onOwn, dSelfSet, dSelf, dCall, dMake, dMeth, dProp, dOrE, dSl, dNoP, dP, dEnum, dZip, dYes, dOrI,   gTru, gN1, gN2, rstart, istart, List.map_cons, List.map_nil, List.length_cons, List.length_nil, List.cons_append, List.nil_append, List.append_nil, List.replicate, List.getElem?_cons_zero, List.getElem?_cons_succ, List.set_cons_zero, List.set_cons_succ, Nat.sub_zero, Nat.reduceAdd, Nat.reduceSub, Nat.zero_add, if_true, Bool.false_eq_true, if_false, Int.zero_add, ite_ap, TT2, true_and, PV.int.injEq, exists_eq_left', List.cons.injEq, and_true, PV.ins.injEq, Option.some.injEq, gF, gOwn, gTruO, dGLst, dGTup, dGCons, dGNil, gLen, gF]
  refine ⟨fun m ρ n' => n' = W.c ∧ ∃ (u v : Nat), m = bl v ∧ bl u ≤ 1000000 ∧ bl v ≤ 1000000 ∧ (u ≠ 0 ∨ v ≠ 0) ∧ (∀ g, dvd g u → dvd g v → dvd g a ∧ dvd g b) ∧ ρ = [.fz (pp a), .fz (pp b), .fz (.int u), .fz (.int v)], ⟨_, rfl, a, b, rfl, h1, h2, .inr h0, fun g x y => ⟨x, y⟩, rfl⟩, ?_⟩
  rintro m ρ n ⟨rfl, u, v, rfl, g1, g2, g3, g4, rfl⟩
  simp only [dSeq, dNext, dIf, dTst, dTru, dBin, dUn, dApp, dVar, dC, dAsg, dNm, dAug, dDrop, dRet, dRetN, dBrk, dCnt, dNever, dFrz, dPeek, dPeekB, dPar, dFor, dRng1, dRng2, dSeqI, dTupI, dNil, dCons, dTup, dLst, dAnd, dOr, dNot, dIfE, dAndV, dOrV, dNotV, dChain, dBits, dIndex, dOwn, nLst, nList, nRep, nCat, nLc, dApnd, dSetO, dIxO, onOwn, dSelfSet, dSelf, dCall, dMake, dMeth, dProp, dOrE, dSl, dNoP, dP, dEnum, dZip, dYes, dOrI,   gTru, gN1, gN2, rstart, istart, List.map_cons, List.map_nil, List.length_cons, List.length_nil, List.cons_append, List.nil_append, List.append_nil, List.replicate, List.getElem?_cons_zero, List.getElem?_cons_succ, List.set_cons_zero, List.set_cons_succ, Nat.sub_zero, Nat.reduceAdd, Nat.reduceSub, Nat.zero_add, if_true, Bool.false_eq_true, if_false, Int.zero_add, ite_ap, TT2, true_and, PV.int.injEq, exists_eq_left', List.cons.injEq, and_true, PV.ins.injEq, Option.some.injEq, gF, gOwn, gTruO, dGLst, dGTup, dGCons, dGNil, gLen, in0]
  by_cases c : v = 0
  · subst c
    rw [if_neg (by simp)]
    refine ⟨u, rfl, q u (by simpa using g3) (g4 u (dvd_self u) (dvd_zero u)).1 (g4 u (dvd_self u) (dvd_zero u)).2⟩
  · rw [if_pos (by simpa using c)]
    refine ⟨u, v, rfl, c, g1, g2, fun x r e g => ?_⟩
    simp only [dSeq, dNext, dIf, dTst, dTru, dBin, dUn, dApp, dVar, dC, dAsg, dNm, dAug, dDrop, dRet, dRetN, dBrk, dCnt, dNever, dFrz, dPeek, dPeekB, dPar, dFor, dRng1, dRng2, dSeqI, dTupI, dNil, dCons, dTup, dLst, dAnd, dOr, dNot, dIfE, dAndV, dOrV, dNotV, dChain, dBits, dIndex, dOwn, nLst, nList, nRep, nCat, nLc, dApnd, dSetO, dIxO, onOwn, dSelfSet, dSelf, dCall, dMake, dMeth, dProp, dOrE, dSl, dNoP, dP, dEnum, dZip, dYes, dOrI,   gTru, gN1, gN2, rstart, istart, List.map_cons, List.map_nil, List.length_cons, List.length_nil, List.cons_append, List.nil_append, List.append_nil, List.replicate, List.getElem?_cons_zero, List.getElem?_cons_succ, List.set_cons_zero, List.set_cons_succ, Nat.sub_zero, Nat.reduceAdd, Nat.reduceSub, Nat.zero_add, if_true, Bool.false_eq_true, if_false, Int.zero_add, ite_ap, TT2, true_and, PV.int.injEq, exists_eq_left', List.cons.injEq, and_true, PV.ins.injEq, Option.some.injEq, gF, gOwn, gTruO, dGLst, dGTup, dGCons, dGNil, gLen, gIx]
    exact ⟨_, rfl, bl r, g, v, r, rfl, g2, by omega, .inl c, fun z hz1 hz2 => g4 z (dvd_back e hz1 hz2) hz1, rfl, rfl⟩
end
end K09

set_option maxRecDepth 100000
set_option maxHeartbeats 2000000
namespace K09
open PySem L2 DL GF
section
variable {P : Program} {w : World} {K : PySem.W.Frag} {mg : Str → Option Value} {base : Heap}
def D_every : DSp := fun vs Q E n => ∃ x e : Nat, vs = [.int x, .int e] ∧ e < 2 ∧ bl x ≤ 3000000 ∧ ∀ y : Nat, Ev x e y → Q (.int y) n
theorem D_every_mono : MonoSp D_every := fun vs Q Q' E E' n hq he ⟨x, i, e, h0, h1, q⟩ => ⟨x, i, e, h0, h1, fun y u => hq _ _ (q y u)⟩
theorem ok_every_other (T : Tx K mg) : FnD (pr T) P w K mg base 1 T.f_every_other T.d_every_other ["number", "first"] D_every := by
  refine fnD T.F_every_other sc_every_other D_every_mono (fun vs Q E n ⟨x, i, e, _⟩ => by subst e; rfl) (fun cdv A outer s H E W Ex hr dx vs Q h => ?_)
  obtain ⟨x, e, rfl, h0, h1, q⟩ := h
  refine ⟨_, (dss_cons (ds_set 2 sc_every_other.nd de_int)
      (dss_cons (ds_set 3 sc_every_other.nd de_int)
      (dss_cons (ds_set 4 sc_every_other.nd (de_bin dop_shr (dv 0) (dv 1)))
      (dss_cons (ds_while dx (dt_truth dtru (dv 4))
      (dss_cons (ds_if (dt_truth dtru (de_bin dop_and (dv 4) de_int))
      (dss_cons (ds_aug 2 sc_every_other.nd diop_or (de_bin dop_shl de_int (dv 3)))
      dss_nil)
      dss_nil)
      (dss_cons (ds_aug 4 sc_every_other.nd diop_shr de_int)
      (dss_cons (ds_aug 3 sc_every_other.nd diop_add de_int)
      dss_nil))))
      (dss_cons (ds_ret (dv 2))
      dss_nil))))), ?_⟩
  simp only [dSeq, dNext, dIf, dTst, dTru, dBin, dUn, dApp, dVar, dC, dAsg, dNm, dAug, dDrop, dRet, dRetN, dBrk, dCnt, dNever, dFrz, dPeek, dPeekB, dPar, dFor, dRng1, dRng2, dSeqI, dTupI, dNil, dCons, dTup, dLst, dAnd, dOr, dNot, dIfE, dAndV, dOrV, dNotV, dChain, dBits, dIndex, dOwn, nLst, nList, nRep, nCat, nLc, dApnd, dSetO, dIxO, onOwn, dSelfSet, dSelf, dCall, dMake, dMeth, dProp, dOrE, dSl, dNoP, dP, dEnum, dZip, dYes, dOrI,   gTru, gN1, gN2, rstart, istart, List.map_cons, List.map_nil, List.length_cons, List.length_nil, List.cons_append, List.nil_append, List.append_nil, List.replicate, List.getElem?_cons_zero, List.getElem?_cons_succ, List.set_cons_zero, List.set_cons_succ, Nat.sub_zero, Nat.reduceAdd, Nat.reduceSub, Nat.zero_add, if_true, Bool.false_eq_true, if_false, Int.zero_add, ite_ap, TT2, true_and, PV.int.injEq, exists_eq_left', List.cons.injEq, and_true, PV.ins.injEq, Option.some.injEq, gF, gOwn, gTruO, dGLst, dGTup, dGCons, dGNil, gLen, gII, ir]
  refine ⟨by omega, fun m ρ n' => n' = W.c ∧ ∃ (f p : Nat), m = bl (x / 2 ^ (e + 2 * p)) ∧ e + 2 * p ≤ bl x + 2 ∧ (∀ k, f.testBit k = (decide (k < p) && x.testBit (2 * k + e))) ∧ ρ = [.fz (.int x), .fz (.int e), .fz (.int f), .fz (.int p), .fz (.int (x / 2 ^ (e + 2 * p) : Nat))], ⟨_, rfl, 0, 0, rfl, by omega, fun k => by simp, rfl⟩, ?_⟩
  rintro m ρ n ⟨rfl, f, p, rfl, g1, g2, rfl⟩
  simp only [dSeq, dNext, dIf, dTst, dTru, dBin, dUn, dApp, dVar, dC, dAsg, dNm, dAug, dDrop, dRet, dRetN, dBrk, dCnt, dNever, dFrz, dPeek, dPeekB, dPar, dFor, dRng1, dRng2, dSeqI, dTupI, dNil, dCons, dTup, dLst, dAnd, dOr, dNot, dIfE, dAndV, dOrV, dNotV, dChain, dBits, dIndex, dOwn, nLst, nList, nRep, nCat, nLc, dApnd, dSetO, dIxO, onOwn, dSelfSet, dSelf, dCall, dMake, dMeth, dProp, dOrE, dSl, dNoP, dP, dEnum, dZip, dYes, dOrI,   gTru, gN1, gN2, rstart, istart, List.map_cons, List.map_nil, List.length_cons, List.length_nil, List.cons_append, List.nil_append, List.append_nil, List.replicate, List.getElem?_cons_zero, List.getElem?_cons_succ, List.set_cons_zero, List.set_cons_succ, Nat.sub_zero, Nat.reduceAdd, Nat.reduceSub, Nat.zero_add, if_true, Bool.false_eq_true, if_false, Int.zero_add, ite_ap, TT2, true_and, PV.int.injEq, exists_eq_left', List.cons.injEq, and_true, PV.ins.injEq, Option.some.injEq, gF, gOwn, gTruO, dGLst, dGTup, dGCons, dGNil, gLen, gII, in0, ia1]
  by_cases c : x / 2 ^ (e + 2 * p) = 0
  · rw [if_neg (by simpa using c)]
    refine q f fun k => ?_
    rw [g2 k]
    by_cases hk : k < p
    · simp [hk]
    · have : x.testBit (2 * k + e) = false := Nat.testBit_lt_two_pow (by
        have h2 : x < 2 ^ (e + 2 * p) := (Nat.div_eq_zero_iff_lt (Nat.two_pow_pos _)).1 c
        exact Nat.lt_of_lt_of_le h2 (Nat.pow_le_pow_right (by decide) (by omega)))
      simp [hk, this]
  · rw [if_pos (by simpa using c)]
    simp only [il1, io, ir2, bitd]
    have e4 : x / 2 ^ (e + 2 * (p + 1)) = x / 2 ^ (e + 2 * p) / 4 := by
      rw [show e + 2 * (p + 1) = (e + 2 * p) + 2 by omega, Nat.pow_add, Nat.div_div_eq_div_mul]
    have hlt : e + 2 * p < bl x := Nat.lt_of_not_le fun hh => c ((Nat.div_eq_zero_iff_lt (Nat.two_pow_pos _)).2 (bl_lt_iff.1 hh))
    have hm : bl (x / 2 ^ (e + 2 * p) / 4) < bl (x / 2 ^ (e + 2 * p)) := by
      have a := lt_bl (x / 2 ^ (e + 2 * p))
      have b := bl_pos c
      obtain ⟨k, hk⟩ : ∃ k, bl (x / 2 ^ (e + 2 * p)) = k + 1 := ⟨_, (Nat.sub_add_cancel b).symm⟩
      rw [hk] at a ⊢
      rw [Nat.pow_succ] at a
      exact Nat.lt_succ_of_le (bl_le (by omega))
    have hs : ((p : Int) + 1) = ((p + 1 : Nat) : Int) := by omega
    rw [hs]
    by_cases hb : x.testBit (e + 2 * p) = true
    · rw [if_pos hb, if_pos (by rfl)]
      refine ⟨?_, by decide, _, hm, f ||| 2 ^ p, p + 1, by rw [e4], by omega, fun k => ?_, rfl, rfl, by rw [e4]⟩
      · have := shl_small (a := 1) (k := p) (by have : bl 1 = 1 := (by decide); omega)
        exact this
      · rw [Nat.testBit_or, g2 k, Nat.testBit_two_pow]
        by_cases hk : k < p
        · simp [hk, show k < p + 1 by omega, show ¬ p = k by omega]
        · by_cases hk2 : p = k
          · subst hk2; simp [show 2 * p + e = e + 2 * p by omega, hb]
          · simp [hk, hk2, show ¬ k < p + 1 by omega]
    · rw [if_neg hb, if_neg (by simp)]
      refine ⟨by decide, _, hm, f, p + 1, by rw [e4], by omega, fun k => ?_, rfl, rfl, by rw [e4]⟩
      rw [g2 k]
      by_cases hk : k < p
      · simp [hk, show k < p + 1 by omega]
      · by_cases hk2 : p = k
        · subst hk2; simp [show 2 * p + e = e + 2 * p by omega, hb]
        · simp [hk, show ¬ k < p + 1 by omega]
def D_real : DSp := fun vs Q E n => ∃ a b : Nat, vs = [rr a b] ∧ Q (.bl (decide (b % 2 = 1))) n
theorem D_real_mono : MonoSp D_real := fun vs Q Q' E E' n hq he ⟨a, b, e, q⟩ => ⟨a, b, e, hq _ _ q⟩
theorem ok_Ratio_is_real (T : Tx K mg) : FnD (pr T) P w K mg base 1 T.f_Ratio_is_real T.d_Ratio_is_real ["self"] D_real := by
  refine fnD T.F_Ratio_is_real sc_Ratio_is_real D_real_mono (fun vs Q E n ⟨a, b, e, _⟩ => by subst e; rfl) (fun cdv A outer s H E W Ex hr dx vs Q h => ?_)
  obtain ⟨a, b, rfl, q⟩ := h
  refine ⟨_, (dss_cons (ds_ret (de_cmp (dop_eq hr.units) (de_bin dop_and (de_f 0 0 (de_f 1 1 (dv 0) ix_Ratio_below T.cl_Ratio T.na_Ratio_below) ix_Poly_number T.cl_Poly T.na_Poly_number) de_int) de_int))
      dss_nil), ?_⟩
  simp only [dSeq, dNext, dIf, dTst, dTru, dBin, dUn, dApp, dVar, dC, dAsg, dNm, dAug, dDrop, dRet, dRetN, dBrk, dCnt, dNever, dFrz, dPeek, dPeekB, dPar, dFor, dRng1, dRng2, dSeqI, dTupI, dNil, dCons, dTup, dLst, dAnd, dOr, dNot, dIfE, dAndV, dOrV, dNotV, dChain, dBits, dIndex, dOwn, nLst, nList, nRep, nCat, nLc, dApnd, dSetO, dIxO, onOwn, dSelfSet, dSelf, dCall, dMake, dMeth, dProp, dOrE, dSl, dNoP, dP, dEnum, dZip, dYes, dOrI,   gTru, gN1, gN2, rstart, istart, List.map_cons, List.map_nil, List.length_cons, List.length_nil, List.cons_append, List.nil_append, List.append_nil, List.replicate, List.getElem?_cons_zero, List.getElem?_cons_succ, List.set_cons_zero, List.set_cons_succ, Nat.sub_zero, Nat.reduceAdd, Nat.reduceSub, Nat.zero_add, if_true, Bool.false_eq_true, if_false, Int.zero_add, ite_ap, TT2, true_and, PV.int.injEq, exists_eq_left', List.cons.injEq, and_true, PV.ins.injEq, Option.some.injEq, gF, gOwn, gTruO, dGLst, dGTup, dGCons, dGNil, gLen, gII, gEq, ia1]
  refine ⟨⟨rfl, rfl⟩, ?_⟩
  have e : peq (.int ((b % 2 : Nat) : Int)) (.int 1) = decide (b % 2 = 1) := by
    simp only [peq]
    rcases Nat.mod_two_eq_zero_or_one b with h | h <;> rw [h] <;> rfl
  rw [e]
  exact q
def D_check : DSp := fun vs Q E n => ∃ a b i : Nat, vs = [rr a b, .int i] ∧ b % 2 = 1 ∧ Q .non n
theorem D_check_mono : MonoSp D_check := fun vs Q Q' E E' n hq he ⟨a, b, i, e, h, q⟩ => ⟨a, b, i, e, h, hq _ _ q⟩
theorem ok_Ratio_check_beat (T : Tx K mg) : FnD (pr T) P w K mg base 3 T.f_Ratio_check_beat T.d_Ratio_check_beat ["self", "n"] D_check := by
  refine fnD T.F_Ratio_check_beat sc_Ratio_check_beat D_check_mono (fun vs Q E n ⟨a, b, i, e, _⟩ => by subst e; rfl) (fun cdv A outer s H E W Ex hr dx vs Q h => ?_)
  obtain ⟨a, b, i, rfl, h, q⟩ := h
  refine ⟨_, (dss_cons (ds_if (dt_not (dt_truth dtru (de_pr (c := 1) (dv 0) T.cl_Ratio T.pr_Ratio_is_real (ok_Ratio_is_real T) (hr.mono (by decide)) T.b_Ratio_is_real)))
      dss_never
      dss_nil)
      (dss_cons (ds_if (dt_cmp dop_lt (dv 1) de_int)
      dss_never
      dss_nil)
      dss_nil)), ?_⟩
  simp only [dSeq, dNext, dIf, dTst, dTru, dBin, dUn, dApp, dVar, dC, dAsg, dNm, dAug, dDrop, dRet, dRetN, dBrk, dCnt, dNever, dFrz, dPeek, dPeekB, dPar, dFor, dRng1, dRng2, dSeqI, dTupI, dNil, dCons, dTup, dLst, dAnd, dOr, dNot, dIfE, dAndV, dOrV, dNotV, dChain, dBits, dIndex, dOwn, nLst, nList, nRep, nCat, nLc, dApnd, dSetO, dIxO, onOwn, dSelfSet, dSelf, dCall, dMake, dMeth, dProp, dOrE, dSl, dNoP, dP, dEnum, dZip, dYes, dOrI,   gTru, gN1, gN2, rstart, istart, List.map_cons, List.map_nil, List.length_cons, List.length_nil, List.cons_append, List.nil_append, List.append_nil, List.replicate, List.getElem?_cons_zero, List.getElem?_cons_succ, List.set_cons_zero, List.set_cons_succ, Nat.sub_zero, Nat.reduceAdd, Nat.reduceSub, Nat.zero_add, if_true, Bool.false_eq_true, if_false, Int.zero_add, ite_ap, TT2, true_and, PV.int.injEq, exists_eq_left', List.cons.injEq, and_true, PV.ins.injEq, Option.some.injEq, gF, gOwn, gTruO, dGLst, dGTup, dGCons, dGNil, gLen, gII]
  refine ⟨a, b, rfl, ?_⟩
  rw [decide_eq_true h]
  simp only [dSeq, dNext, dIf, dTst, dTru, dBin, dUn, dApp, dVar, dC, dAsg, dNm, dAug, dDrop, dRet, dRetN, dBrk, dCnt, dNever, dFrz, dPeek, dPeekB, dPar, dFor, dRng1, dRng2, dSeqI, dTupI, dNil, dCons, dTup, dLst, dAnd, dOr, dNot, dIfE, dAndV, dOrV, dNotV, dChain, dBits, dIndex, dOwn, nLst, nList, nRep, nCat, nLc, dApnd, dSetO, dIxO, onOwn, dSelfSet, dSelf, dCall, dMake, dMeth, dProp, dOrE, dSl, dNoP, dP, dEnum, dZip, dYes, dOrI,   gTru, gN1, gN2, rstart, istart, List.map_cons, List.map_nil, List.length_cons, List.length_nil, List.cons_append, List.nil_append, List.append_nil, List.replicate, List.getElem?_cons_zero, List.getElem?_cons_succ, List.set_cons_zero, List.set_cons_succ, Nat.sub_zero, Nat.reduceAdd, Nat.reduceSub, Nat.zero_add, if_true, Bool.false_eq_true, if_false, Int.zero_add, ite_ap, TT2, true_and, PV.int.injEq, exists_eq_left', List.cons.injEq, and_true, PV.ins.injEq, Option.some.injEq, gF, gOwn, gTruO, dGLst, dGTup, dGCons, dGNil, gLen, gII]
  rw [if_neg (by simp)]
  rw [if_neg (by simp)]
  exact q
def D_rinit : DSi := fun vs Q E n => ∃ (a b : Nat) (x : PV), vs = [pp a, x] ∧ (x = pp b ∨ x = .non ∧ b = 1) ∧ b ≠ 0 ∧ bl a ≤ 1000000 ∧ bl b ≤ 1000000 ∧ ∀ u v : Nat, Red a b u v → Q [pp u, pp v] n
theorem D_rinit_mono : MonoSi D_rinit := fun vs Q Q' E E' n hq he ⟨a, b, x, e, h0, h1, h2, h3, q⟩ => ⟨a, b, x, e, h0, h1, h2, h3, fun u v h => hq _ _ (q u v h)⟩
theorem ok_Ratio___init__ (T : Tx K mg) : FnI (pr T) P w K mg base 4 T.f_Ratio___init__ T.d_Ratio___init__ ["self", "above", "below"] 1 D_rinit := by
  refine fnID T.F_Ratio___init__ sc_Ratio___init__ D_rinit_mono (fun vs Q E n ⟨a, b, x, e, _⟩ => by subst e; rfl) (by decide) (fun cdv A outer s H Hb E W Ex hr dx x vs Q h => ?_)
  obtain ⟨a, b, y, rfl, h0, h1, h2, h3, q⟩ := h
  refine ⟨_, (dss_cons (ds_if (dt_cmp dop_isN (dv 2) de_non)
      (dss_cons (ds_set 2 sc_Ratio___init__.nd (de_mkD (dvs := []) (dps := []) (ok_Poly___init__ T) T.mk_Poly (hr.mono (by decide)) T.m_Poly T.bd0_Poly___init__ dx (da_cons de_int da_nil) no_dps))
      dss_nil)
      dss_nil)
      (dss_cons (ds_if (dt_not (dt_truth (dtru_own (c := 0) (ok_Poly___bool__ T) (hr.mono (by decide)) T.b_Poly___bool__ T.ow_Poly___bool__) (dv 2)))
      dss_never
      dss_nil)
      (dss_cons (ds_set 3 sc_Ratio___init__.nd (de_fn (ok_gcd_of T) (hr.mono (by decide)) T.m_gcd_of T.F_gcd_of.kp T.b_gcd_of dx (da_cons (dv 1) (da_cons (dv 2) da_nil))))
      (dss_cons (ds_self 0 (ok := fun c => c = 1) (de_bin (dop_own (c := 0) (ok_Poly___floordiv__ T) (hr.mono (by decide)) T.b_Poly___floordiv__ T.ow_Poly___floordiv__ T.sf_Poly) (dv 1) (dv 3)) rfl (fun c h => h ▸ ⟨T.cl_Ratio, T.na_Ratio_above, nd_Ratio, ln_Ratio⟩))
      (dss_cons (ds_self 0 (ok := fun c => c = 1) (de_bin (dop_own (c := 0) (ok_Poly___floordiv__ T) (hr.mono (by decide)) T.b_Poly___floordiv__ T.ow_Poly___floordiv__ T.sf_Poly) (dv 2) (dv 3)) rfl (fun c h => h ▸ ⟨T.cl_Ratio, T.na_Ratio_below, nd_Ratio, ln_Ratio⟩))
      dss_nil))))), ?_⟩
  simp only [dSeq, dNext, dIf, dTst, dTru, dBin, dUn, dApp, dVar, dC, dAsg, dNm, dAug, dDrop, dRet, dRetN, dBrk, dCnt, dNever, dFrz, dPeek, dPeekB, dPar, dFor, dRng1, dRng2, dSeqI, dTupI, dNil, dCons, dTup, dLst, dAnd, dOr, dNot, dIfE, dAndV, dOrV, dNotV, dChain, dBits, dIndex, dOwn, nLst, nList, nRep, nCat, nLc, dApnd, dSetO, dIxO, onOwn, dSelfSet, dSelf, dCall, dMake, dMeth, dProp, dOrE, dSl, dNoP, dP, dEnum, dZip, dYes, dOrI,   gTru, gN1, gN2, rstart, istart, List.map_cons, List.map_nil, List.length_cons, List.length_nil, List.cons_append, List.nil_append, List.append_nil, List.replicate, List.getElem?_cons_zero, List.getElem?_cons_succ, List.set_cons_zero, List.set_cons_succ, Nat.sub_zero, Nat.reduceAdd, Nat.reduceSub, Nat.zero_add, if_true, Bool.false_eq_true, if_false, Int.zero_add, ite_ap, TT2, true_and, PV.int.injEq, exists_eq_left', List.cons.injEq, and_true, PV.ins.injEq, Option.some.injEq, gF, gOwn, gTruO, dGLst, dGTup, dGCons, dGNil, gLen, gIsN]
  rcases h0 with rfl | ⟨rfl, rfl⟩
  · refine ⟨false, rfl, ?_⟩
    rw [if_neg (by simp)]
    refine ⟨_, rfl, b, rfl, _, rfl, ?_⟩
    rw [if_neg (by simpa using h1)]
    refine ⟨a, b, rfl, h1, h2, h3, fun g g0 ⟨u, hu⟩ ⟨v, hv⟩ => ?_⟩
    have hg : bl g ≤ 1000000 := by
      have : v ≠ 0 := fun z => by subst z; rw [cm_zero_l] at hv; exact h1 hv
      have := cm_bl_le (x := g) this
      rw [cm_comm, ← hv] at this; omega
    simp only [dSeq, dNext, dIf, dTst, dTru, dBin, dUn, dApp, dVar, dC, dAsg, dNm, dAug, dDrop, dRet, dRetN, dBrk, dCnt, dNever, dFrz, dPeek, dPeekB, dPar, dFor, dRng1, dRng2, dSeqI, dTupI, dNil, dCons, dTup, dLst, dAnd, dOr, dNot, dIfE, dAndV, dOrV, dNotV, dChain, dBits, dIndex, dOwn, nLst, nList, nRep, nCat, nLc, dApnd, dSetO, dIxO, onOwn, dSelfSet, dSelf, dCall, dMake, dMeth, dProp, dOrE, dSl, dNoP, dP, dEnum, dZip, dYes, dOrI,   gTru, gN1, gN2, rstart, istart, List.map_cons, List.map_nil, List.length_cons, List.length_nil, List.cons_append, List.nil_append, List.append_nil, List.replicate, List.getElem?_cons_zero, List.getElem?_cons_succ, List.set_cons_zero, List.set_cons_succ, Nat.sub_zero, Nat.reduceAdd, Nat.reduceSub, Nat.zero_add, if_true, Bool.false_eq_true, if_false, Int.zero_add, ite_ap, TT2, true_and, PV.int.injEq, exists_eq_left', List.cons.injEq, and_true, PV.ins.injEq, Option.some.injEq, gF, gOwn, gTruO, dGLst, dGTup, dGCons, dGNil, gLen]
    refine ⟨a, g, rfl, g0, h2, hg, fun q1 r1 e1 l1 => ?_⟩
    obtain ⟨rfl, rfl⟩ := div_exact (other := g) g0 (hu ▸ e1) l1
    refine ⟨x, 1, [], rfl, rfl, rfl, b, g, rfl, g0, h3, hg, fun q2 r2 e2 l2 => ?_⟩
    obtain ⟨rfl, rfl⟩ := div_exact (other := g) g0 (hv ▸ e2) l2
    exact ⟨x, 1, [pp q1], rfl, rfl, rfl, [pp q1, pp q2], rfl, rfl, q q1 q2 ⟨g, g0, hu, hv⟩⟩
  · refine ⟨true, rfl, ?_⟩
    rw [if_pos rfl]
    refine ⟨1, rfl, ?_⟩
    simp only [dSeq, dNext, dIf, dTst, dTru, dBin, dUn, dApp, dVar, dC, dAsg, dNm, dAug, dDrop, dRet, dRetN, dBrk, dCnt, dNever, dFrz, dPeek, dPeekB, dPar, dFor, dRng1, dRng2, dSeqI, dTupI, dNil, dCons, dTup, dLst, dAnd, dOr, dNot, dIfE, dAndV, dOrV, dNotV, dChain, dBits, dIndex, dOwn, nLst, nList, nRep, nCat, nLc, dApnd, dSetO, dIxO, onOwn, dSelfSet, dSelf, dCall, dMake, dMeth, dProp, dOrE, dSl, dNoP, dP, dEnum, dZip, dYes, dOrI,   gTru, gN1, gN2, rstart, istart, List.map_cons, List.map_nil, List.length_cons, List.length_nil, List.cons_append, List.nil_append, List.append_nil, List.replicate, List.getElem?_cons_zero, List.getElem?_cons_succ, List.set_cons_zero, List.set_cons_succ, Nat.sub_zero, Nat.reduceAdd, Nat.reduceSub, Nat.zero_add, if_true, Bool.false_eq_true, if_false, Int.zero_add, ite_ap, TT2, true_and, PV.int.injEq, exists_eq_left', List.cons.injEq, and_true, PV.ins.injEq, Option.some.injEq, gF, gOwn, gTruO, dGLst, dGTup, dGCons, dGNil, gLen]
    refine ⟨1, rfl, _, rfl, ?_⟩
    rw [if_neg (by decide)]
    refine ⟨a, 1, rfl, h1, h2, h3, fun g g0 ⟨u, hu⟩ ⟨v, hv⟩ => ?_⟩
    have hg : bl g ≤ 1000000 := by
      have : v ≠ 0 := fun z => by subst z; rw [cm_zero_l] at hv; exact h1 hv
      have := cm_bl_le (x := g) this
      rw [cm_comm, ← hv] at this; omega
    simp only [dSeq, dNext, dIf, dTst, dTru, dBin, dUn, dApp, dVar, dC, dAsg, dNm, dAug, dDrop, dRet, dRetN, dBrk, dCnt, dNever, dFrz, dPeek, dPeekB, dPar, dFor, dRng1, dRng2, dSeqI, dTupI, dNil, dCons, dTup, dLst, dAnd, dOr, dNot, dIfE, dAndV, dOrV, dNotV, dChain, dBits, dIndex, dOwn, nLst, nList, nRep, nCat, nLc, dApnd, dSetO, dIxO, onOwn, dSelfSet, dSelf, dCall, dMake, dMeth, dProp, dOrE, dSl, dNoP, dP, dEnum, dZip, dYes, dOrI,   gTru, gN1, gN2, rstart, istart, List.map_cons, List.map_nil, List.length_cons, List.length_nil, List.cons_append, List.nil_append, List.append_nil, List.replicate, List.getElem?_cons_zero, List.getElem?_cons_succ, List.set_cons_zero, List.set_cons_succ, Nat.sub_zero, Nat.reduceAdd, Nat.reduceSub, Nat.zero_add, if_true, Bool.false_eq_true, if_false, Int.zero_add, ite_ap, TT2, true_and, PV.int.injEq, exists_eq_left', List.cons.injEq, and_true, PV.ins.injEq, Option.some.injEq, gF, gOwn, gTruO, dGLst, dGTup, dGCons, dGNil, gLen]
    refine ⟨a, g, rfl, g0, h2, hg, fun q1 r1 e1 l1 => ?_⟩
    obtain ⟨rfl, rfl⟩ := div_exact (other := g) g0 (hu ▸ e1) l1
    refine ⟨x, 1, [], rfl, rfl, rfl, 1, g, rfl, g0, h3, hg, fun q2 r2 e2 l2 => ?_⟩
    obtain ⟨rfl, rfl⟩ := div_exact (other := g) g0 (hv ▸ e2) l2
    exact ⟨x, 1, [pp q1], rfl, rfl, rfl, [pp q1, pp q2], rfl, rfl, q q1 q2 ⟨g, g0, hu, hv⟩⟩
end
end K09

set_option maxRecDepth 100000
set_option maxHeartbeats 2000000
namespace K09
open PySem L2 DL GF
section
variable {P : Program} {w : World} {K : PySem.W.Frag} {mg : Str → Option Value} {base : Heap}
abbrev cbs (a b k : Nat) : List PV := (List.range k).map fun i => .int ((co a b i : Nat) : Int)
def D_bits : DSp := fun vs Q E n => ∃ a b k : Nat, vs = [rr a b, .int k] ∧ b % 2 = 1 ∧ k ≤ 1000 ∧ Q (.tup (cbs a b k)) n
theorem D_bits_mono : MonoSp D_bits := fun vs Q Q' E E' n hq he ⟨a, b, k, e, h, h1, q⟩ => ⟨a, b, k, e, h, h1, hq _ _ q⟩
theorem step_if (b r : Nat) : (if r % 2 = 1 then r ^^^ b else r) / 2 = GF.step b r := by
  unfold GF.step
  by_cases h : r % 2 = 1
  · rw [if_pos h, if_pos h]
  · rw [if_neg h, if_neg h, Nat.xor_zero]
theorem ok_Ratio_bits (T : Tx K mg) : FnD (pr T) P w K mg base 4 T.f_Ratio_bits T.d_Ratio_bits ["self", "n"] D_bits := by
  refine fnD T.F_Ratio_bits sc_Ratio_bits D_bits_mono (fun vs Q E n ⟨a, b, k, e, _⟩ => by subst e; rfl) (fun cdv A outer s H E W Ex hr dx vs Q h => ?_)
  obtain ⟨a, b, k, rfl, h, h1, q⟩ := h
  refine ⟨_, (dss_cons (ds_expr (de_mt (c := 1) (dv 0) T.cl_Ratio T.me_Ratio_check_beat (ok_Ratio_check_beat T) (hr.mono (by decide)) T.b_Ratio_check_beat dx (da_cons (dv 1) da_nil) nf_Ratio_check_beat))
      (dss_cons (ds_own 2 sc_Ratio_bits.nd (dn_disp da_nil))
      (dss_cons (ds_set 3 sc_Ratio_bits.nd (de_f 0 0 (de_f 1 0 (dv 0) ix_Ratio_above T.cl_Ratio T.na_Ratio_above) ix_Poly_number T.cl_Poly T.na_Poly_number))
      (dss_cons (ds_for dx (di_range1 T.z_range (da_cons (dv 1) da_nil)) (dg_name 4 sc_Ratio_bits.nd)
      (dss_cons (ds_app 2 (de_bin dop_and (dv 3) de_int))
      (dss_cons (ds_if (dt_truth dtru (de_bin dop_and (dv 3) de_int))
      (dss_cons (ds_aug 3 sc_Ratio_bits.nd diop_xor (de_f 0 0 (de_f 1 1 (dv 0) ix_Ratio_below T.cl_Ratio T.na_Ratio_below) ix_Poly_number T.cl_Poly T.na_Poly_number))
      dss_nil)
      dss_nil)
      (dss_cons (ds_aug 3 sc_Ratio_bits.nd diop_shr de_int)
      dss_nil))))
      (dss_cons (ds_frz 2 (ds_ret (de_callT dc_tuple T.z_tuple bt_tuple (da_cons (dv 2) da_nil))))
      dss_nil))))), ?_⟩
  simp only [dSeq, dNext, dIf, dTst, dTru, dBin, dUn, dApp, dVar, dC, dAsg, dNm, dAug, dDrop, dRet, dRetN, dBrk, dCnt, dNever, dFrz, dPeek, dPeekB, dPar, dFor, dRng1, dRng2, dSeqI, dTupI, dNil, dCons, dTup, dLst, dAnd, dOr, dNot, dIfE, dAndV, dOrV, dNotV, dChain, dBits, dIndex, dOwn, nLst, nList, nRep, nCat, nLc, dApnd, dSetO, dIxO, onOwn, dSelfSet, dSelf, dCall, dMake, dMeth, dProp, dOrE, dSl, dNoP, dP, dEnum, dZip, dYes, dOrI,   gTru, gN1, gN2, rstart, istart, List.map_cons, List.map_nil, List.length_cons, List.length_nil, List.cons_append, List.nil_append, List.append_nil, List.replicate, List.getElem?_cons_zero, List.getElem?_cons_succ, List.set_cons_zero, List.set_cons_succ, Nat.sub_zero, Nat.reduceAdd, Nat.reduceSub, Nat.zero_add, if_true, Bool.false_eq_true, if_false, Int.zero_add, ite_ap, TT2, true_and, PV.int.injEq, exists_eq_left', List.cons.injEq, and_true, PV.ins.injEq, Option.some.injEq, gF, gOwn, gTruO, dGLst, dGTup, dGCons, dGNil, gLen]
  refine ⟨a, b, k, rfl, h, by decide, by omega, ?_⟩
  refine loop_rng (fun i ρ n' => n' = W.c ∧ ∃ s, ρ = [.fz (rr a b), .fz (.int k), .own (cbs a b i), .fz (.int (run b i a : Nat)), s]) ⟨rfl, .no, rfl⟩ ?_ ?_
  · rintro i ρ n Nx hi ⟨rfl, s, rfl⟩ kk
    simp only [dSeq, dNext, dIf, dTst, dTru, dBin, dUn, dApp, dVar, dC, dAsg, dNm, dAug, dDrop, dRet, dRetN, dBrk, dCnt, dNever, dFrz, dPeek, dPeekB, dPar, dFor, dRng1, dRng2, dSeqI, dTupI, dNil, dCons, dTup, dLst, dAnd, dOr, dNot, dIfE, dAndV, dOrV, dNotV, dChain, dBits, dIndex, dOwn, nLst, nList, nRep, nCat, nLc, dApnd, dSetO, dIxO, onOwn, dSelfSet, dSelf, dCall, dMake, dMeth, dProp, dOrE, dSl, dNoP, dP, dEnum, dZip, dYes, dOrI,   gTru, gN1, gN2, rstart, istart, List.map_cons, List.map_nil, List.length_cons, List.length_nil, List.cons_append, List.nil_append, List.append_nil, List.replicate, List.getElem?_cons_zero, List.getElem?_cons_succ, List.set_cons_zero, List.set_cons_succ, Nat.sub_zero, Nat.reduceAdd, Nat.reduceSub, Nat.zero_add, if_true, Bool.false_eq_true, if_false, Int.zero_add, ite_ap, TT2, true_and, PV.int.injEq, exists_eq_left', List.cons.injEq, and_true, PV.ins.injEq, Option.some.injEq, gF, gOwn, gTruO, dGLst, dGTup, dGCons, dGNil, gLen, gII, ia1, in0]
    simp only [ix, ir1]
    have e1 : cbs a b (i + 1) = cbs a b i ++ [.int ((run b i a % 2 : Nat) : Int)] := by
      show (List.range (i + 1)).map _ = _
      rw [List.range_succ, List.map_append]
      rfl
    have e2 := step_if b (run b i a)
    rw [Int.toNat_natCast] at hi
    refine ⟨by rw [List.length_map, List.length_range]; exact Nat.lt_of_lt_of_le (by omega : i < 1001) (by decide), ?_⟩
    by_cases c : run b i a % 2 = 1
    · rw [if_pos c] at e2
      rw [if_pos (by rw [c]; rfl)]
      refine ⟨by decide, kk _ _ ⟨rfl, .fz (.int i), ?_⟩⟩
      rw [e1, run_succ, ← e2]
    · rw [if_neg c] at e2
      rw [if_neg (by simp; omega)]
      refine ⟨by decide, kk _ _ ⟨rfl, .fz (.int i), ?_⟩⟩
      rw [e1, run_succ, ← e2]
  · rintro ρ n ⟨rfl, s, rfl⟩
    simp only [dSeq, dNext, dIf, dTst, dTru, dBin, dUn, dApp, dVar, dC, dAsg, dNm, dAug, dDrop, dRet, dRetN, dBrk, dCnt, dNever, dFrz, dPeek, dPeekB, dPar, dFor, dRng1, dRng2, dSeqI, dTupI, dNil, dCons, dTup, dLst, dAnd, dOr, dNot, dIfE, dAndV, dOrV, dNotV, dChain, dBits, dIndex, dOwn, nLst, nList, nRep, nCat, nLc, dApnd, dSetO, dIxO, onOwn, dSelfSet, dSelf, dCall, dMake, dMeth, dProp, dOrE, dSl, dNoP, dP, dEnum, dZip, dYes, dOrI,   gTru, gN1, gN2, rstart, istart, List.map_cons, List.map_nil, List.length_cons, List.length_nil, List.cons_append, List.nil_append, List.append_nil, List.replicate, List.getElem?_cons_zero, List.getElem?_cons_succ, List.set_cons_zero, List.set_cons_succ, Nat.sub_zero, Nat.reduceAdd, Nat.reduceSub, Nat.zero_add, if_true, Bool.false_eq_true, if_false, Int.zero_add, ite_ap, TT2, true_and, PV.int.injEq, exists_eq_left', List.cons.injEq, and_true, PV.ins.injEq, Option.some.injEq, gF, gOwn, gTruO, dGLst, dGTup, dGCons, dGNil, gLen, gTuple, Int.toNat_natCast]
    exact q
def D_bit : DSp := fun vs Q E n => ∃ a b k : Nat, vs = [rr a b, .int k] ∧ b % 2 = 1 ∧ bl a ≤ 1000000 ∧ bl b ≤ 1000000 ∧ Q (.int ((co a b k : Nat) : Int)) n
theorem D_bit_mono : MonoSp D_bit := fun vs Q Q' E E' n hq he ⟨a, b, k, e, h, h1, h2, q⟩ => ⟨a, b, k, e, h, h1, h2, hq _ _ q⟩
theorem ok_Ratio_bit (T : Tx K mg) : FnD (pr T) P w K mg base 4 T.f_Ratio_bit T.d_Ratio_bit ["self", "n"] D_bit := by
  refine fnD T.F_Ratio_bit sc_Ratio_bit D_bit_mono (fun vs Q E n ⟨a, b, k, e, _⟩ => by subst e; rfl) (fun cdv A outer s H E W Ex hr dx vs Q h => ?_)
  obtain ⟨a, b, k, rfl, h, h1, h2, q⟩ := h
  refine ⟨_, (dss_cons (ds_expr (de_mt (c := 1) (dv 0) T.cl_Ratio T.me_Ratio_check_beat (ok_Ratio_check_beat T) (hr.mono (by decide)) T.b_Ratio_check_beat dx (da_cons (dv 1) da_nil) nf_Ratio_check_beat))
      (dss_cons (ds_set 2 sc_Ratio_bit.nd (de_f 0 0 (de_f 1 0 (dv 0) ix_Ratio_above T.cl_Ratio T.na_Ratio_above) ix_Poly_number T.cl_Poly T.na_Poly_number))
      (dss_cons (ds_set 3 sc_Ratio_bit.nd (dv 1))
      (dss_cons (ds_while dx (dt_truth dtru (dv 3))
      (dss_cons (ds_set 2 sc_Ratio_bit.nd (de_fn (ok_every_other T) (hr.mono (by decide)) T.m_every_other T.F_every_other.kp T.b_every_other dx (da_cons (de_fn (ok_times_of T) (hr.mono (by decide)) T.m_times_of T.F_times_of.kp T.b_times_of dx (da_cons (dv 2) (da_cons (de_f 0 0 (de_f 1 1 (dv 0) ix_Ratio_below T.cl_Ratio T.na_Ratio_below) ix_Poly_number T.cl_Poly T.na_Poly_number) da_nil))) (da_cons (de_bin dop_and (dv 3) de_int) da_nil))))
      (dss_cons (ds_aug 3 sc_Ratio_bit.nd diop_shr de_int)
      dss_nil)))
      (dss_cons (ds_ret (de_bin dop_and (dv 2) de_int))
      dss_nil))))), ?_⟩
  simp only [dSeq, dNext, dIf, dTst, dTru, dBin, dUn, dApp, dVar, dC, dAsg, dNm, dAug, dDrop, dRet, dRetN, dBrk, dCnt, dNever, dFrz, dPeek, dPeekB, dPar, dFor, dRng1, dRng2, dSeqI, dTupI, dNil, dCons, dTup, dLst, dAnd, dOr, dNot, dIfE, dAndV, dOrV, dNotV, dChain, dBits, dIndex, dOwn, nLst, nList, nRep, nCat, nLc, dApnd, dSetO, dIxO, onOwn, dSelfSet, dSelf, dCall, dMake, dMeth, dProp, dOrE, dSl, dNoP, dP, dEnum, dZip, dYes, dOrI,   gTru, gN1, gN2, rstart, istart, List.map_cons, List.map_nil, List.length_cons, List.length_nil, List.cons_append, List.nil_append, List.append_nil, List.replicate, List.getElem?_cons_zero, List.getElem?_cons_succ, List.set_cons_zero, List.set_cons_succ, Nat.sub_zero, Nat.reduceAdd, Nat.reduceSub, Nat.zero_add, if_true, Bool.false_eq_true, if_false, Int.zero_add, ite_ap, TT2, true_and, PV.int.injEq, exists_eq_left', List.cons.injEq, and_true, PV.ins.injEq, Option.some.injEq, gF, gOwn, gTruO, dGLst, dGTup, dGCons, dGNil, gLen]
  refine ⟨a, b, k, rfl, h, ?_⟩
  simp only [dSeq, dNext, dIf, dTst, dTru, dBin, dUn, dApp, dVar, dC, dAsg, dNm, dAug, dDrop, dRet, dRetN, dBrk, dCnt, dNever, dFrz, dPeek, dPeekB, dPar, dFor, dRng1, dRng2, dSeqI, dTupI, dNil, dCons, dTup, dLst, dAnd, dOr, dNot, dIfE, dAndV, dOrV, dNotV, dChain, dBits, dIndex, dOwn, nLst, nList, nRep, nCat, nLc, dApnd, dSetO, dIxO, onOwn, dSelfSet, dSelf, dCall, dMake, dMeth, dProp, dOrE, dSl, dNoP, dP, dEnum, dZip, dYes, dOrI,   gTru, gN1, gN2, rstart, istart, List.map_cons, List.map_nil, List.length_cons, List.length_nil, List.cons_append, List.nil_append, List.append_nil, List.replicate, List.getElem?_cons_zero, List.getElem?_cons_succ, List.set_cons_zero, List.set_cons_succ, Nat.sub_zero, Nat.reduceAdd, Nat.reduceSub, Nat.zero_add, if_true, Bool.false_eq_true, if_false, Int.zero_add, ite_ap, TT2, true_and, PV.int.injEq, exists_eq_left', List.cons.injEq, and_true, PV.ins.injEq, Option.some.injEq, gF, gOwn, gTruO, dGLst, dGTup, dGCons, dGNil, gLen]
  refine ⟨fun m ρ n' => n' = W.c ∧ ∃ (r i : Nat), m = i ∧ bl r ≤ 1000000 ∧ co r b i = co a b k ∧ ρ = [.fz (rr a b), .fz (.int k), .fz (.int r), .fz (.int i)], ⟨_, rfl, a, k, rfl, h1, rfl, rfl⟩, ?_⟩
  rintro m ρ n ⟨rfl, r, i, rfl, g1, g2, rfl⟩
  simp only [dSeq, dNext, dIf, dTst, dTru, dBin, dUn, dApp, dVar, dC, dAsg, dNm, dAug, dDrop, dRet, dRetN, dBrk, dCnt, dNever, dFrz, dPeek, dPeekB, dPar, dFor, dRng1, dRng2, dSeqI, dTupI, dNil, dCons, dTup, dLst, dAnd, dOr, dNot, dIfE, dAndV, dOrV, dNotV, dChain, dBits, dIndex, dOwn, nLst, nList, nRep, nCat, nLc, dApnd, dSetO, dIxO, onOwn, dSelfSet, dSelf, dCall, dMake, dMeth, dProp, dOrE, dSl, dNoP, dP, dEnum, dZip, dYes, dOrI,   gTru, gN1, gN2, rstart, istart, List.map_cons, List.map_nil, List.length_cons, List.length_nil, List.cons_append, List.nil_append, List.append_nil, List.replicate, List.getElem?_cons_zero, List.getElem?_cons_succ, List.set_cons_zero, List.set_cons_succ, Nat.sub_zero, Nat.reduceAdd, Nat.reduceSub, Nat.zero_add, if_true, Bool.false_eq_true, if_false, Int.zero_add, ite_ap, TT2, true_and, PV.int.injEq, exists_eq_left', List.cons.injEq, and_true, PV.ins.injEq, Option.some.injEq, gF, gOwn, gTruO, dGLst, dGTup, dGCons, dGNil, gLen, gII, in0, ia1]
  by_cases c : m = 0
  · subst c
    rw [if_neg (by simp)]
    have e : r % 2 = co a b k := g2
    rw [e]
    exact q
  · rw [if_pos (by simpa using c)]
    refine ⟨r, b, rfl, g1, h2, ?_⟩
    simp only [dSeq, dNext, dIf, dTst, dTru, dBin, dUn, dApp, dVar, dC, dAsg, dNm, dAug, dDrop, dRet, dRetN, dBrk, dCnt, dNever, dFrz, dPeek, dPeekB, dPar, dFor, dRng1, dRng2, dSeqI, dTupI, dNil, dCons, dTup, dLst, dAnd, dOr, dNot, dIfE, dAndV, dOrV, dNotV, dChain, dBits, dIndex, dOwn, nLst, nList, nRep, nCat, nLc, dApnd, dSetO, dIxO, onOwn, dSelfSet, dSelf, dCall, dMake, dMeth, dProp, dOrE, dSl, dNoP, dP, dEnum, dZip, dYes, dOrI,   gTru, gN1, gN2, rstart, istart, List.map_cons, List.map_nil, List.length_cons, List.length_nil, List.cons_append, List.nil_append, List.append_nil, List.replicate, List.getElem?_cons_zero, List.getElem?_cons_succ, List.set_cons_zero, List.set_cons_succ, Nat.sub_zero, Nat.reduceAdd, Nat.reduceSub, Nat.zero_add, if_true, Bool.false_eq_true, if_false, Int.zero_add, ite_ap, TT2, true_and, PV.int.injEq, exists_eq_left', List.cons.injEq, and_true, PV.ins.injEq, Option.some.injEq, gF, gOwn, gTruO, dGLst, dGTup, dGCons, dGNil, gLen, gII, ia1]
    refine ⟨cm r b, m % 2, rfl, and_lt, by have := bl_cm_le r b; omega, fun y hy => ?_⟩
    simp only [dSeq, dNext, dIf, dTst, dTru, dBin, dUn, dApp, dVar, dC, dAsg, dNm, dAug, dDrop, dRet, dRetN, dBrk, dCnt, dNever, dFrz, dPeek, dPeekB, dPar, dFor, dRng1, dRng2, dSeqI, dTupI, dNil, dCons, dTup, dLst, dAnd, dOr, dNot, dIfE, dAndV, dOrV, dNotV, dChain, dBits, dIndex, dOwn, nLst, nList, nRep, nCat, nLc, dApnd, dSetO, dIxO, onOwn, dSelfSet, dSelf, dCall, dMake, dMeth, dProp, dOrE, dSl, dNoP, dP, dEnum, dZip, dYes, dOrI,   gTru, gN1, gN2, rstart, istart, List.map_cons, List.map_nil, List.length_cons, List.length_nil, List.cons_append, List.nil_append, List.append_nil, List.replicate, List.getElem?_cons_zero, List.getElem?_cons_succ, List.set_cons_zero, List.set_cons_succ, Nat.sub_zero, Nat.reduceAdd, Nat.reduceSub, Nat.zero_add, if_true, Bool.false_eq_true, if_false, Int.zero_add, ite_ap, TT2, true_and, PV.int.injEq, exists_eq_left', List.cons.injEq, and_true, PV.ins.injEq, Option.some.injEq, gF, gOwn, gTruO, dGLst, dGTup, dGCons, dGNil, gLen, gII, ir1]
    refine ⟨by decide, m / 2, by omega, y, ?_, ?_, rfl, rfl⟩
    · have := ev_bl hy
      have := bl_cm_le r b
      omega
    · rw [← g2]; exact (co_half h hy).symm
def D_radd : DSp := fun vs Q E n => ∃ a b c d : Nat, vs = [rr a b, rr c d] ∧ b % 2 = 1 ∧ d % 2 = 1 ∧ (bl a ≤ 200000 ∧ bl b ≤ 200000 ∧ bl c ≤ 200000 ∧ bl d ≤ 200000) ∧ ∀ x y : Nat, Red (cm a d ^^^ cm c b) (cm b d) x y → Q (rr x y) n
theorem D_radd_mono : MonoSp D_radd := fun vs Q Q' E E' n hq he ⟨a, b, c, d, e, h, h1, h2, q⟩ => ⟨a, b, c, d, e, h, h1, h2, fun x y u => hq _ _ (q x y u)⟩
theorem ok_Ratio___add__ (T : Tx K mg) : FnD (pr T) P w K mg base 6 T.f_Ratio___add__ T.d_Ratio___add__ ["self", "other"] D_radd := by
  refine fnD T.F_Ratio___add__ sc_Ratio___add__ D_radd_mono (fun vs Q E n ⟨a, b, c, d, e, _⟩ => by subst e; rfl) (fun cdv A outer s H E W Ex hr dx vs Q h => ?_)
  obtain ⟨a, b, c, d, rfl, hb, hd, ⟨h1, h2, h3, h4⟩, q⟩ := h
  refine ⟨_, (dss_cons (ds_ret (de_mkD (dvs := []) (dps := []) (ok_Ratio___init__ T) T.mk_Ratio (hr.mono (by decide)) T.m_Ratio T.bd0_Ratio___init__ dx (da_cons (de_bin (dop_own (c := 0) (ok_Poly___add__ T) (hr.mono (by decide)) T.b_Poly___add__ T.ow_Poly___add__ T.sf_Poly) (de_bin (dop_own (c := 0) (ok_Poly___mul__ T) (hr.mono (by decide)) T.b_Poly___mul__ T.ow_Poly___mul__ T.sf_Poly) (de_f 1 0 (dv 0) ix_Ratio_above T.cl_Ratio T.na_Ratio_above) (de_f 1 1 (dv 1) ix_Ratio_below T.cl_Ratio T.na_Ratio_below)) (de_bin (dop_own (c := 0) (ok_Poly___mul__ T) (hr.mono (by decide)) T.b_Poly___mul__ T.ow_Poly___mul__ T.sf_Poly) (de_f 1 0 (dv 1) ix_Ratio_above T.cl_Ratio T.na_Ratio_above) (de_f 1 1 (dv 0) ix_Ratio_below T.cl_Ratio T.na_Ratio_below))) (da_cons (de_bin (dop_own (c := 0) (ok_Poly___mul__ T) (hr.mono (by decide)) T.b_Poly___mul__ T.ow_Poly___mul__ T.sf_Poly) (de_f 1 1 (dv 0) ix_Ratio_below T.cl_Ratio T.na_Ratio_below) (de_f 1 1 (dv 1) ix_Ratio_below T.cl_Ratio T.na_Ratio_below)) da_nil)) no_dps))
      dss_nil), ?_⟩
  simp only [dSeq, dNext, dIf, dTst, dTru, dBin, dUn, dApp, dVar, dC, dAsg, dNm, dAug, dDrop, dRet, dRetN, dBrk, dCnt, dNever, dFrz, dPeek, dPeekB, dPar, dFor, dRng1, dRng2, dSeqI, dTupI, dNil, dCons, dTup, dLst, dAnd, dOr, dNot, dIfE, dAndV, dOrV, dNotV, dChain, dBits, dIndex, dOwn, nLst, nList, nRep, nCat, nLc, dApnd, dSetO, dIxO, onOwn, dSelfSet, dSelf, dCall, dMake, dMeth, dProp, dOrE, dSl, dNoP, dP, dEnum, dZip, dYes, dOrI,   gTru, gN1, gN2, rstart, istart, List.map_cons, List.map_nil, List.length_cons, List.length_nil, List.cons_append, List.nil_append, List.append_nil, List.replicate, List.getElem?_cons_zero, List.getElem?_cons_succ, List.set_cons_zero, List.set_cons_succ, Nat.sub_zero, Nat.reduceAdd, Nat.reduceSub, Nat.zero_add, if_true, Bool.false_eq_true, if_false, Int.zero_add, ite_ap, TT2, true_and, PV.int.injEq, exists_eq_left', List.cons.injEq, and_true, PV.ins.injEq, Option.some.injEq, gF, gOwn, gTruO, dGLst, dGTup, dGCons, dGNil, gLen]
  have k1 := bl_cm_le a d
  have k2 := bl_cm_le c b
  have k3 := bl_cm_le b d
  have k4 := bl_xor_le (cm a d) (cm c b) (k := 400000) (by omega) (by omega)
  have ho : (cm b d) % 2 = 1 := by rw [cm_mod2, hb, hd]
  refine ⟨a, d, rfl, by omega, by omega, ?_⟩
  simp only [dSeq, dNext, dIf, dTst, dTru, dBin, dUn, dApp, dVar, dC, dAsg, dNm, dAug, dDrop, dRet, dRetN, dBrk, dCnt, dNever, dFrz, dPeek, dPeekB, dPar, dFor, dRng1, dRng2, dSeqI, dTupI, dNil, dCons, dTup, dLst, dAnd, dOr, dNot, dIfE, dAndV, dOrV, dNotV, dChain, dBits, dIndex, dOwn, nLst, nList, nRep, nCat, nLc, dApnd, dSetO, dIxO, onOwn, dSelfSet, dSelf, dCall, dMake, dMeth, dProp, dOrE, dSl, dNoP, dP, dEnum, dZip, dYes, dOrI,   gTru, gN1, gN2, rstart, istart, List.map_cons, List.map_nil, List.length_cons, List.length_nil, List.cons_append, List.nil_append, List.append_nil, List.replicate, List.getElem?_cons_zero, List.getElem?_cons_succ, List.set_cons_zero, List.set_cons_succ, Nat.sub_zero, Nat.reduceAdd, Nat.reduceSub, Nat.zero_add, if_true, Bool.false_eq_true, if_false, Int.zero_add, ite_ap, TT2, true_and, PV.int.injEq, exists_eq_left', List.cons.injEq, and_true, PV.ins.injEq, Option.some.injEq, gF, gOwn, gTruO, dGLst, dGTup, dGCons, dGNil, gLen]
  refine ⟨c, b, rfl, by omega, by omega, ?_⟩
  simp only [dSeq, dNext, dIf, dTst, dTru, dBin, dUn, dApp, dVar, dC, dAsg, dNm, dAug, dDrop, dRet, dRetN, dBrk, dCnt, dNever, dFrz, dPeek, dPeekB, dPar, dFor, dRng1, dRng2, dSeqI, dTupI, dNil, dCons, dTup, dLst, dAnd, dOr, dNot, dIfE, dAndV, dOrV, dNotV, dChain, dBits, dIndex, dOwn, nLst, nList, nRep, nCat, nLc, dApnd, dSetO, dIxO, onOwn, dSelfSet, dSelf, dCall, dMake, dMeth, dProp, dOrE, dSl, dNoP, dP, dEnum, dZip, dYes, dOrI,   gTru, gN1, gN2, rstart, istart, List.map_cons, List.map_nil, List.length_cons, List.length_nil, List.cons_append, List.nil_append, List.append_nil, List.replicate, List.getElem?_cons_zero, List.getElem?_cons_succ, List.set_cons_zero, List.set_cons_succ, Nat.sub_zero, Nat.reduceAdd, Nat.reduceSub, Nat.zero_add, if_true, Bool.false_eq_true, if_false, Int.zero_add, ite_ap, TT2, true_and, PV.int.injEq, exists_eq_left', List.cons.injEq, and_true, PV.ins.injEq, Option.some.injEq, gF, gOwn, gTruO, dGLst, dGTup, dGCons, dGNil, gLen]
  refine ⟨cm a d, cm c b, rfl, ?_⟩
  simp only [dSeq, dNext, dIf, dTst, dTru, dBin, dUn, dApp, dVar, dC, dAsg, dNm, dAug, dDrop, dRet, dRetN, dBrk, dCnt, dNever, dFrz, dPeek, dPeekB, dPar, dFor, dRng1, dRng2, dSeqI, dTupI, dNil, dCons, dTup, dLst, dAnd, dOr, dNot, dIfE, dAndV, dOrV, dNotV, dChain, dBits, dIndex, dOwn, nLst, nList, nRep, nCat, nLc, dApnd, dSetO, dIxO, onOwn, dSelfSet, dSelf, dCall, dMake, dMeth, dProp, dOrE, dSl, dNoP, dP, dEnum, dZip, dYes, dOrI,   gTru, gN1, gN2, rstart, istart, List.map_cons, List.map_nil, List.length_cons, List.length_nil, List.cons_append, List.nil_append, List.append_nil, List.replicate, List.getElem?_cons_zero, List.getElem?_cons_succ, List.set_cons_zero, List.set_cons_succ, Nat.sub_zero, Nat.reduceAdd, Nat.reduceSub, Nat.zero_add, if_true, Bool.false_eq_true, if_false, Int.zero_add, ite_ap, TT2, true_and, PV.int.injEq, exists_eq_left', List.cons.injEq, and_true, PV.ins.injEq, Option.some.injEq, gF, gOwn, gTruO, dGLst, dGTup, dGCons, dGNil, gLen]
  refine ⟨b, d, rfl, by omega, by omega, ?_⟩
  simp only [dSeq, dNext, dIf, dTst, dTru, dBin, dUn, dApp, dVar, dC, dAsg, dNm, dAug, dDrop, dRet, dRetN, dBrk, dCnt, dNever, dFrz, dPeek, dPeekB, dPar, dFor, dRng1, dRng2, dSeqI, dTupI, dNil, dCons, dTup, dLst, dAnd, dOr, dNot, dIfE, dAndV, dOrV, dNotV, dChain, dBits, dIndex, dOwn, nLst, nList, nRep, nCat, nLc, dApnd, dSetO, dIxO, onOwn, dSelfSet, dSelf, dCall, dMake, dMeth, dProp, dOrE, dSl, dNoP, dP, dEnum, dZip, dYes, dOrI,   gTru, gN1, gN2, rstart, istart, List.map_cons, List.map_nil, List.length_cons, List.length_nil, List.cons_append, List.nil_append, List.append_nil, List.replicate, List.getElem?_cons_zero, List.getElem?_cons_succ, List.set_cons_zero, List.set_cons_succ, Nat.sub_zero, Nat.reduceAdd, Nat.reduceSub, Nat.zero_add, if_true, Bool.false_eq_true, if_false, Int.zero_add, ite_ap, TT2, true_and, PV.int.injEq, exists_eq_left', List.cons.injEq, and_true, PV.ins.injEq, Option.some.injEq, gF, gOwn, gTruO, dGLst, dGTup, dGCons, dGNil, gLen]
  exact ⟨_, cm b d, _, rfl, .inl rfl, fun z => by rw [z] at ho; omega, by omega, by omega, fun x y r => q x y r⟩
def D_rmul : DSp := fun vs Q E n => ∃ a b c d : Nat, vs = [rr a b, rr c d] ∧ b % 2 = 1 ∧ d % 2 = 1 ∧ (bl a ≤ 200000 ∧ bl b ≤ 200000 ∧ bl c ≤ 200000 ∧ bl d ≤ 200000) ∧ ∀ x y : Nat, Red (cm a c) (cm b d) x y → Q (rr x y) n
theorem D_rmul_mono : MonoSp D_rmul := fun vs Q Q' E E' n hq he ⟨a, b, c, d, e, h, h1, h2, q⟩ => ⟨a, b, c, d, e, h, h1, h2, fun x y u => hq _ _ (q x y u)⟩
theorem ok_Ratio___mul__ (T : Tx K mg) : FnD (pr T) P w K mg base 6 T.f_Ratio___mul__ T.d_Ratio___mul__ ["self", "other"] D_rmul := by
  refine fnD T.F_Ratio___mul__ sc_Ratio___mul__ D_rmul_mono (fun vs Q E n ⟨a, b, c, d, e, _⟩ => by subst e; rfl) (fun cdv A outer s H E W Ex hr dx vs Q h => ?_)
  obtain ⟨a, b, c, d, rfl, hb, hd, ⟨h1, h2, h3, h4⟩, q⟩ := h
  refine ⟨_, (dss_cons (ds_ret (de_mkD (dvs := []) (dps := []) (ok_Ratio___init__ T) T.mk_Ratio (hr.mono (by decide)) T.m_Ratio T.bd0_Ratio___init__ dx (da_cons (de_bin (dop_own (c := 0) (ok_Poly___mul__ T) (hr.mono (by decide)) T.b_Poly___mul__ T.ow_Poly___mul__ T.sf_Poly) (de_f 1 0 (dv 0) ix_Ratio_above T.cl_Ratio T.na_Ratio_above) (de_f 1 0 (dv 1) ix_Ratio_above T.cl_Ratio T.na_Ratio_above)) (da_cons (de_bin (dop_own (c := 0) (ok_Poly___mul__ T) (hr.mono (by decide)) T.b_Poly___mul__ T.ow_Poly___mul__ T.sf_Poly) (de_f 1 1 (dv 0) ix_Ratio_below T.cl_Ratio T.na_Ratio_below) (de_f 1 1 (dv 1) ix_Ratio_below T.cl_Ratio T.na_Ratio_below)) da_nil)) no_dps))
      dss_nil), ?_⟩
  simp only [dSeq, dNext, dIf, dTst, dTru, dBin, dUn, dApp, dVar, dC, dAsg, dNm, dAug, dDrop, dRet, dRetN, dBrk, dCnt, dNever, dFrz, dPeek, dPeekB, dPar, dFor, dRng1, dRng2, dSeqI, dTupI, dNil, dCons, dTup, dLst, dAnd, dOr, dNot, dIfE, dAndV, dOrV, dNotV, dChain, dBits, dIndex, dOwn, nLst, nList, nRep, nCat, nLc, dApnd, dSetO, dIxO, onOwn, dSelfSet, dSelf, dCall, dMake, dMeth, dProp, dOrE, dSl, dNoP, dP, dEnum, dZip, dYes, dOrI,   gTru, gN1, gN2, rstart, istart, List.map_cons, List.map_nil, List.length_cons, List.length_nil, List.cons_append, List.nil_append, List.append_nil, List.replicate, List.getElem?_cons_zero, List.getElem?_cons_succ, List.set_cons_zero, List.set_cons_succ, Nat.sub_zero, Nat.reduceAdd, Nat.reduceSub, Nat.zero_add, if_true, Bool.false_eq_true, if_false, Int.zero_add, ite_ap, TT2, true_and, PV.int.injEq, exists_eq_left', List.cons.injEq, and_true, PV.ins.injEq, Option.some.injEq, gF, gOwn, gTruO, dGLst, dGTup, dGCons, dGNil, gLen]
  have k1 := bl_cm_le a c
  have k3 := bl_cm_le b d
  have ho : (cm b d) % 2 = 1 := by rw [cm_mod2, hb, hd]
  refine ⟨a, c, rfl, by omega, by omega, ?_⟩
  simp only [dSeq, dNext, dIf, dTst, dTru, dBin, dUn, dApp, dVar, dC, dAsg, dNm, dAug, dDrop, dRet, dRetN, dBrk, dCnt, dNever, dFrz, dPeek, dPeekB, dPar, dFor, dRng1, dRng2, dSeqI, dTupI, dNil, dCons, dTup, dLst, dAnd, dOr, dNot, dIfE, dAndV, dOrV, dNotV, dChain, dBits, dIndex, dOwn, nLst, nList, nRep, nCat, nLc, dApnd, dSetO, dIxO, onOwn, dSelfSet, dSelf, dCall, dMake, dMeth, dProp, dOrE, dSl, dNoP, dP, dEnum, dZip, dYes, dOrI,   gTru, gN1, gN2, rstart, istart, List.map_cons, List.map_nil, List.length_cons, List.length_nil, List.cons_append, List.nil_append, List.append_nil, List.replicate, List.getElem?_cons_zero, List.getElem?_cons_succ, List.set_cons_zero, List.set_cons_succ, Nat.sub_zero, Nat.reduceAdd, Nat.reduceSub, Nat.zero_add, if_true, Bool.false_eq_true, if_false, Int.zero_add, ite_ap, TT2, true_and, PV.int.injEq, exists_eq_left', List.cons.injEq, and_true, PV.ins.injEq, Option.some.injEq, gF, gOwn, gTruO, dGLst, dGTup, dGCons, dGNil, gLen]
  refine ⟨b, d, rfl, by omega, by omega, ?_⟩
  simp only [dSeq, dNext, dIf, dTst, dTru, dBin, dUn, dApp, dVar, dC, dAsg, dNm, dAug, dDrop, dRet, dRetN, dBrk, dCnt, dNever, dFrz, dPeek, dPeekB, dPar, dFor, dRng1, dRng2, dSeqI, dTupI, dNil, dCons, dTup, dLst, dAnd, dOr, dNot, dIfE, dAndV, dOrV, dNotV, dChain, dBits, dIndex, dOwn, nLst, nList, nRep, nCat, nLc, dApnd, dSetO, dIxO, onOwn, dSelfSet, dSelf, dCall, dMake, dMeth, dProp, dOrE, dSl, dNoP, dP, dEnum, dZip, dYes, dOrI,   gTru, gN1, gN2, rstart, istart, List.map_cons, List.map_nil, List.length_cons, List.length_nil, List.cons_append, List.nil_append, List.append_nil, List.replicate, List.getElem?_cons_zero, List.getElem?_cons_succ, List.set_cons_zero, List.set_cons_succ, Nat.sub_zero, Nat.reduceAdd, Nat.reduceSub, Nat.zero_add, if_true, Bool.false_eq_true, if_false, Int.zero_add, ite_ap, TT2, true_and, PV.int.injEq, exists_eq_left', List.cons.injEq, and_true, PV.ins.injEq, Option.some.injEq, gF, gOwn, gTruO, dGLst, dGTup, dGCons, dGNil, gLen]
  exact ⟨_, cm b d, _, rfl, .inl rfl, fun z => by rw [z] at ho; omega, by omega, by omega, fun x y r => q x y r⟩
def D_z : DSp := fun vs Q E n => ∃ k : Nat, vs = [.int k] ∧ k ≤ 100000 ∧ ∀ x y : Nat, Red (2 ^ k) 1 x y → Q (rr x y) n
theorem D_z_mono : MonoSp D_z := fun vs Q Q' E E' n hq he ⟨k, e, h, q⟩ => ⟨k, e, h, fun x y u => hq _ _ (q x y u)⟩
theorem ok_Ratio_z (T : Tx K mg) : FnD (pr T) P w K mg base 6 T.f_Ratio_z T.d_Ratio_z ["n"] D_z := by
  refine fnD T.F_Ratio_z sc_Ratio_z D_z_mono (fun vs Q E n ⟨k, e, _⟩ => by subst e; rfl) (fun cdv A outer s H E W Ex hr dx vs Q h => ?_)
  obtain ⟨k, rfl, h, q⟩ := h
  refine ⟨_, (dss_cons (ds_if (dt_cmp dop_lt (dv 0) de_int)
      (dss_cons (ds_ret (de_mkD (dvs := []) (dps := []) (ok_Ratio___init__ T) T.mk_Ratio (hr.mono (by decide)) T.m_Ratio T.bd0_Ratio___init__ dx (da_cons (de_mkD (dvs := []) (dps := []) (ok_Poly___init__ T) T.mk_Poly (hr.mono (by decide)) T.m_Poly T.bd0_Poly___init__ dx (da_cons de_int da_nil) no_dps) (da_cons (de_mkD (dvs := []) (dps := []) (ok_Poly___init__ T) T.mk_Poly (hr.mono (by decide)) T.m_Poly T.bd0_Poly___init__ dx (da_cons (de_bin dop_shl de_int (de_un dun_neg (dv 0))) da_nil) no_dps) da_nil)) no_dps))
      dss_nil)
      dss_nil)
      (dss_cons (ds_ret (de_mkD (dps := [.non]) (ok_Ratio___init__ T) T.mk_Ratio (hr.mono (by decide)) T.m_Ratio T.bd1_Ratio___init__ dx (da_cons (de_mkD (dvs := []) (dps := []) (ok_Poly___init__ T) T.mk_Poly (hr.mono (by decide)) T.m_Poly T.bd0_Poly___init__ dx (da_cons (de_bin dop_shl de_int (dv 0)) da_nil) no_dps) da_nil) (fun W => (RepL.cons (rep_non.2 rfl) RepL.nil))))
      dss_nil)), ?_⟩
  simp only [dSeq, dNext, dIf, dTst, dTru, dBin, dUn, dApp, dVar, dC, dAsg, dNm, dAug, dDrop, dRet, dRetN, dBrk, dCnt, dNever, dFrz, dPeek, dPeekB, dPar, dFor, dRng1, dRng2, dSeqI, dTupI, dNil, dCons, dTup, dLst, dAnd, dOr, dNot, dIfE, dAndV, dOrV, dNotV, dChain, dBits, dIndex, dOwn, nLst, nList, nRep, nCat, nLc, dApnd, dSetO, dIxO, onOwn, dSelfSet, dSelf, dCall, dMake, dMeth, dProp, dOrE, dSl, dNoP, dP, dEnum, dZip, dYes, dOrI,   gTru, gN1, gN2, rstart, istart, List.map_cons, List.map_nil, List.length_cons, List.length_nil, List.cons_append, List.nil_append, List.append_nil, List.replicate, List.getElem?_cons_zero, List.getElem?_cons_succ, List.set_cons_zero, List.set_cons_succ, Nat.sub_zero, Nat.reduceAdd, Nat.reduceSub, Nat.zero_add, if_true, Bool.false_eq_true, if_false, Int.zero_add, ite_ap, TT2, true_and, PV.int.injEq, exists_eq_left', List.cons.injEq, and_true, PV.ins.injEq, Option.some.injEq, gF, gOwn, gTruO, dGLst, dGTup, dGCons, dGNil, gLen, gII, il1]
  rw [if_neg (by simp)]
  have h1 : bl 1 = 1 := by decide
  have h2 : bl (2 ^ k) ≤ k + 1 := bl_le (by rw [Nat.pow_succ]; have := Nat.two_pow_pos k; omega)
  refine ⟨shl_small (a := 1) (by omega), 2 ^ k, rfl, ?_⟩
  simp only [dSeq, dNext, dIf, dTst, dTru, dBin, dUn, dApp, dVar, dC, dAsg, dNm, dAug, dDrop, dRet, dRetN, dBrk, dCnt, dNever, dFrz, dPeek, dPeekB, dPar, dFor, dRng1, dRng2, dSeqI, dTupI, dNil, dCons, dTup, dLst, dAnd, dOr, dNot, dIfE, dAndV, dOrV, dNotV, dChain, dBits, dIndex, dOwn, nLst, nList, nRep, nCat, nLc, dApnd, dSetO, dIxO, onOwn, dSelfSet, dSelf, dCall, dMake, dMeth, dProp, dOrE, dSl, dNoP, dP, dEnum, dZip, dYes, dOrI,   gTru, gN1, gN2, rstart, istart, List.map_cons, List.map_nil, List.length_cons, List.length_nil, List.cons_append, List.nil_append, List.append_nil, List.replicate, List.getElem?_cons_zero, List.getElem?_cons_succ, List.set_cons_zero, List.set_cons_succ, Nat.sub_zero, Nat.reduceAdd, Nat.reduceSub, Nat.zero_add, if_true, Bool.false_eq_true, if_false, Int.zero_add, ite_ap, TT2, true_and, PV.int.injEq, exists_eq_left', List.cons.injEq, and_true, PV.ins.injEq, Option.some.injEq, gF, gOwn, gTruO, dGLst, dGTup, dGCons, dGNil, gLen]
  exact ⟨2 ^ k, 1, _, rfl, .inr ⟨rfl, rfl⟩, by decide, by omega, by omega, fun x y r => q x y r⟩
def D_cycle : DSp := fun vs Q E n => ∃ a b : Nat, vs = [.int a, .int b] ∧ a < 128 ∧ b < 128 ∧ ∀ L back : Nat, back < L → L ≤ 128 → run b L a = run b back a → Q (.lst [.lst (cbs a b L), .int back]) n
theorem D_cycle_mono : MonoSp D_cycle := fun vs Q Q' E E' n hq he ⟨a, b, e, h, h1, q⟩ => ⟨a, b, e, h, h1, fun L back u v x => hq _ _ (q L back u v x)⟩
abbrev rns (a b k : Nat) : List PV := (List.range k).map fun i => .int ((run b i a : Nat) : Int)
theorem step_lt {b r : Nat} (hb : b < 128) (hr : r < 128) : GF.step b r < 128 := by
  unfold GF.step
  have : r ^^^ (if r % 2 = 1 then b else 0) < 2 ^ 7 := Nat.xor_lt_two_pow hr (by split <;> omega)
  omega
theorem run_lt {a b : Nat} (ha : a < 128) (hb : b < 128) : ∀ i, run b i a < 128
  | 0 => ha
  | i + 1 => by rw [run_succ]; exact step_lt hb (run_lt ha hb i)
theorem pigeon : ∀ (n : Nat) (l : List Nat), l.Nodup → (∀ x ∈ l, x < n) → l.length ≤ n
  | 0, l, _, h => by
    cases l with
    | nil => exact Nat.le_refl _
    | cons x xs => exact absurd (h x List.mem_cons_self) (by omega)
  | n + 1, l, hn, h => by
    have h1 := pigeon n (l.erase n) (hn.erase n) (fun x hx => by
      have h2 := h x (List.mem_of_mem_erase hx)
      have h3 : x ≠ n := ((List.Nodup.mem_erase_iff hn).1 hx).1
      omega)
    by_cases c : n ∈ l
    · rw [List.length_erase_of_mem c] at h1; omega
    · rw [List.erase_of_not_mem c] at h1; omega
theorem any_ints {f : Nat → Nat} {r : Nat} (l : List Nat) : ((l.map fun i => PV.int ((f i : Nat) : Int)).any fun z => peq z (.int r)) = decide (r ∈ l.map f) := by
  induction l with
  | nil => rfl
  | cons x l ih =>
    rw [List.map_cons, List.any_cons, ih]
    simp only [peq, List.map_cons, List.mem_cons]
    by_cases c : f x = r
    · subst c; simp
    · have : ((f x : Int) == (r : Int)) = false := by rw [beq_eq_false_iff_ne]; omega
      simp [this, Ne.symm c]
theorem ok_l_cycle (T : Tx K mg) : FnD (pr T) P w K mg base 1 T.f_l_cycle T.d_l_cycle ["_law_above", "_law_below"] D_cycle := by
  refine fnD T.F_l_cycle sc_l_cycle D_cycle_mono (fun vs Q E n ⟨a, b, e, _⟩ => by subst e; rfl) (fun cdv A outer s H E W Ex hr dx vs Q h => ?_)
  obtain ⟨a, b, rfl, h, h1, q⟩ := h
  refine ⟨_, (dss_cons (ds_own 2 sc_l_cycle.nd (dn_disp da_nil))
      (dss_cons (ds_own 3 sc_l_cycle.nd (dn_disp da_nil))
      (dss_cons (ds_set 4 sc_l_cycle.nd (dv 0))
      (dss_cons (ds_while dx (dt_peek 2 (dt_cmp (dop_notIn (room65 hr)) (dv 4) (dv 2)))
      (dss_cons (ds_app 2 (dv 4))
      (dss_cons (ds_app 3 (de_bin dop_mod (dv 4) de_int))
      (dss_cons (ds_if (dt_cmp (dop_eq hr.units) (de_bin dop_mod (dv 4) de_int) de_int)
      (dss_cons (ds_set 4 sc_l_cycle.nd (de_bin dop_xor (dv 4) (dv 1)))
      dss_nil)
      dss_nil)
      (dss_cons (ds_set 4 sc_l_cycle.nd (de_bin dop_fdiv (dv 4) de_int))
      dss_nil)))))
      (dss_cons (ds_frz 2 (ds_frz 3 (ds_ret (de_lst (da_cons (dv 3) (da_cons (de_idx (room65 hr) (dv 2) (dv 4)) da_nil))))))
      dss_nil))))), ?_⟩
  simp only [dSeq, dNext, dIf, dTst, dTru, dBin, dUn, dApp, dVar, dC, dAsg, dNm, dAug, dDrop, dRet, dRetN, dBrk, dCnt, dNever, dFrz, dPeek, dPeekB, dPar, dFor, dRng1, dRng2, dSeqI, dTupI, dNil, dCons, dTup, dLst, dAnd, dOr, dNot, dIfE, dAndV, dOrV, dNotV, dChain, dBits, dIndex, dOwn, nLst, nList, nRep, nCat, nLc, dApnd, dSetO, dIxO, onOwn, dSelfSet, dSelf, dCall, dMake, dMeth, dProp, dOrE, dSl, dNoP, dP, dEnum, dZip, dYes, dOrI,   gTru, gN1, gN2, rstart, istart, List.map_cons, List.map_nil, List.length_cons, List.length_nil, List.cons_append, List.nil_append, List.append_nil, List.replicate, List.getElem?_cons_zero, List.getElem?_cons_succ, List.set_cons_zero, List.set_cons_succ, Nat.sub_zero, Nat.reduceAdd, Nat.reduceSub, Nat.zero_add, if_true, Bool.false_eq_true, if_false, Int.zero_add, ite_ap, TT2, true_and, PV.int.injEq, exists_eq_left', List.cons.injEq, and_true, PV.ins.injEq, Option.some.injEq, gF, gOwn, gTruO, dGLst, dGTup, dGCons, dGNil, gLen]
  refine ⟨by decide, by decide, fun m ρ n' => n' = W.c ∧ ∃ k : Nat, m + k = 128 ∧ ((List.range k).map fun i => run b i a).Nodup ∧ ρ = [.fz (.int a), .fz (.int b), .own (rns a b k), .own (cbs a b k), .fz (.int (run b k a : Nat))], ⟨128, rfl, 0, rfl, List.nodup_nil, rfl⟩, ?_⟩
  rintro m ρ n ⟨rfl, k, hk, hn, rfl⟩
  simp only [dSeq, dNext, dIf, dTst, dTru, dBin, dUn, dApp, dVar, dC, dAsg, dNm, dAug, dDrop, dRet, dRetN, dBrk, dCnt, dNever, dFrz, dPeek, dPeekB, dPar, dFor, dRng1, dRng2, dSeqI, dTupI, dNil, dCons, dTup, dLst, dAnd, dOr, dNot, dIfE, dAndV, dOrV, dNotV, dChain, dBits, dIndex, dOwn, nLst, nList, nRep, nCat, nLc, dApnd, dSetO, dIxO, onOwn, dSelfSet, dSelf, dCall, dMake, dMeth, dProp, dOrE, dSl, dNoP, dP, dEnum, dZip, dYes, dOrI,   gTru, gN1, gN2, rstart, istart, List.map_cons, List.map_nil, List.length_cons, List.length_nil, List.cons_append, List.nil_append, List.append_nil, List.replicate, List.getElem?_cons_zero, List.getElem?_cons_succ, List.set_cons_zero, List.set_cons_succ, Nat.sub_zero, Nat.reduceAdd, Nat.reduceSub, Nat.zero_add, if_true, Bool.false_eq_true, if_false, Int.zero_add, ite_ap, TT2, true_and, PV.int.injEq, exists_eq_left', List.cons.injEq, and_true, PV.ins.injEq, Option.some.injEq, gF, gOwn, gTruO, dGLst, dGTup, dGCons, dGNil, gLen, gIn]
  refine ⟨_, .inl rfl, rfl, okDs_ints _, ?_⟩
  rw [any_ints]
  by_cases c : run b k a ∈ (List.range k).map fun i => run b i a
  · rw [if_neg (by rw [decide_eq_true c]; decide)]
    obtain ⟨j, hj, e⟩ := List.mem_map.1 c
    have hj' := List.mem_range.1 hj
    refine ⟨_, rfl, j, .int ((run b j a : Nat) : Int), rfl, okDs_ints _, ?_, ?_, fun i z hi hz => ?_, by decide, q k j hj' (by omega) e.symm⟩
    · simp [hj']
    · simp only [peq]; rw [e]; simp
    · have hi' : i < k := by omega
      have hz' : z = .int ((run b i a : Nat) : Int) := by
        simp [hi'] at hz
        exact hz.symm
      subst hz'
      simp only [peq]
      have hne : run b i a ≠ run b j a := by
        have := List.pairwise_iff_getElem.1 hn i j (by simpa using hi') (by simpa using hj') hi
        simpa using this
      have : ((run b i a : Nat) : Int) ≠ ((run b k a : Nat) : Int) := fun z => hne (by omega)
      simpa using this
  · rw [if_pos (by rw [decide_eq_false c]; rfl)]
    have hn1 : ((List.range (k + 1)).map fun i => run b i a).Nodup := by
      rw [List.range_succ, List.map_append, List.nodup_append]
      refine ⟨hn, by simp, fun x hx y hy => ?_⟩
      have : y = run b k a := by simpa using hy
      subst this
      exact fun z => c (z ▸ hx)
    have hk1 := pigeon 128 _ hn1 (fun x hx => by
      obtain ⟨i, _, e⟩ := List.mem_map.1 hx
      subst e
      exact run_lt h h1 i)
    rw [List.length_map, List.length_range] at hk1
    have sz : ∀ (f : Nat → PV), ((List.range k).map f).length < sizeLine := fun f => by
      rw [List.length_map, List.length_range]
      exact Nat.lt_of_lt_of_le (by omega : k < 1000) (by decide)
    have e1 : cbs a b (k + 1) = cbs a b k ++ [.int ((run b k a % 2 : Nat) : Int)] := by
      show (List.range (k + 1)).map _ = _
      rw [List.range_succ, List.map_append]
      rfl
    have e0 : rns a b (k + 1) = rns a b k ++ [.int ((run b k a : Nat) : Int)] := by
      show (List.range (k + 1)).map _ = _
      rw [List.range_succ, List.map_append]
      rfl
    have e2 := step_if b (run b k a)
    simp only [dSeq, dNext, dIf, dTst, dTru, dBin, dUn, dApp, dVar, dC, dAsg, dNm, dAug, dDrop, dRet, dRetN, dBrk, dCnt, dNever, dFrz, dPeek, dPeekB, dPar, dFor, dRng1, dRng2, dSeqI, dTupI, dNil, dCons, dTup, dLst, dAnd, dOr, dNot, dIfE, dAndV, dOrV, dNotV, dChain, dBits, dIndex, dOwn, nLst, nList, nRep, nCat, nLc, dApnd, dSetO, dIxO, onOwn, dSelfSet, dSelf, dCall, dMake, dMeth, dProp, dOrE, dSl, dNoP, dP, dEnum, dZip, dYes, dOrI,   gTru, gN1, gN2, rstart, istart, List.map_cons, List.map_nil, List.length_cons, List.length_nil, List.cons_append, List.nil_append, List.append_nil, List.replicate, List.getElem?_cons_zero, List.getElem?_cons_succ, List.set_cons_zero, List.set_cons_succ, Nat.sub_zero, Nat.reduceAdd, Nat.reduceSub, Nat.zero_add, if_true, Bool.false_eq_true, if_false, Int.zero_add, ite_ap, TT2, true_and, PV.int.injEq, exists_eq_left', List.cons.injEq, and_true, PV.ins.injEq, Option.some.injEq, gF, gOwn, gTruO, dGLst, dGTup, dGCons, dGNil, gLen, gII, gEq, ix]
    refine ⟨sz _, by decide, sz _, by decide, ⟨rfl, rfl⟩, ?_⟩
    have e3 : ((run b k a : Nat) : Int) % 2 = ((run b k a % 2 : Nat) : Int) := by omega
    simp only [e3]
    have e4 : peq (.int ((run b k a % 2 : Nat) : Int)) (.int 1) = decide (run b k a % 2 = 1) := by
      simp only [peq]
      rcases Nat.mod_two_eq_zero_or_one (run b k a) with h | h <;> rw [h] <;> rfl
    rw [e4]
    by_cases c2 : run b k a % 2 = 1
    · rw [if_pos c2] at e2
      rw [if_pos (by simpa using c2)]
      exact ⟨⟨by decide, by decide⟩, m - 1, by omega, k + 1, by omega, hn1, by rw [e0], by rw [e1], by rw [run_succ, ← e2]; rfl⟩
    · rw [if_neg c2] at e2
      rw [if_neg (by simpa using c2)]
      exact ⟨⟨by decide, by decide⟩, m - 1, by omega, k + 1, by omega, hn1, by rw [e0], by rw [e1], by rw [run_succ, ← e2]; rfl⟩
def D_far : DSp := fun vs Q E n => ∃ a b L back k : Nat, vs = [.lst [.lst (cbs a b L), .int back], .int k] ∧ back < L ∧ L ≤ 128 ∧ run b L a = run b back a ∧ Q (.int ((co a b k : Nat) : Int)) n
theorem D_far_mono : MonoSp D_far := fun vs Q Q' E E' n hq he ⟨a, b, L, back, k, e, h, h1, h2, q⟩ => ⟨a, b, L, back, k, e, h, h1, h2, hq _ _ q⟩
theorem run_cycle {a b L back : Nat} (hb : back < L) (h : run b L a = run b back a) (k : Nat) (hk : back ≤ k) : run b k a = run b (back + (k - back) % (L - back)) a := by
  induction k using Nat.strongRecOn with
  | ind k ih =>
    by_cases c : k < L
    · rw [Nat.mod_eq_of_lt (by omega), show back + (k - back) = k by omega]
    · have e : run b k a = run b (k - (L - back)) a := by
        have h1 : k = L + (k - L) := by omega
        have h2 : k - (L - back) = back + (k - L) := by omega
        rw [h2, run_add, ← h, ← run_add, ← h1]
      rw [e, ih (k - (L - back)) (by omega) (by omega)]
      have : (k - back) = (k - (L - back) - back) + (L - back) := by omega
      rw [this, Nat.add_mod_right]
theorem ok_l_far (T : Tx K mg) : FnD (pr T) P w K mg base 1 T.f_l_far T.d_l_far ["_law_walk", "_law_beat"] D_far := by
  refine fnD T.F_l_far sc_l_far D_far_mono (fun vs Q E n ⟨a, b, L, back, k, e, _⟩ => by subst e; rfl) (fun cdv A outer s H E W Ex hr dx vs Q h => ?_)
  obtain ⟨a, b, L, back, k, rfl, h, h1, h2, q⟩ := h
  refine ⟨_, (dss_cons (ds_asg (dv 0) (DGn.g (vs := [2, 3]) (dn_lst (n := 2) (dns_cons (dn_name 2 sc_l_far.nd) (dns_cons (dn_name 3 sc_l_far.nd) dns_nil)) (fun h => pg_lst dx.calm h))))
      (dss_cons (ds_if (dt_cmp dop_lt (dv 1) (de_callB dc_len T.z_len bt_len (da_cons (dv 2) da_nil)))
      (dss_cons (ds_ret (de_ix (dv 2) (dv 1)))
      dss_nil)
      dss_nil)
      (dss_cons (ds_ret (de_ix (dv 2) (de_bin dop_add (dv 3) (de_bin dop_mod (de_bin dop_sub (dv 1) (dv 3)) (de_bin dop_sub (de_callB dc_len T.z_len bt_len (da_cons (dv 2) da_nil)) (dv 3))))))
      dss_nil))), ?_⟩
  simp only [dSeq, dNext, dIf, dTst, dTru, dBin, dUn, dApp, dVar, dC, dAsg, dNm, dAug, dDrop, dRet, dRetN, dBrk, dCnt, dNever, dFrz, dPeek, dPeekB, dPar, dFor, dRng1, dRng2, dSeqI, dTupI, dNil, dCons, dTup, dLst, dAnd, dOr, dNot, dIfE, dAndV, dOrV, dNotV, dChain, dBits, dIndex, dOwn, nLst, nList, nRep, nCat, nLc, dApnd, dSetO, dIxO, onOwn, dSelfSet, dSelf, dCall, dMake, dMeth, dProp, dOrE, dSl, dNoP, dP, dEnum, dZip, dYes, dOrI,   gTru, gN1, gN2, rstart, istart, List.map_cons, List.map_nil, List.length_cons, List.length_nil, List.cons_append, List.nil_append, List.append_nil, List.replicate, List.getElem?_cons_zero, List.getElem?_cons_succ, List.set_cons_zero, List.set_cons_succ, Nat.sub_zero, Nat.reduceAdd, Nat.reduceSub, Nat.zero_add, if_true, Bool.false_eq_true, if_false, Int.zero_add, ite_ap, TT2, true_and, PV.int.injEq, exists_eq_left', List.cons.injEq, and_true, PV.ins.injEq, Option.some.injEq, gF, gOwn, gTruO, dGLst, dGTup, dGCons, dGNil, gLen, gII, gIx, gAdd]
  have hl : (cbs a b L).length = L := by rw [List.length_map, List.length_range]
  have at_ : ∀ i : Nat, i < L → L2.atI (cbs a b L) (i : Int) = some (.int ((co a b i : Nat) : Int)) := fun i hi => by
    unfold L2.atI
    rw [hl, ixn_nat hi]
    simp [hi]
  rw [hl]
  by_cases c : k < L
  · rw [if_pos (by simpa using c)]
    exact ⟨_, at_ k c, q⟩
  · rw [if_neg (by simpa using c)]
    have e1 : ((back : Int) + ((k : Int) - (back : Int)) % ((L : Int) - (back : Int))) = ((back + (k - back) % (L - back) : Nat) : Int) := by
      rw [show ((k : Int) - (back : Int)) = ((k - back : Nat) : Int) by omega, show ((L : Int) - (back : Int)) = ((L - back : Nat) : Int) by omega]
      push_cast
      rfl
    have e2 : (k - back) % (L - back) < L - back := Nat.mod_lt _ (by omega)
    refine ⟨by omega, _, ?_, q⟩
    rw [e1, at_ _ (by omega)]
    have := run_cycle h h2 k (by omega)
    unfold co
    rw [this]
def D_still : DSp := fun vs Q E n => ∃ a b m : Nat, vs = [rr a b, .int m] ∧ b % 2 = 1 ∧ bl a ≤ m ∧ bl b ≤ m + 1 ∧ bl a ≤ 1000 ∧ bl b ≤ 1000 ∧ Q (.bl true) n
theorem D_still_mono : MonoSp D_still := fun vs Q Q' E E' n hq he ⟨a, b, m, e, h, h1, h2, h3, h4, q⟩ => ⟨a, b, m, e, h, h1, h2, h3, h4, hq _ _ q⟩
theorem ok_l_still (T : Tx K mg) : FnD (pr T) P w K mg base 5 T.f_l_still T.d_l_still ["_law_ratio", "_law_beat"] D_still := by
  refine fnD T.F_l_still sc_l_still D_still_mono (fun vs Q E n ⟨a, b, m, e, _⟩ => by subst e; rfl) (fun cdv A outer s H E W Ex hr dx vs Q h => ?_)
  obtain ⟨a, b, m, rfl, h, h1, h2, h3, h4, q⟩ := h
  refine ⟨_, (dss_cons (ds_set 2 sc_l_still.nd de_int)
      (dss_cons (ds_for dx (di_range1 T.z_range (da_cons (de_bin dop_add (de_pr (c := 0) (de_f 1 1 (dv 0) ix_Ratio_below T.cl_Ratio T.na_Ratio_below) T.cl_Poly T.pr_Poly_degree (ok_Poly_degree T) (hr.mono (by decide)) T.b_Poly_degree) de_int) da_nil)) (dg_name 3 sc_l_still.nd)
      (dss_cons (ds_if (dt_cmp (dop_eq hr.units) (de_mt (c := 0) (de_f 1 1 (dv 0) ix_Ratio_below T.cl_Ratio T.na_Ratio_below) T.cl_Poly T.me_Poly_bit (ok_Poly_bit T) (hr.mono (by decide)) T.b_Poly_bit dx (da_cons (dv 3) da_nil) nf_Poly_bit) de_int)
      (dss_cons (ds_set 2 sc_l_still.nd (de_bin dop_add (dv 2) (de_mt (c := 1) (dv 0) T.cl_Ratio T.me_Ratio_bit (ok_Ratio_bit T) (hr.mono (by decide)) T.b_Ratio_bit dx (da_cons (de_bin dop_sub (dv 1) (dv 3)) da_nil) nf_Ratio_bit)))
      dss_nil)
      dss_nil)
      dss_nil))
      (dss_cons (ds_ret (de_cmp (dop_eq hr.units) (de_bin dop_mod (dv 2) de_int) de_int))
      dss_nil))), ?_⟩
  simp only [dSeq, dNext, dIf, dTst, dTru, dBin, dUn, dApp, dVar, dC, dAsg, dNm, dAug, dDrop, dRet, dRetN, dBrk, dCnt, dNever, dFrz, dPeek, dPeekB, dPar, dFor, dRng1, dRng2, dSeqI, dTupI, dNil, dCons, dTup, dLst, dAnd, dOr, dNot, dIfE, dAndV, dOrV, dNotV, dChain, dBits, dIndex, dOwn, nLst, nList, nRep, nCat, nLc, dApnd, dSetO, dIxO, onOwn, dSelfSet, dSelf, dCall, dMake, dMeth, dProp, dOrE, dSl, dNoP, dP, dEnum, dZip, dYes, dOrI,   gTru, gN1, gN2, rstart, istart, List.map_cons, List.map_nil, List.length_cons, List.length_nil, List.cons_append, List.nil_append, List.append_nil, List.replicate, List.getElem?_cons_zero, List.getElem?_cons_succ, List.set_cons_zero, List.set_cons_succ, Nat.sub_zero, Nat.reduceAdd, Nat.reduceSub, Nat.zero_add, if_true, Bool.false_eq_true, if_false, Int.zero_add, ite_ap, TT2, true_and, PV.int.injEq, exists_eq_left', List.cons.injEq, and_true, PV.ins.injEq, Option.some.injEq, gF, gOwn, gTruO, dGLst, dGTup, dGCons, dGNil, gLen]
  refine ⟨b, rfl, ?_⟩
  simp only [dSeq, dNext, dIf, dTst, dTru, dBin, dUn, dApp, dVar, dC, dAsg, dNm, dAug, dDrop, dRet, dRetN, dBrk, dCnt, dNever, dFrz, dPeek, dPeekB, dPar, dFor, dRng1, dRng2, dSeqI, dTupI, dNil, dCons, dTup, dLst, dAnd, dOr, dNot, dIfE, dAndV, dOrV, dNotV, dChain, dBits, dIndex, dOwn, nLst, nList, nRep, nCat, nLc, dApnd, dSetO, dIxO, onOwn, dSelfSet, dSelf, dCall, dMake, dMeth, dProp, dOrE, dSl, dNoP, dP, dEnum, dZip, dYes, dOrI,   gTru, gN1, gN2, rstart, istart, List.map_cons, List.map_nil, List.length_cons, List.length_nil, List.cons_append, List.nil_append, List.append_nil, List.replicate, List.getElem?_cons_zero, List.getElem?_cons_succ, List.set_cons_zero, List.set_cons_succ, Nat.sub_zero, Nat.reduceAdd, Nat.reduceSub, Nat.zero_add, if_true, Bool.false_eq_true, if_false, Int.zero_add, ite_ap, TT2, true_and, PV.int.injEq, exists_eq_left', List.cons.injEq, and_true, PV.ins.injEq, Option.some.injEq, gF, gOwn, gTruO, dGLst, dGTup, dGCons, dGNil, gLen, gAdd]
  have e1 : ((bl b : Int) - 1 + 1) = (bl b : Int) := by omega
  rw [e1]
  refine ⟨by omega, ?_⟩
  refine loop_rng (fun i ρ n' => n' = W.c ∧ ∃ s, ρ = [.fz (rr a b), .fz (.int m), .fz (.int (conv a b i m : Nat)), s]) ⟨rfl, .no, rfl⟩ ?_ ?_
  · rintro i ρ n Nx hi ⟨rfl, s, rfl⟩ k
    rw [Int.toNat_natCast] at hi
    simp only [dSeq, dNext, dIf, dTst, dTru, dBin, dUn, dApp, dVar, dC, dAsg, dNm, dAug, dDrop, dRet, dRetN, dBrk, dCnt, dNever, dFrz, dPeek, dPeekB, dPar, dFor, dRng1, dRng2, dSeqI, dTupI, dNil, dCons, dTup, dLst, dAnd, dOr, dNot, dIfE, dAndV, dOrV, dNotV, dChain, dBits, dIndex, dOwn, nLst, nList, nRep, nCat, nLc, dApnd, dSetO, dIxO, onOwn, dSelfSet, dSelf, dCall, dMake, dMeth, dProp, dOrE, dSl, dNoP, dP, dEnum, dZip, dYes, dOrI,   gTru, gN1, gN2, rstart, istart, List.map_cons, List.map_nil, List.length_cons, List.length_nil, List.cons_append, List.nil_append, List.append_nil, List.replicate, List.getElem?_cons_zero, List.getElem?_cons_succ, List.set_cons_zero, List.set_cons_succ, Nat.sub_zero, Nat.reduceAdd, Nat.reduceSub, Nat.zero_add, if_true, Bool.false_eq_true, if_false, Int.zero_add, ite_ap, TT2, true_and, PV.int.injEq, exists_eq_left', List.cons.injEq, and_true, PV.ins.injEq, Option.some.injEq, gF, gOwn, gTruO, dGLst, dGTup, dGCons, dGNil, gLen]
    refine ⟨b, i, rfl, ?_⟩
    simp only [dSeq, dNext, dIf, dTst, dTru, dBin, dUn, dApp, dVar, dC, dAsg, dNm, dAug, dDrop, dRet, dRetN, dBrk, dCnt, dNever, dFrz, dPeek, dPeekB, dPar, dFor, dRng1, dRng2, dSeqI, dTupI, dNil, dCons, dTup, dLst, dAnd, dOr, dNot, dIfE, dAndV, dOrV, dNotV, dChain, dBits, dIndex, dOwn, nLst, nList, nRep, nCat, nLc, dApnd, dSetO, dIxO, onOwn, dSelfSet, dSelf, dCall, dMake, dMeth, dProp, dOrE, dSl, dNoP, dP, dEnum, dZip, dYes, dOrI,   gTru, gN1, gN2, rstart, istart, List.map_cons, List.map_nil, List.length_cons, List.length_nil, List.cons_append, List.nil_append, List.append_nil, List.replicate, List.getElem?_cons_zero, List.getElem?_cons_succ, List.set_cons_zero, List.set_cons_succ, Nat.sub_zero, Nat.reduceAdd, Nat.reduceSub, Nat.zero_add, if_true, Bool.false_eq_true, if_false, Int.zero_add, ite_ap, TT2, true_and, PV.int.injEq, exists_eq_left', List.cons.injEq, and_true, PV.ins.injEq, Option.some.injEq, gF, gOwn, gTruO, dGLst, dGTup, dGCons, dGNil, gLen, gEq, gII]
    refine ⟨⟨rfl, rfl⟩, ?_⟩
    have e4 : peq (.int ((if b.testBit i then 1 else 0 : Nat) : Int)) (.int 1) = b.testBit i := by
      simp only [peq]
      cases b.testBit i <;> rfl
    rw [e4]
    by_cases c : b.testBit i = true
    · rw [if_pos c]
      have e6 : ((m : Int) - (i : Int)) = ((m - i : Nat) : Int) := by omega
      rw [e6]
      refine ⟨a, b, m - i, rfl, h, by omega, by omega, ?_⟩
      simp only [dSeq, dNext, dIf, dTst, dTru, dBin, dUn, dApp, dVar, dC, dAsg, dNm, dAug, dDrop, dRet, dRetN, dBrk, dCnt, dNever, dFrz, dPeek, dPeekB, dPar, dFor, dRng1, dRng2, dSeqI, dTupI, dNil, dCons, dTup, dLst, dAnd, dOr, dNot, dIfE, dAndV, dOrV, dNotV, dChain, dBits, dIndex, dOwn, nLst, nList, nRep, nCat, nLc, dApnd, dSetO, dIxO, onOwn, dSelfSet, dSelf, dCall, dMake, dMeth, dProp, dOrE, dSl, dNoP, dP, dEnum, dZip, dYes, dOrI,   gTru, gN1, gN2, rstart, istart, List.map_cons, List.map_nil, List.length_cons, List.length_nil, List.cons_append, List.nil_append, List.append_nil, List.replicate, List.getElem?_cons_zero, List.getElem?_cons_succ, List.set_cons_zero, List.set_cons_succ, Nat.sub_zero, Nat.reduceAdd, Nat.reduceSub, Nat.zero_add, if_true, Bool.false_eq_true, if_false, Int.zero_add, ite_ap, TT2, true_and, PV.int.injEq, exists_eq_left', List.cons.injEq, and_true, PV.ins.injEq, Option.some.injEq, gF, gOwn, gTruO, dGLst, dGTup, dGCons, dGNil, gLen, gAdd]
      refine k _ _ ⟨rfl, .fz (.int i), ?_⟩
      simp only [conv]
      rw [if_pos c]
      push_cast
      rfl
    · rw [if_neg c]
      refine k _ _ ⟨rfl, .fz (.int i), ?_⟩
      simp only [conv]
      rw [if_neg c, Nat.add_zero]
  · rintro ρ n ⟨rfl, s, rfl⟩
    simp only [dSeq, dNext, dIf, dTst, dTru, dBin, dUn, dApp, dVar, dC, dAsg, dNm, dAug, dDrop, dRet, dRetN, dBrk, dCnt, dNever, dFrz, dPeek, dPeekB, dPar, dFor, dRng1, dRng2, dSeqI, dTupI, dNil, dCons, dTup, dLst, dAnd, dOr, dNot, dIfE, dAndV, dOrV, dNotV, dChain, dBits, dIndex, dOwn, nLst, nList, nRep, nCat, nLc, dApnd, dSetO, dIxO, onOwn, dSelfSet, dSelf, dCall, dMake, dMeth, dProp, dOrE, dSl, dNoP, dP, dEnum, dZip, dYes, dOrI,   gTru, gN1, gN2, rstart, istart, List.map_cons, List.map_nil, List.length_cons, List.length_nil, List.cons_append, List.nil_append, List.append_nil, List.replicate, List.getElem?_cons_zero, List.getElem?_cons_succ, List.set_cons_zero, List.set_cons_succ, Nat.sub_zero, Nat.reduceAdd, Nat.reduceSub, Nat.zero_add, if_true, Bool.false_eq_true, if_false, Int.zero_add, ite_ap, TT2, true_and, PV.int.injEq, exists_eq_left', List.cons.injEq, and_true, PV.ins.injEq, Option.some.injEq, gF, gOwn, gTruO, dGLst, dGTup, dGCons, dGNil, gLen, gII, gEq, Int.toNat_natCast]
    refine ⟨by decide, ⟨rfl, rfl⟩, ?_⟩
    have := conv_none h h1 h2
    have e5 : peq (.int ((conv a b (bl b) m : Nat) % 2 : Int)) (.int 0) = true := by
      simp only [peq]
      have : ((conv a b (bl b) m : Nat) % 2 : Int) = 0 := by omega
      rw [this]; rfl
    rw [e5]
    exact q
end
end K09

set_option maxRecDepth 100000
set_option maxHeartbeats 4000000
namespace K09
open PySem L2 DL GF
theorem mul_small {i j : Int} (hi : Builtin.Int.intBits i ≤ 1000000) (hj : Builtin.Int.intBits j ≤ 1000000) : CMulX i j := by
  show ((Builtin.Int.intBits i : Nat) : Int) + ((Builtin.Int.intBits j : Nat) : Int) ≤ 134217728
  omega
theorem bl_two_pow (k : Nat) : bl (2 ^ k) ≤ k + 1 := bl_le (by rw [Nat.pow_succ]; have := Nat.two_pow_pos k; omega)
/-- z to the n times c / d -/
theorem z_times {k u v c d p q : Nat} (hd : d % 2 = 1) (h1 : Red (2 ^ k) 1 u v) (h2 : Red (cm u c) (cm v d) p q) (n : Nat) : co p q n = co (2 ^ k * c) d n := by
  have hv : v % 2 = 1 := h1.odd rfl
  have hvd : (cm v d) % 2 = 1 := by rw [cm_mod2, hv, hd]
  rw [h2.co hvd]
  have e : u = cm (2 ^ k) v := by have := h1.cross; rwa [cm_one] at this
  refine co_cross hvd hd ?_ n
  rw [Nat.mul_comm, ← cm_pow, e, cm_comm c (2 ^ k), cm_assoc, cm_assoc, cm_assoc, cm_comm v (cm c d), cm_assoc, cm_comm d v]
theorem ibl {y k : Nat} (h : y < 2 ^ k) (hk : k ≤ 1000000) : Builtin.Int.intBits (y : Int) ≤ 1000000 := by
  rw [ib]; have := bl_le h; omega
section
variable {P : Program} {w : World} {K : PySem.W.Frag} {mg : Str → Option Value} {base : Heap}
theorem ok_law (T : Tx K mg) : FnD (pr T) P w K mg base 7 T.f_law T.d_law ["_law_script"] D_law := by
  refine fnD T.F_law sc_law D_law_mono (fun vs Q E n ⟨ns, e, _⟩ => by subst e; rfl) (fun cdv A outer s H E W Ex hr dx vs Q h => ?_)
  obtain ⟨ns, rfl, hl, hc0, q⟩ := h
  refine ⟨_, (dss_cons (ds_set 1 sc_law.nd (de_fn (ok_l_start T) (hr.mono (by decide)) T.m_l_start T.F_l_start.kp T.b_l_start dx (da_cons (dv 0) da_nil)))
      (dss_cons (ds_set 2 sc_law.nd (de_fn (ok_l_draw T) (hr.mono (by decide)) T.m_l_draw T.F_l_draw.kp T.b_l_draw dx (da_cons (dv 1) (da_cons de_int da_nil))))
      (dss_cons (ds_set 3 sc_law.nd (de_bin dop_add (de_bin dop_mul de_int (de_fn (ok_l_draw T) (hr.mono (by decide)) T.m_l_draw T.F_l_draw.kp T.b_l_draw dx (da_cons (dv 1) (da_cons de_int da_nil)))) de_int))
      (dss_cons (ds_set 4 sc_law.nd (de_mkD (dvs := []) (dps := []) (ok_Ratio___init__ T) T.mk_Ratio (hr.mono (by decide)) T.m_Ratio T.bd0_Ratio___init__ dx (da_cons (de_mkD (dvs := []) (dps := []) (ok_Poly___init__ T) T.mk_Poly (hr.mono (by decide)) T.m_Poly T.bd0_Poly___init__ dx (da_cons (dv 2) da_nil) no_dps) (da_cons (de_mkD (dvs := []) (dps := []) (ok_Poly___init__ T) T.mk_Poly (hr.mono (by decide)) T.m_Poly T.bd0_Poly___init__ dx (da_cons (dv 3) da_nil) no_dps) da_nil)) no_dps))
      (dss_cons (ds_set 5 sc_law.nd (de_fn (ok_l_cycle T) (hr.mono (by decide)) T.m_l_cycle T.F_l_cycle.kp T.b_l_cycle dx (da_cons (dv 2) (da_cons (dv 3) da_nil))))
      (dss_cons (ds_set 6 sc_law.nd (de_mkD (dvs := []) (dps := []) (ok_Ratio___init__ T) T.mk_Ratio (hr.mono (by decide)) T.m_Ratio T.bd0_Ratio___init__ dx (da_cons (de_mkD (dvs := []) (dps := []) (ok_Poly___init__ T) T.mk_Poly (hr.mono (by decide)) T.m_Poly T.bd0_Poly___init__ dx (da_cons (de_fn (ok_l_draw T) (hr.mono (by decide)) T.m_l_draw T.F_l_draw.kp T.b_l_draw dx (da_cons (dv 1) (da_cons (de_bin dop_pow de_int de_int) da_nil))) da_nil) no_dps) (da_cons (de_mkD (dvs := []) (dps := []) (ok_Poly___init__ T) T.mk_Poly (hr.mono (by decide)) T.m_Poly T.bd0_Poly___init__ dx (da_cons (de_bin dop_add (de_bin dop_mul de_int (de_fn (ok_l_draw T) (hr.mono (by decide)) T.m_l_draw T.F_l_draw.kp T.b_l_draw dx (da_cons (dv 1) (da_cons (de_bin dop_pow de_int de_int) da_nil)))) de_int) da_nil) no_dps) da_nil)) no_dps))
      (dss_cons (ds_set 7 sc_law.nd (de_bin (dop_own (c := 1) (ok_Ratio___add__ T) (hr.mono (by decide)) T.b_Ratio___add__ T.ow_Ratio___add__ T.sf_Ratio) (dv 4) (dv 6)))
      (dss_cons (ds_set 8 sc_law.nd (de_mkD (dvs := []) (dps := []) (ok_Ratio___init__ T) T.mk_Ratio (hr.mono (by decide)) T.m_Ratio T.bd0_Ratio___init__ dx (da_cons (de_mkD (dvs := []) (dps := []) (ok_Poly___init__ T) T.mk_Poly (hr.mono (by decide)) T.m_Poly T.bd0_Poly___init__ dx (da_cons (de_fn (ok_l_draw T) (hr.mono (by decide)) T.m_l_draw T.F_l_draw.kp T.b_l_draw dx (da_cons (dv 1) (da_cons de_int da_nil))) da_nil) no_dps) (da_cons (de_mkD (dvs := []) (dps := []) (ok_Poly___init__ T) T.mk_Poly (hr.mono (by decide)) T.m_Poly T.bd0_Poly___init__ dx (da_cons (de_bin dop_add (de_bin dop_mul de_int (de_fn (ok_l_draw T) (hr.mono (by decide)) T.m_l_draw T.F_l_draw.kp T.b_l_draw dx (da_cons (dv 1) (da_cons (de_bin dop_pow de_int de_int) da_nil)))) de_int) da_nil) no_dps) da_nil)) no_dps))
      (dss_cons (ds_for dx (di_list (de_slice (dv 0) dp_none (dp_some de_int))) (dg_name 9 sc_law.nd)
      (dss_cons (ds_set 10 sc_law.nd (de_fn (ok_l_draw T) (hr.mono (by decide)) T.m_l_draw T.F_l_draw.kp T.b_l_draw dx (da_cons (dv 1) (da_cons (de_ix (de_lst (da_cons de_int (da_cons (de_bin dop_pow de_int de_int) (da_cons (de_bin dop_pow de_int de_int) da_nil)))) (de_fn (ok_l_draw T) (hr.mono (by decide)) T.m_l_draw T.F_l_draw.kp T.b_l_draw dx (da_cons (dv 1) (da_cons de_int da_nil)))) da_nil))))
      (dss_cons (ds_if (dt_cmp (dop_ne hr.units) (de_mt (c := 1) (dv 4) T.cl_Ratio T.me_Ratio_bit (ok_Ratio_bit T) (hr.mono (by decide)) T.b_Ratio_bit dx (da_cons (dv 10) da_nil) nf_Ratio_bit) (de_fn (ok_l_far T) (hr.mono (by decide)) T.m_l_far T.F_l_far.kp T.b_l_far dx (da_cons (dv 5) (da_cons (dv 10) da_nil))))
      (dss_cons (ds_ret de_bl)
      dss_nil)
      dss_nil)
      (dss_cons (ds_if (dt_cmp (dop_ne hr.units) (de_mt (c := 1) (dv 7) T.cl_Ratio T.me_Ratio_bit (ok_Ratio_bit T) (hr.mono (by decide)) T.b_Ratio_bit dx (da_cons (dv 10) da_nil) nf_Ratio_bit) (de_bin dop_mod (de_bin dop_add (de_mt (c := 1) (dv 4) T.cl_Ratio T.me_Ratio_bit (ok_Ratio_bit T) (hr.mono (by decide)) T.b_Ratio_bit dx (da_cons (dv 10) da_nil) nf_Ratio_bit) (de_mt (c := 1) (dv 6) T.cl_Ratio T.me_Ratio_bit (ok_Ratio_bit T) (hr.mono (by decide)) T.b_Ratio_bit dx (da_cons (dv 10) da_nil) nf_Ratio_bit)) de_int))
      (dss_cons (ds_ret de_bl)
      dss_nil)
      dss_nil)
      (dss_cons (ds_set 11 sc_law.nd (de_fn (ok_l_draw T) (hr.mono (by decide)) T.m_l_draw T.F_l_draw.kp T.b_l_draw dx (da_cons (dv 1) (da_cons de_int da_nil))))
      (dss_cons (ds_if (DW.pt (dw_or (dt_cmp (dop_ne hr.units) (de_mt (c := 1) (de_bin (dop_own (c := 1) (ok_Ratio___mul__ T) (hr.mono (by decide)) T.b_Ratio___mul__ T.ow_Ratio___mul__ T.sf_Ratio) (de_sm T.sm_Ratio_z T.m_Ratio (ok_Ratio_z T) (hr.mono (by decide)) T.b_Ratio_z dx (da_cons (dv 11) da_nil)) (dv 6)) T.cl_Ratio T.me_Ratio_bit (ok_Ratio_bit T) (hr.mono (by decide)) T.b_Ratio_bit dx (da_cons (de_bin dop_add (dv 10) (dv 11)) da_nil) nf_Ratio_bit) (de_mt (c := 1) (dv 6) T.cl_Ratio T.me_Ratio_bit (ok_Ratio_bit T) (hr.mono (by decide)) T.b_Ratio_bit dx (da_cons (dv 10) da_nil) nf_Ratio_bit)) (dw_or1 (dt_cmp (dop_ne hr.units) (de_mt (c := 1) (de_bin (dop_own (c := 1) (ok_Ratio___mul__ T) (hr.mono (by decide)) T.b_Ratio___mul__ T.ow_Ratio___mul__ T.sf_Ratio) (de_sm T.sm_Ratio_z T.m_Ratio (ok_Ratio_z T) (hr.mono (by decide)) T.b_Ratio_z dx (da_cons (de_bin dop_add (dv 11) de_int) da_nil)) (dv 6)) T.cl_Ratio T.me_Ratio_bit (ok_Ratio_bit T) (hr.mono (by decide)) T.b_Ratio_bit dx (da_cons (dv 11) da_nil) nf_Ratio_bit) de_int))))
      (dss_cons (ds_ret de_bl)
      dss_nil)
      dss_nil)
      (dss_cons (ds_if (DW.pt (dw_or (dt_not (dt_truth dtru (de_fn (ok_l_still T) (hr.mono (by decide)) T.m_l_still T.F_l_still.kp T.b_l_still dx (da_cons (dv 4) (da_cons (de_bin dop_add (dv 10) de_int) da_nil))))) (dw_or1 (dt_not (dt_truth dtru (de_fn (ok_l_still T) (hr.mono (by decide)) T.m_l_still T.F_l_still.kp T.b_l_still dx (da_cons (dv 8) (da_cons (de_bin dop_add (dv 10) de_int) da_nil))))))))
      (dss_cons (ds_ret de_bl)
      dss_nil)
      dss_nil)
      dss_nil)))))))
      (dss_cons (ds_ret (de_cmp (dop_eq hr.units) (de_mt (c := 1) (dv 4) T.cl_Ratio T.me_Ratio_bits (ok_Ratio_bits T) (hr.mono (by decide)) T.b_Ratio_bits dx (da_cons de_int da_nil) nf_Ratio_bits) (de_callT dc_tuple T.z_tuple bt_tuple (da_cons (dn_comp (own := [("_law_beat", 10)]) s dx sc_law.nd (di_range1 T.z_range (da_cons de_int da_nil)) (blkOk_by (N := N_law) (sc := defScope s_law) (by decide +kernel)) (fun s H C cl fp dx => ⟨(dn_name 10 sc_law.nd), dcs_nil, (de_fn (ok_l_far T) (hr.mono (by decide)) T.m_l_far T.F_l_far.kp T.b_l_far dx (da_cons (dv 5) (da_cons (dv 10) da_nil)))⟩)).de da_nil))))
      dss_nil)))))))))), ?_⟩
  simp only [dSeq, dNext, dIf, dTst, dTru, dBin, dUn, dApp, dVar, dC, dAsg, dNm, dAug, dDrop, dRet, dRetN, dBrk, dCnt, dNever, dFrz, dPeek, dPeekB, dPar, dFor, dRng1, dRng2, dSeqI, dTupI, dNil, dCons, dTup, dLst, dAnd, dOr, dNot, dIfE, dAndV, dOrV, dNotV, dChain, dBits, dIndex, dOwn, nLst, nList, nRep, nCat, nLc, dApnd, dSetO, dIxO, onOwn, dSelfSet, dSelf, dCall, dMake, dMeth, dProp, dOrE, dSl, dNoP, dP, dEnum, dZip, dYes, dOrI,   gTru, gN1, gN2, rstart, istart, List.map_cons, List.map_nil, List.length_cons, List.length_nil, List.cons_append, List.nil_append, List.append_nil, List.replicate, List.getElem?_cons_zero, List.getElem?_cons_succ, List.set_cons_zero, List.set_cons_succ, Nat.sub_zero, Nat.reduceAdd, Nat.reduceSub, Nat.zero_add, if_true, Bool.false_eq_true, if_false, Int.zero_add, ite_ap, TT2, true_and, PV.int.injEq, exists_eq_left', List.cons.injEq, and_true, PV.ins.injEq, Option.some.injEq, gF, gOwn, gTruO, dGLst, dGTup, dGCons, dGNil, gLen]
  refine ⟨ns, rfl, by omega, ?_⟩
  simp only [dSeq, dNext, dIf, dTst, dTru, dBin, dUn, dApp, dVar, dC, dAsg, dNm, dAug, dDrop, dRet, dRetN, dBrk, dCnt, dNever, dFrz, dPeek, dPeekB, dPar, dFor, dRng1, dRng2, dSeqI, dTupI, dNil, dCons, dTup, dLst, dAnd, dOr, dNot, dIfE, dAndV, dOrV, dNotV, dChain, dBits, dIndex, dOwn, nLst, nList, nRep, nCat, nLc, dApnd, dSetO, dIxO, onOwn, dSelfSet, dSelf, dCall, dMake, dMeth, dProp, dOrE, dSl, dNoP, dP, dEnum, dZip, dYes, dOrI,   gTru, gN1, gN2, rstart, istart, List.map_cons, List.map_nil, List.length_cons, List.length_nil, List.cons_append, List.nil_append, List.append_nil, List.replicate, List.getElem?_cons_zero, List.getElem?_cons_succ, List.set_cons_zero, List.set_cons_succ, Nat.sub_zero, Nat.reduceAdd, Nat.reduceSub, Nat.zero_add, if_true, Bool.false_eq_true, if_false, Int.zero_add, ite_ap, TT2, true_and, PV.int.injEq, exists_eq_left', List.cons.injEq, and_true, PV.ins.injEq, Option.some.injEq, gF, gOwn, gTruO, dGLst, dGTup, dGCons, dGNil, gLen]
  refine ⟨128, rfl, by decide, by decide +kernel, by omega, fun A hA => ?_⟩
  simp only [dSeq, dNext, dIf, dTst, dTru, dBin, dUn, dApp, dVar, dC, dAsg, dNm, dAug, dDrop, dRet, dRetN, dBrk, dCnt, dNever, dFrz, dPeek, dPeekB, dPar, dFor, dRng1, dRng2, dSeqI, dTupI, dNil, dCons, dTup, dLst, dAnd, dOr, dNot, dIfE, dAndV, dOrV, dNotV, dChain, dBits, dIndex, dOwn, nLst, nList, nRep, nCat, nLc, dApnd, dSetO, dIxO, onOwn, dSelfSet, dSelf, dCall, dMake, dMeth, dProp, dOrE, dSl, dNoP, dP, dEnum, dZip, dYes, dOrI,   gTru, gN1, gN2, rstart, istart, List.map_cons, List.map_nil, List.length_cons, List.length_nil, List.cons_append, List.nil_append, List.append_nil, List.replicate, List.getElem?_cons_zero, List.getElem?_cons_succ, List.set_cons_zero, List.set_cons_succ, Nat.sub_zero, Nat.reduceAdd, Nat.reduceSub, Nat.zero_add, if_true, Bool.false_eq_true, if_false, Int.zero_add, ite_ap, TT2, true_and, PV.int.injEq, exists_eq_left', List.cons.injEq, and_true, PV.ins.injEq, Option.some.injEq, gF, gOwn, gTruO, dGLst, dGTup, dGCons, dGNil, gLen]
  refine ⟨64, rfl, by decide, by decide +kernel, by omega, fun y hy => ?_⟩
  simp only [dSeq, dNext, dIf, dTst, dTru, dBin, dUn, dApp, dVar, dC, dAsg, dNm, dAug, dDrop, dRet, dRetN, dBrk, dCnt, dNever, dFrz, dPeek, dPeekB, dPar, dFor, dRng1, dRng2, dSeqI, dTupI, dNil, dCons, dTup, dLst, dAnd, dOr, dNot, dIfE, dAndV, dOrV, dNotV, dChain, dBits, dIndex, dOwn, nLst, nList, nRep, nCat, nLc, dApnd, dSetO, dIxO, onOwn, dSelfSet, dSelf, dCall, dMake, dMeth, dProp, dOrE, dSl, dNoP, dP, dEnum, dZip, dYes, dOrI,   gTru, gN1, gN2, rstart, istart, List.map_cons, List.map_nil, List.length_cons, List.length_nil, List.cons_append, List.nil_append, List.append_nil, List.replicate, List.getElem?_cons_zero, List.getElem?_cons_succ, List.set_cons_zero, List.set_cons_succ, Nat.sub_zero, Nat.reduceAdd, Nat.reduceSub, Nat.zero_add, if_true, Bool.false_eq_true, if_false, Int.zero_add, ite_ap, TT2, true_and, PV.int.injEq, exists_eq_left', List.cons.injEq, and_true, PV.ins.injEq, Option.some.injEq, gF, gOwn, gTruO, dGLst, dGTup, dGCons, dGNil, gLen, gMul, gAdd]
  obtain ⟨B, hB, hB1, hB2⟩ : ∃ B : Nat, ((2 : Int) * (y : Int) + 1) = (B : Int) ∧ B < 128 ∧ B % 2 = 1 := ⟨2 * y + 1, by omega, by omega, by omega⟩
  simp only [hB]
  refine ⟨mul_small (by decide +kernel) (ibl (k := 6) (by omega) (by decide)), A, rfl, ?_⟩
  simp only [dSeq, dNext, dIf, dTst, dTru, dBin, dUn, dApp, dVar, dC, dAsg, dNm, dAug, dDrop, dRet, dRetN, dBrk, dCnt, dNever, dFrz, dPeek, dPeekB, dPar, dFor, dRng1, dRng2, dSeqI, dTupI, dNil, dCons, dTup, dLst, dAnd, dOr, dNot, dIfE, dAndV, dOrV, dNotV, dChain, dBits, dIndex, dOwn, nLst, nList, nRep, nCat, nLc, dApnd, dSetO, dIxO, onOwn, dSelfSet, dSelf, dCall, dMake, dMeth, dProp, dOrE, dSl, dNoP, dP, dEnum, dZip, dYes, dOrI,   gTru, gN1, gN2, rstart, istart, List.map_cons, List.map_nil, List.length_cons, List.length_nil, List.cons_append, List.nil_append, List.append_nil, List.replicate, List.getElem?_cons_zero, List.getElem?_cons_succ, List.set_cons_zero, List.set_cons_succ, Nat.sub_zero, Nat.reduceAdd, Nat.reduceSub, Nat.zero_add, if_true, Bool.false_eq_true, if_false, Int.zero_add, ite_ap, TT2, true_and, PV.int.injEq, exists_eq_left', List.cons.injEq, and_true, PV.ins.injEq, Option.some.injEq, gF, gOwn, gTruO, dGLst, dGTup, dGCons, dGNil, gLen]
  refine ⟨B, rfl, ?_⟩
  have bA : bl A ≤ 7 := bl_le (by omega)
  have bB : bl B ≤ 7 := bl_le (by omega)
  refine ⟨A, B, _, rfl, .inl rfl, by omega, by omega, by omega, fun a b hR => ?_⟩
  have ba := hR.bl_l
  have bb := hR.bl_r
  have hb := hR.odd hB2
  simp only [dSeq, dNext, dIf, dTst, dTru, dBin, dUn, dApp, dVar, dC, dAsg, dNm, dAug, dDrop, dRet, dRetN, dBrk, dCnt, dNever, dFrz, dPeek, dPeekB, dPar, dFor, dRng1, dRng2, dSeqI, dTupI, dNil, dCons, dTup, dLst, dAnd, dOr, dNot, dIfE, dAndV, dOrV, dNotV, dChain, dBits, dIndex, dOwn, nLst, nList, nRep, nCat, nLc, dApnd, dSetO, dIxO, onOwn, dSelfSet, dSelf, dCall, dMake, dMeth, dProp, dOrE, dSl, dNoP, dP, dEnum, dZip, dYes, dOrI,   gTru, gN1, gN2, rstart, istart, List.map_cons, List.map_nil, List.length_cons, List.length_nil, List.cons_append, List.nil_append, List.append_nil, List.replicate, List.getElem?_cons_zero, List.getElem?_cons_succ, List.set_cons_zero, List.set_cons_succ, Nat.sub_zero, Nat.reduceAdd, Nat.reduceSub, Nat.zero_add, if_true, Bool.false_eq_true, if_false, Int.zero_add, ite_ap, TT2, true_and, PV.int.injEq, exists_eq_left', List.cons.injEq, and_true, PV.ins.injEq, Option.some.injEq, gF, gOwn, gTruO, dGLst, dGTup, dGCons, dGNil, gLen]
  refine ⟨A, B, rfl, by omega, by omega, fun L back g1 g2 g3 => ?_⟩
  simp only [dSeq, dNext, dIf, dTst, dTru, dBin, dUn, dApp, dVar, dC, dAsg, dNm, dAug, dDrop, dRet, dRetN, dBrk, dCnt, dNever, dFrz, dPeek, dPeekB, dPar, dFor, dRng1, dRng2, dSeqI, dTupI, dNil, dCons, dTup, dLst, dAnd, dOr, dNot, dIfE, dAndV, dOrV, dNotV, dChain, dBits, dIndex, dOwn, nLst, nList, nRep, nCat, nLc, dApnd, dSetO, dIxO, onOwn, dSelfSet, dSelf, dCall, dMake, dMeth, dProp, dOrE, dSl, dNoP, dP, dEnum, dZip, dYes, dOrI,   gTru, gN1, gN2, rstart, istart, List.map_cons, List.map_nil, List.length_cons, List.length_nil, List.cons_append, List.nil_append, List.append_nil, List.replicate, List.getElem?_cons_zero, List.getElem?_cons_succ, List.set_cons_zero, List.set_cons_succ, Nat.sub_zero, Nat.reduceAdd, Nat.reduceSub, Nat.zero_add, if_true, Bool.false_eq_true, if_false, Int.zero_add, ite_ap, TT2, true_and, PV.int.injEq, exists_eq_left', List.cons.injEq, and_true, PV.ins.injEq, Option.some.injEq, gF, gOwn, gTruO, dGLst, dGTup, dGCons, dGNil, gLen, gII]
  refine ⟨⟨by decide, by decide, by decide⟩, 2 ^ Int.toNat 40, rfl, by decide, by decide +kernel, by omega, fun C hC => ?_⟩
  simp only [dSeq, dNext, dIf, dTst, dTru, dBin, dUn, dApp, dVar, dC, dAsg, dNm, dAug, dDrop, dRet, dRetN, dBrk, dCnt, dNever, dFrz, dPeek, dPeekB, dPar, dFor, dRng1, dRng2, dSeqI, dTupI, dNil, dCons, dTup, dLst, dAnd, dOr, dNot, dIfE, dAndV, dOrV, dNotV, dChain, dBits, dIndex, dOwn, nLst, nList, nRep, nCat, nLc, dApnd, dSetO, dIxO, onOwn, dSelfSet, dSelf, dCall, dMake, dMeth, dProp, dOrE, dSl, dNoP, dP, dEnum, dZip, dYes, dOrI,   gTru, gN1, gN2, rstart, istart, List.map_cons, List.map_nil, List.length_cons, List.length_nil, List.cons_append, List.nil_append, List.append_nil, List.replicate, List.getElem?_cons_zero, List.getElem?_cons_succ, List.set_cons_zero, List.set_cons_succ, Nat.sub_zero, Nat.reduceAdd, Nat.reduceSub, Nat.zero_add, if_true, Bool.false_eq_true, if_false, Int.zero_add, ite_ap, TT2, true_and, PV.int.injEq, exists_eq_left', List.cons.injEq, and_true, PV.ins.injEq, Option.some.injEq, gF, gOwn, gTruO, dGLst, dGTup, dGCons, dGNil, gLen]
  refine ⟨C, rfl, ?_⟩
  simp only [dSeq, dNext, dIf, dTst, dTru, dBin, dUn, dApp, dVar, dC, dAsg, dNm, dAug, dDrop, dRet, dRetN, dBrk, dCnt, dNever, dFrz, dPeek, dPeekB, dPar, dFor, dRng1, dRng2, dSeqI, dTupI, dNil, dCons, dTup, dLst, dAnd, dOr, dNot, dIfE, dAndV, dOrV, dNotV, dChain, dBits, dIndex, dOwn, nLst, nList, nRep, nCat, nLc, dApnd, dSetO, dIxO, onOwn, dSelfSet, dSelf, dCall, dMake, dMeth, dProp, dOrE, dSl, dNoP, dP, dEnum, dZip, dYes, dOrI,   gTru, gN1, gN2, rstart, istart, List.map_cons, List.map_nil, List.length_cons, List.length_nil, List.cons_append, List.nil_append, List.append_nil, List.replicate, List.getElem?_cons_zero, List.getElem?_cons_succ, List.set_cons_zero, List.set_cons_succ, Nat.sub_zero, Nat.reduceAdd, Nat.reduceSub, Nat.zero_add, if_true, Bool.false_eq_true, if_false, Int.zero_add, ite_ap, TT2, true_and, PV.int.injEq, exists_eq_left', List.cons.injEq, and_true, PV.ins.injEq, Option.some.injEq, gF, gOwn, gTruO, dGLst, dGTup, dGCons, dGNil, gLen, gII]
  refine ⟨⟨by decide, by decide, by decide⟩, 2 ^ Int.toNat 59, rfl, by decide, by decide +kernel, by omega, fun y2 hy2 => ?_⟩
  have hC' : C < 2 ^ 40 := by
    have : (C : Int) < 2 ^ 40 := hC
    omega
  have hy2' : y2 < 2 ^ 59 := by
    have : (y2 : Int) < 2 ^ 59 := hy2
    omega
  simp only [dSeq, dNext, dIf, dTst, dTru, dBin, dUn, dApp, dVar, dC, dAsg, dNm, dAug, dDrop, dRet, dRetN, dBrk, dCnt, dNever, dFrz, dPeek, dPeekB, dPar, dFor, dRng1, dRng2, dSeqI, dTupI, dNil, dCons, dTup, dLst, dAnd, dOr, dNot, dIfE, dAndV, dOrV, dNotV, dChain, dBits, dIndex, dOwn, nLst, nList, nRep, nCat, nLc, dApnd, dSetO, dIxO, onOwn, dSelfSet, dSelf, dCall, dMake, dMeth, dProp, dOrE, dSl, dNoP, dP, dEnum, dZip, dYes, dOrI,   gTru, gN1, gN2, rstart, istart, List.map_cons, List.map_nil, List.length_cons, List.length_nil, List.cons_append, List.nil_append, List.append_nil, List.replicate, List.getElem?_cons_zero, List.getElem?_cons_succ, List.set_cons_zero, List.set_cons_succ, Nat.sub_zero, Nat.reduceAdd, Nat.reduceSub, Nat.zero_add, if_true, Bool.false_eq_true, if_false, Int.zero_add, ite_ap, TT2, true_and, PV.int.injEq, exists_eq_left', List.cons.injEq, and_true, PV.ins.injEq, Option.some.injEq, gF, gOwn, gTruO, dGLst, dGTup, dGCons, dGNil, gLen, gMul, gAdd]
  obtain ⟨F, hF, hF1, hF2⟩ : ∃ F : Nat, ((2 : Int) * (y2 : Int) + 1) = (F : Int) ∧ F < 2 ^ 60 ∧ F % 2 = 1 := ⟨2 * y2 + 1, by omega, by omega, by omega⟩
  simp only [hF]
  have bC : bl C ≤ 40 := bl_le hC'
  have bF : bl F ≤ 60 := bl_le hF1
  refine ⟨mul_small (by decide +kernel) (ibl (k := 59) hy2' (by decide)), F, rfl, C, F, _, rfl, .inl rfl, by omega, by omega, by omega, fun c d hR2 => ?_⟩
  have bc := hR2.bl_l
  have bd := hR2.bl_r
  have hd := hR2.odd hF2
  simp only [dSeq, dNext, dIf, dTst, dTru, dBin, dUn, dApp, dVar, dC, dAsg, dNm, dAug, dDrop, dRet, dRetN, dBrk, dCnt, dNever, dFrz, dPeek, dPeekB, dPar, dFor, dRng1, dRng2, dSeqI, dTupI, dNil, dCons, dTup, dLst, dAnd, dOr, dNot, dIfE, dAndV, dOrV, dNotV, dChain, dBits, dIndex, dOwn, nLst, nList, nRep, nCat, nLc, dApnd, dSetO, dIxO, onOwn, dSelfSet, dSelf, dCall, dMake, dMeth, dProp, dOrE, dSl, dNoP, dP, dEnum, dZip, dYes, dOrI,   gTru, gN1, gN2, rstart, istart, List.map_cons, List.map_nil, List.length_cons, List.length_nil, List.cons_append, List.nil_append, List.append_nil, List.replicate, List.getElem?_cons_zero, List.getElem?_cons_succ, List.set_cons_zero, List.set_cons_succ, Nat.sub_zero, Nat.reduceAdd, Nat.reduceSub, Nat.zero_add, if_true, Bool.false_eq_true, if_false, Int.zero_add, ite_ap, TT2, true_and, PV.int.injEq, exists_eq_left', List.cons.injEq, and_true, PV.ins.injEq, Option.some.injEq, gF, gOwn, gTruO, dGLst, dGTup, dGCons, dGNil, gLen]
  refine ⟨a, b, c, d, rfl, hb, hd, ⟨by omega, by omega, by omega, by omega⟩, fun x z hR3 => ?_⟩
  have hbd : (cm b d) % 2 = 1 := by rw [cm_mod2, hb, hd]
  have bx := hR3.bl_l
  have bz := hR3.bl_r
  have hz := hR3.odd hbd
  have k1 := bl_cm_le a d
  have k2 := bl_cm_le c b
  have k3 := bl_cm_le b d
  have k4 := bl_xor_le (cm a d) (cm c b) (k := 1000) (by omega) (by omega)
  simp only [dSeq, dNext, dIf, dTst, dTru, dBin, dUn, dApp, dVar, dC, dAsg, dNm, dAug, dDrop, dRet, dRetN, dBrk, dCnt, dNever, dFrz, dPeek, dPeekB, dPar, dFor, dRng1, dRng2, dSeqI, dTupI, dNil, dCons, dTup, dLst, dAnd, dOr, dNot, dIfE, dAndV, dOrV, dNotV, dChain, dBits, dIndex, dOwn, nLst, nList, nRep, nCat, nLc, dApnd, dSetO, dIxO, onOwn, dSelfSet, dSelf, dCall, dMake, dMeth, dProp, dOrE, dSl, dNoP, dP, dEnum, dZip, dYes, dOrI,   gTru, gN1, gN2, rstart, istart, List.map_cons, List.map_nil, List.length_cons, List.length_nil, List.cons_append, List.nil_append, List.append_nil, List.replicate, List.getElem?_cons_zero, List.getElem?_cons_succ, List.set_cons_zero, List.set_cons_succ, Nat.sub_zero, Nat.reduceAdd, Nat.reduceSub, Nat.zero_add, if_true, Bool.false_eq_true, if_false, Int.zero_add, ite_ap, TT2, true_and, PV.int.injEq, exists_eq_left', List.cons.injEq, and_true, PV.ins.injEq, Option.some.injEq, gF, gOwn, gTruO, dGLst, dGTup, dGCons, dGNil, gLen]
  refine ⟨64, rfl, by decide, by decide +kernel, by omega, fun G hG => ?_⟩
  simp only [dSeq, dNext, dIf, dTst, dTru, dBin, dUn, dApp, dVar, dC, dAsg, dNm, dAug, dDrop, dRet, dRetN, dBrk, dCnt, dNever, dFrz, dPeek, dPeekB, dPar, dFor, dRng1, dRng2, dSeqI, dTupI, dNil, dCons, dTup, dLst, dAnd, dOr, dNot, dIfE, dAndV, dOrV, dNotV, dChain, dBits, dIndex, dOwn, nLst, nList, nRep, nCat, nLc, dApnd, dSetO, dIxO, onOwn, dSelfSet, dSelf, dCall, dMake, dMeth, dProp, dOrE, dSl, dNoP, dP, dEnum, dZip, dYes, dOrI,   gTru, gN1, gN2, rstart, istart, List.map_cons, List.map_nil, List.length_cons, List.length_nil, List.cons_append, List.nil_append, List.append_nil, List.replicate, List.getElem?_cons_zero, List.getElem?_cons_succ, List.set_cons_zero, List.set_cons_succ, Nat.sub_zero, Nat.reduceAdd, Nat.reduceSub, Nat.zero_add, if_true, Bool.false_eq_true, if_false, Int.zero_add, ite_ap, TT2, true_and, PV.int.injEq, exists_eq_left', List.cons.injEq, and_true, PV.ins.injEq, Option.some.injEq, gF, gOwn, gTruO, dGLst, dGTup, dGCons, dGNil, gLen]
  refine ⟨G, rfl, ?_⟩
  simp only [dSeq, dNext, dIf, dTst, dTru, dBin, dUn, dApp, dVar, dC, dAsg, dNm, dAug, dDrop, dRet, dRetN, dBrk, dCnt, dNever, dFrz, dPeek, dPeekB, dPar, dFor, dRng1, dRng2, dSeqI, dTupI, dNil, dCons, dTup, dLst, dAnd, dOr, dNot, dIfE, dAndV, dOrV, dNotV, dChain, dBits, dIndex, dOwn, nLst, nList, nRep, nCat, nLc, dApnd, dSetO, dIxO, onOwn, dSelfSet, dSelf, dCall, dMake, dMeth, dProp, dOrE, dSl, dNoP, dP, dEnum, dZip, dYes, dOrI,   gTru, gN1, gN2, rstart, istart, List.map_cons, List.map_nil, List.length_cons, List.length_nil, List.cons_append, List.nil_append, List.append_nil, List.replicate, List.getElem?_cons_zero, List.getElem?_cons_succ, List.set_cons_zero, List.set_cons_succ, Nat.sub_zero, Nat.reduceAdd, Nat.reduceSub, Nat.zero_add, if_true, Bool.false_eq_true, if_false, Int.zero_add, ite_ap, TT2, true_and, PV.int.injEq, exists_eq_left', List.cons.injEq, and_true, PV.ins.injEq, Option.some.injEq, gF, gOwn, gTruO, dGLst, dGTup, dGCons, dGNil, gLen, gII]
  refine ⟨⟨by decide, by decide, by decide⟩, 2 ^ Int.toNat 11, rfl, by decide, by decide +kernel, by omega, fun y3 hy3 => ?_⟩
  have hy3' : y3 < 2 ^ 11 := by
    have : (y3 : Int) < 2 ^ 11 := hy3
    omega
  simp only [dSeq, dNext, dIf, dTst, dTru, dBin, dUn, dApp, dVar, dC, dAsg, dNm, dAug, dDrop, dRet, dRetN, dBrk, dCnt, dNever, dFrz, dPeek, dPeekB, dPar, dFor, dRng1, dRng2, dSeqI, dTupI, dNil, dCons, dTup, dLst, dAnd, dOr, dNot, dIfE, dAndV, dOrV, dNotV, dChain, dBits, dIndex, dOwn, nLst, nList, nRep, nCat, nLc, dApnd, dSetO, dIxO, onOwn, dSelfSet, dSelf, dCall, dMake, dMeth, dProp, dOrE, dSl, dNoP, dP, dEnum, dZip, dYes, dOrI,   gTru, gN1, gN2, rstart, istart, List.map_cons, List.map_nil, List.length_cons, List.length_nil, List.cons_append, List.nil_append, List.append_nil, List.replicate, List.getElem?_cons_zero, List.getElem?_cons_succ, List.set_cons_zero, List.set_cons_succ, Nat.sub_zero, Nat.reduceAdd, Nat.reduceSub, Nat.zero_add, if_true, Bool.false_eq_true, if_false, Int.zero_add, ite_ap, TT2, true_and, PV.int.injEq, exists_eq_left', List.cons.injEq, and_true, PV.ins.injEq, Option.some.injEq, gF, gOwn, gTruO, dGLst, dGTup, dGCons, dGNil, gLen, gMul, gAdd]
  obtain ⟨J, hJ, hJ1, hJ2⟩ : ∃ J : Nat, ((2 : Int) * (y3 : Int) + 1) = (J : Int) ∧ J < 2 ^ 12 ∧ J % 2 = 1 := ⟨2 * y3 + 1, by omega, by omega, by omega⟩
  simp only [hJ]
  have bG : bl G ≤ 6 := bl_le (by omega)
  have bJ : bl J ≤ 12 := bl_le hJ1
  refine ⟨mul_small (by decide +kernel) (ibl (k := 11) hy3' (by decide)), J, rfl, G, J, _, rfl, .inl rfl, by omega, by omega, by omega, fun e f hR4 => ?_⟩
  have be := hR4.bl_l
  have bf := hR4.bl_r
  have hf := hR4.odd hJ2
  simp only [dSeq, dNext, dIf, dTst, dTru, dBin, dUn, dApp, dVar, dC, dAsg, dNm, dAug, dDrop, dRet, dRetN, dBrk, dCnt, dNever, dFrz, dPeek, dPeekB, dPar, dFor, dRng1, dRng2, dSeqI, dTupI, dNil, dCons, dTup, dLst, dAnd, dOr, dNot, dIfE, dAndV, dOrV, dNotV, dChain, dBits, dIndex, dOwn, nLst, nList, nRep, nCat, nLc, dApnd, dSetO, dIxO, onOwn, dSelfSet, dSelf, dCall, dMake, dMeth, dProp, dOrE, dSl, dNoP, dP, dEnum, dZip, dYes, dOrI,   gTru, gN1, gN2, rstart, istart, List.map_cons, List.map_nil, List.length_cons, List.length_nil, List.cons_append, List.nil_append, List.append_nil, List.replicate, List.getElem?_cons_zero, List.getElem?_cons_succ, List.set_cons_zero, List.set_cons_succ, Nat.sub_zero, Nat.reduceAdd, Nat.reduceSub, Nat.zero_add, if_true, Bool.false_eq_true, if_false, Int.zero_add, ite_ap, TT2, true_and, PV.int.injEq, exists_eq_left', List.cons.injEq, and_true, PV.ins.injEq, Option.some.injEq, gF, gOwn, gTruO, dGLst, dGTup, dGCons, dGNil, gLen, gSl]
  have hcut : ∀ lo hi, (cutP (List.map PV.int ns) lo hi).length ≤ 63 := fun lo hi => by
    unfold cutP
    rw [List.length_take, List.length_drop, List.length_map]; omega
  refine loop_list _ (fun i ρ n' => n' ≤ 10 + 3 * i ∧ ∃ s9 s10 s11, ρ = [.fz (.scr (ns.map .int)), .fz (.box 0), .fz (.int A), .fz (.int B), .fz (rr a b), .fz (.lst [.lst (cbs A B L), .int back]), .fz (rr c d), .fz (rr x z), .fz (rr e f), s9, s10, s11]) ⟨by omega, .no, .no, .no, rfl⟩ ?_ ?_
  · rintro i v ρ n Nx hi ⟨hn, s9, s10, s11, rfl⟩ kk
    have hi63 : i < 63 := by
      have := (List.getElem?_eq_some_iff.mp hi).1
      have := hcut none (some 4)
      omega
    simp only [dSeq, dNext, dIf, dTst, dTru, dBin, dUn, dApp, dVar, dC, dAsg, dNm, dAug, dDrop, dRet, dRetN, dBrk, dCnt, dNever, dFrz, dPeek, dPeekB, dPar, dFor, dRng1, dRng2, dSeqI, dTupI, dNil, dCons, dTup, dLst, dAnd, dOr, dNot, dIfE, dAndV, dOrV, dNotV, dChain, dBits, dIndex, dOwn, nLst, nList, nRep, nCat, nLc, dApnd, dSetO, dIxO, onOwn, dSelfSet, dSelf, dCall, dMake, dMeth, dProp, dOrE, dSl, dNoP, dP, dEnum, dZip, dYes, dOrI,   gTru, gN1, gN2, rstart, istart, List.map_cons, List.map_nil, List.length_cons, List.length_nil, List.cons_append, List.nil_append, List.append_nil, List.replicate, List.getElem?_cons_zero, List.getElem?_cons_succ, List.set_cons_zero, List.set_cons_succ, Nat.sub_zero, Nat.reduceAdd, Nat.reduceSub, Nat.zero_add, if_true, Bool.false_eq_true, if_false, Int.zero_add, ite_ap, TT2, true_and, PV.int.injEq, exists_eq_left', List.cons.injEq, and_true, PV.ins.injEq, Option.some.injEq, gF, gOwn, gTruO, dGLst, dGTup, dGCons, dGNil, gLen, gII]
    refine ⟨⟨by decide, by decide, by decide⟩, ⟨by decide, by decide, by decide⟩, by decide, 3, rfl, by decide, by decide +kernel, by omega, fun r hr => ?_⟩
    obtain ⟨mm, hmm, h0, hlog⟩ : ∃ mm : Int, L2.atI [PV.int 200, .int (10 ^ Int.toNat 9), .int (10 ^ Int.toNat 30)] (r : Int) = some (.int mm) ∧ 0 < mm ∧ mm.natAbs.log2 < 9000 := by
      have : r = 0 ∨ r = 1 ∨ r = 2 := by omega
      rcases this with rfl | rfl | rfl
      · exact ⟨200, rfl, by decide, by decide +kernel⟩
      · exact ⟨10 ^ Int.toNat 9, rfl, by decide, by decide +kernel⟩
      · exact ⟨10 ^ Int.toNat 30, rfl, by decide, by decide +kernel⟩
    simp only [dSeq, dNext, dIf, dTst, dTru, dBin, dUn, dApp, dVar, dC, dAsg, dNm, dAug, dDrop, dRet, dRetN, dBrk, dCnt, dNever, dFrz, dPeek, dPeekB, dPar, dFor, dRng1, dRng2, dSeqI, dTupI, dNil, dCons, dTup, dLst, dAnd, dOr, dNot, dIfE, dAndV, dOrV, dNotV, dChain, dBits, dIndex, dOwn, nLst, nList, nRep, nCat, nLc, dApnd, dSetO, dIxO, onOwn, dSelfSet, dSelf, dCall, dMake, dMeth, dProp, dOrE, dSl, dNoP, dP, dEnum, dZip, dYes, dOrI,   gTru, gN1, gN2, rstart, istart, List.map_cons, List.map_nil, List.length_cons, List.length_nil, List.cons_append, List.nil_append, List.append_nil, List.replicate, List.getElem?_cons_zero, List.getElem?_cons_succ, List.set_cons_zero, List.set_cons_succ, Nat.sub_zero, Nat.reduceAdd, Nat.reduceSub, Nat.zero_add, if_true, Bool.false_eq_true, if_false, Int.zero_add, ite_ap, TT2, true_and, PV.int.injEq, exists_eq_left', List.cons.injEq, and_true, PV.ins.injEq, Option.some.injEq, gF, gOwn, gTruO, dGLst, dGTup, dGCons, dGNil, gLen, gIx]
    refine ⟨_, hmm, mm, rfl, h0, hlog, by omega, fun t ht => ?_⟩
    simp only [dSeq, dNext, dIf, dTst, dTru, dBin, dUn, dApp, dVar, dC, dAsg, dNm, dAug, dDrop, dRet, dRetN, dBrk, dCnt, dNever, dFrz, dPeek, dPeekB, dPar, dFor, dRng1, dRng2, dSeqI, dTupI, dNil, dCons, dTup, dLst, dAnd, dOr, dNot, dIfE, dAndV, dOrV, dNotV, dChain, dBits, dIndex, dOwn, nLst, nList, nRep, nCat, nLc, dApnd, dSetO, dIxO, onOwn, dSelfSet, dSelf, dCall, dMake, dMeth, dProp, dOrE, dSl, dNoP, dP, dEnum, dZip, dYes, dOrI,   gTru, gN1, gN2, rstart, istart, List.map_cons, List.map_nil, List.length_cons, List.length_nil, List.cons_append, List.nil_append, List.append_nil, List.replicate, List.getElem?_cons_zero, List.getElem?_cons_succ, List.set_cons_zero, List.set_cons_succ, Nat.sub_zero, Nat.reduceAdd, Nat.reduceSub, Nat.zero_add, if_true, Bool.false_eq_true, if_false, Int.zero_add, ite_ap, TT2, true_and, PV.int.injEq, exists_eq_left', List.cons.injEq, and_true, PV.ins.injEq, Option.some.injEq, gF, gOwn, gTruO, dGLst, dGTup, dGCons, dGNil, gLen]
    refine ⟨a, b, t, rfl, hb, by omega, by omega, ?_⟩
    simp only [dSeq, dNext, dIf, dTst, dTru, dBin, dUn, dApp, dVar, dC, dAsg, dNm, dAug, dDrop, dRet, dRetN, dBrk, dCnt, dNever, dFrz, dPeek, dPeekB, dPar, dFor, dRng1, dRng2, dSeqI, dTupI, dNil, dCons, dTup, dLst, dAnd, dOr, dNot, dIfE, dAndV, dOrV, dNotV, dChain, dBits, dIndex, dOwn, nLst, nList, nRep, nCat, nLc, dApnd, dSetO, dIxO, onOwn, dSelfSet, dSelf, dCall, dMake, dMeth, dProp, dOrE, dSl, dNoP, dP, dEnum, dZip, dYes, dOrI,   gTru, gN1, gN2, rstart, istart, List.map_cons, List.map_nil, List.length_cons, List.length_nil, List.cons_append, List.nil_append, List.append_nil, List.replicate, List.getElem?_cons_zero, List.getElem?_cons_succ, List.set_cons_zero, List.set_cons_succ, Nat.sub_zero, Nat.reduceAdd, Nat.reduceSub, Nat.zero_add, if_true, Bool.false_eq_true, if_false, Int.zero_add, ite_ap, TT2, true_and, PV.int.injEq, exists_eq_left', List.cons.injEq, and_true, PV.ins.injEq, Option.some.injEq, gF, gOwn, gTruO, dGLst, dGTup, dGCons, dGNil, gLen]
    refine ⟨A, B, L, back, t, rfl, g1, g2, g3, ?_⟩
    have e1 : co a b t = co A B t := hR.co hB2 t
    simp only [dSeq, dNext, dIf, dTst, dTru, dBin, dUn, dApp, dVar, dC, dAsg, dNm, dAug, dDrop, dRet, dRetN, dBrk, dCnt, dNever, dFrz, dPeek, dPeekB, dPar, dFor, dRng1, dRng2, dSeqI, dTupI, dNil, dCons, dTup, dLst, dAnd, dOr, dNot, dIfE, dAndV, dOrV, dNotV, dChain, dBits, dIndex, dOwn, nLst, nList, nRep, nCat, nLc, dApnd, dSetO, dIxO, onOwn, dSelfSet, dSelf, dCall, dMake, dMeth, dProp, dOrE, dSl, dNoP, dP, dEnum, dZip, dYes, dOrI,   gTru, gN1, gN2, rstart, istart, List.map_cons, List.map_nil, List.length_cons, List.length_nil, List.cons_append, List.nil_append, List.append_nil, List.replicate, List.getElem?_cons_zero, List.getElem?_cons_succ, List.set_cons_zero, List.set_cons_succ, Nat.sub_zero, Nat.reduceAdd, Nat.reduceSub, Nat.zero_add, if_true, Bool.false_eq_true, if_false, Int.zero_add, ite_ap, TT2, true_and, PV.int.injEq, exists_eq_left', List.cons.injEq, and_true, PV.ins.injEq, Option.some.injEq, gF, gOwn, gTruO, dGLst, dGTup, dGCons, dGNil, gLen, gNe, peq_int]
    refine ⟨⟨rfl, rfl⟩, ite_same (by rw [e1]; simp) ?_⟩
    refine ⟨x, z, t, rfl, hz, by omega, by omega, ?_⟩
    simp only [dSeq, dNext, dIf, dTst, dTru, dBin, dUn, dApp, dVar, dC, dAsg, dNm, dAug, dDrop, dRet, dRetN, dBrk, dCnt, dNever, dFrz, dPeek, dPeekB, dPar, dFor, dRng1, dRng2, dSeqI, dTupI, dNil, dCons, dTup, dLst, dAnd, dOr, dNot, dIfE, dAndV, dOrV, dNotV, dChain, dBits, dIndex, dOwn, nLst, nList, nRep, nCat, nLc, dApnd, dSetO, dIxO, onOwn, dSelfSet, dSelf, dCall, dMake, dMeth, dProp, dOrE, dSl, dNoP, dP, dEnum, dZip, dYes, dOrI,   gTru, gN1, gN2, rstart, istart, List.map_cons, List.map_nil, List.length_cons, List.length_nil, List.cons_append, List.nil_append, List.append_nil, List.replicate, List.getElem?_cons_zero, List.getElem?_cons_succ, List.set_cons_zero, List.set_cons_succ, Nat.sub_zero, Nat.reduceAdd, Nat.reduceSub, Nat.zero_add, if_true, Bool.false_eq_true, if_false, Int.zero_add, ite_ap, TT2, true_and, PV.int.injEq, exists_eq_left', List.cons.injEq, and_true, PV.ins.injEq, Option.some.injEq, gF, gOwn, gTruO, dGLst, dGTup, dGCons, dGNil, gLen]
    refine ⟨a, b, t, rfl, hb, by omega, by omega, ?_⟩
    simp only [dSeq, dNext, dIf, dTst, dTru, dBin, dUn, dApp, dVar, dC, dAsg, dNm, dAug, dDrop, dRet, dRetN, dBrk, dCnt, dNever, dFrz, dPeek, dPeekB, dPar, dFor, dRng1, dRng2, dSeqI, dTupI, dNil, dCons, dTup, dLst, dAnd, dOr, dNot, dIfE, dAndV, dOrV, dNotV, dChain, dBits, dIndex, dOwn, nLst, nList, nRep, nCat, nLc, dApnd, dSetO, dIxO, onOwn, dSelfSet, dSelf, dCall, dMake, dMeth, dProp, dOrE, dSl, dNoP, dP, dEnum, dZip, dYes, dOrI,   gTru, gN1, gN2, rstart, istart, List.map_cons, List.map_nil, List.length_cons, List.length_nil, List.cons_append, List.nil_append, List.append_nil, List.replicate, List.getElem?_cons_zero, List.getElem?_cons_succ, List.set_cons_zero, List.set_cons_succ, Nat.sub_zero, Nat.reduceAdd, Nat.reduceSub, Nat.zero_add, if_true, Bool.false_eq_true, if_false, Int.zero_add, ite_ap, TT2, true_and, PV.int.injEq, exists_eq_left', List.cons.injEq, and_true, PV.ins.injEq, Option.some.injEq, gF, gOwn, gTruO, dGLst, dGTup, dGCons, dGNil, gLen]
    refine ⟨c, d, t, rfl, hd, by omega, by omega, ?_⟩
    have e2 : co x z t = (co a b t + co c d t) % 2 := (hR3.co hbd t).trans (co_add hb hd t)
    simp only [dSeq, dNext, dIf, dTst, dTru, dBin, dUn, dApp, dVar, dC, dAsg, dNm, dAug, dDrop, dRet, dRetN, dBrk, dCnt, dNever, dFrz, dPeek, dPeekB, dPar, dFor, dRng1, dRng2, dSeqI, dTupI, dNil, dCons, dTup, dLst, dAnd, dOr, dNot, dIfE, dAndV, dOrV, dNotV, dChain, dBits, dIndex, dOwn, nLst, nList, nRep, nCat, nLc, dApnd, dSetO, dIxO, onOwn, dSelfSet, dSelf, dCall, dMake, dMeth, dProp, dOrE, dSl, dNoP, dP, dEnum, dZip, dYes, dOrI,   gTru, gN1, gN2, rstart, istart, List.map_cons, List.map_nil, List.length_cons, List.length_nil, List.cons_append, List.nil_append, List.append_nil, List.replicate, List.getElem?_cons_zero, List.getElem?_cons_succ, List.set_cons_zero, List.set_cons_succ, Nat.sub_zero, Nat.reduceAdd, Nat.reduceSub, Nat.zero_add, if_true, Bool.false_eq_true, if_false, Int.zero_add, ite_ap, TT2, true_and, PV.int.injEq, exists_eq_left', List.cons.injEq, and_true, PV.ins.injEq, Option.some.injEq, gF, gOwn, gTruO, dGLst, dGTup, dGCons, dGNil, gLen, gAdd, gII, gNe, peq_int]
    refine ⟨by decide, ⟨rfl, rfl⟩, ite_same (by rw [e2]; push_cast; simp) ?_⟩
    refine ⟨50, rfl, by decide, by decide +kernel, by omega, fun k hk => ?_⟩
    simp only [dSeq, dNext, dIf, dTst, dTru, dBin, dUn, dApp, dVar, dC, dAsg, dNm, dAug, dDrop, dRet, dRetN, dBrk, dCnt, dNever, dFrz, dPeek, dPeekB, dPar, dFor, dRng1, dRng2, dSeqI, dTupI, dNil, dCons, dTup, dLst, dAnd, dOr, dNot, dIfE, dAndV, dOrV, dNotV, dChain, dBits, dIndex, dOwn, nLst, nList, nRep, nCat, nLc, dApnd, dSetO, dIxO, onOwn, dSelfSet, dSelf, dCall, dMake, dMeth, dProp, dOrE, dSl, dNoP, dP, dEnum, dZip, dYes, dOrI,   gTru, gN1, gN2, rstart, istart, List.map_cons, List.map_nil, List.length_cons, List.length_nil, List.cons_append, List.nil_append, List.append_nil, List.replicate, List.getElem?_cons_zero, List.getElem?_cons_succ, List.set_cons_zero, List.set_cons_succ, Nat.sub_zero, Nat.reduceAdd, Nat.reduceSub, Nat.zero_add, if_true, Bool.false_eq_true, if_false, Int.zero_add, ite_ap, TT2, true_and, PV.int.injEq, exists_eq_left', List.cons.injEq, and_true, PV.ins.injEq, Option.some.injEq, gF, gOwn, gTruO, dGLst, dGTup, dGCons, dGNil, gLen]
    refine ⟨k, rfl, by omega, fun u1 v1 r1 => ?_⟩
    have q1 := r1.bl_l
    have q2 := r1.bl_r
    have q3 := bl_two_pow k
    have q4 : bl 1 = 1 := by decide
    have hv1 := r1.odd (by decide)
    have q5 := bl_cm_le u1 c
    have q6 := bl_cm_le v1 d
    have hvd : (cm v1 d) % 2 = 1 := by rw [cm_mod2, hv1, hd]
    simp only [dSeq, dNext, dIf, dTst, dTru, dBin, dUn, dApp, dVar, dC, dAsg, dNm, dAug, dDrop, dRet, dRetN, dBrk, dCnt, dNever, dFrz, dPeek, dPeekB, dPar, dFor, dRng1, dRng2, dSeqI, dTupI, dNil, dCons, dTup, dLst, dAnd, dOr, dNot, dIfE, dAndV, dOrV, dNotV, dChain, dBits, dIndex, dOwn, nLst, nList, nRep, nCat, nLc, dApnd, dSetO, dIxO, onOwn, dSelfSet, dSelf, dCall, dMake, dMeth, dProp, dOrE, dSl, dNoP, dP, dEnum, dZip, dYes, dOrI,   gTru, gN1, gN2, rstart, istart, List.map_cons, List.map_nil, List.length_cons, List.length_nil, List.cons_append, List.nil_append, List.append_nil, List.replicate, List.getElem?_cons_zero, List.getElem?_cons_succ, List.set_cons_zero, List.set_cons_succ, Nat.sub_zero, Nat.reduceAdd, Nat.reduceSub, Nat.zero_add, if_true, Bool.false_eq_true, if_false, Int.zero_add, ite_ap, TT2, true_and, PV.int.injEq, exists_eq_left', List.cons.injEq, and_true, PV.ins.injEq, Option.some.injEq, gF, gOwn, gTruO, dGLst, dGTup, dGCons, dGNil, gLen]
    refine ⟨u1, v1, c, d, rfl, hv1, hd, ⟨by omega, by omega, by omega, by omega⟩, fun p1 p2 r2 => ?_⟩
    have q7 := r2.bl_l
    have q8 := r2.bl_r
    have hp2 := r2.odd hvd
    have e3 : ((t : Int) + (k : Int)) = ((t + k : Nat) : Int) := by omega
    simp only [dSeq, dNext, dIf, dTst, dTru, dBin, dUn, dApp, dVar, dC, dAsg, dNm, dAug, dDrop, dRet, dRetN, dBrk, dCnt, dNever, dFrz, dPeek, dPeekB, dPar, dFor, dRng1, dRng2, dSeqI, dTupI, dNil, dCons, dTup, dLst, dAnd, dOr, dNot, dIfE, dAndV, dOrV, dNotV, dChain, dBits, dIndex, dOwn, nLst, nList, nRep, nCat, nLc, dApnd, dSetO, dIxO, onOwn, dSelfSet, dSelf, dCall, dMake, dMeth, dProp, dOrE, dSl, dNoP, dP, dEnum, dZip, dYes, dOrI,   gTru, gN1, gN2, rstart, istart, List.map_cons, List.map_nil, List.length_cons, List.length_nil, List.cons_append, List.nil_append, List.append_nil, List.replicate, List.getElem?_cons_zero, List.getElem?_cons_succ, List.set_cons_zero, List.set_cons_succ, Nat.sub_zero, Nat.reduceAdd, Nat.reduceSub, Nat.zero_add, if_true, Bool.false_eq_true, if_false, Int.zero_add, ite_ap, TT2, true_and, PV.int.injEq, exists_eq_left', List.cons.injEq, and_true, PV.ins.injEq, Option.some.injEq, gF, gOwn, gTruO, dGLst, dGTup, dGCons, dGNil, gLen, gAdd]
    rw [e3]
    refine ⟨p1, p2, t + k, rfl, hp2, by omega, by omega, ?_⟩
    simp only [dSeq, dNext, dIf, dTst, dTru, dBin, dUn, dApp, dVar, dC, dAsg, dNm, dAug, dDrop, dRet, dRetN, dBrk, dCnt, dNever, dFrz, dPeek, dPeekB, dPar, dFor, dRng1, dRng2, dSeqI, dTupI, dNil, dCons, dTup, dLst, dAnd, dOr, dNot, dIfE, dAndV, dOrV, dNotV, dChain, dBits, dIndex, dOwn, nLst, nList, nRep, nCat, nLc, dApnd, dSetO, dIxO, onOwn, dSelfSet, dSelf, dCall, dMake, dMeth, dProp, dOrE, dSl, dNoP, dP, dEnum, dZip, dYes, dOrI,   gTru, gN1, gN2, rstart, istart, List.map_cons, List.map_nil, List.length_cons, List.length_nil, List.cons_append, List.nil_append, List.append_nil, List.replicate, List.getElem?_cons_zero, List.getElem?_cons_succ, List.set_cons_zero, List.set_cons_succ, Nat.sub_zero, Nat.reduceAdd, Nat.reduceSub, Nat.zero_add, if_true, Bool.false_eq_true, if_false, Int.zero_add, ite_ap, TT2, true_and, PV.int.injEq, exists_eq_left', List.cons.injEq, and_true, PV.ins.injEq, Option.some.injEq, gF, gOwn, gTruO, dGLst, dGTup, dGCons, dGNil, gLen]
    refine ⟨c, d, t, rfl, hd, by omega, by omega, ?_⟩
    have e4 : co p1 p2 (t + k) = co c d t := by rw [z_times hd r1 r2, co_shift]
    simp only [dSeq, dNext, dIf, dTst, dTru, dBin, dUn, dApp, dVar, dC, dAsg, dNm, dAug, dDrop, dRet, dRetN, dBrk, dCnt, dNever, dFrz, dPeek, dPeekB, dPar, dFor, dRng1, dRng2, dSeqI, dTupI, dNil, dCons, dTup, dLst, dAnd, dOr, dNot, dIfE, dAndV, dOrV, dNotV, dChain, dBits, dIndex, dOwn, nLst, nList, nRep, nCat, nLc, dApnd, dSetO, dIxO, onOwn, dSelfSet, dSelf, dCall, dMake, dMeth, dProp, dOrE, dSl, dNoP, dP, dEnum, dZip, dYes, dOrI,   gTru, gN1, gN2, rstart, istart, List.map_cons, List.map_nil, List.length_cons, List.length_nil, List.cons_append, List.nil_append, List.append_nil, List.replicate, List.getElem?_cons_zero, List.getElem?_cons_succ, List.set_cons_zero, List.set_cons_succ, Nat.sub_zero, Nat.reduceAdd, Nat.reduceSub, Nat.zero_add, if_true, Bool.false_eq_true, if_false, Int.zero_add, ite_ap, TT2, true_and, PV.int.injEq, exists_eq_left', List.cons.injEq, and_true, PV.ins.injEq, Option.some.injEq, gF, gOwn, gTruO, dGLst, dGTup, dGCons, dGNil, gLen, gNe, peq_int]
    refine ⟨⟨rfl, rfl⟩, ite_same (by rw [e4]; simp) ?_⟩
    have e5 : ((k : Int) + 1) = ((k + 1 : Nat) : Int) := by omega
    rw [e5]
    refine ⟨k + 1, rfl, by omega, fun u2 v2 r3 => ?_⟩
    have s1 := r3.bl_l
    have s2 := r3.bl_r
    have s3 := bl_two_pow (k + 1)
    have hv2 := r3.odd (by decide)
    have s5 := bl_cm_le u2 c
    have s6 := bl_cm_le v2 d
    have hvd2 : (cm v2 d) % 2 = 1 := by rw [cm_mod2, hv2, hd]
    simp only [dSeq, dNext, dIf, dTst, dTru, dBin, dUn, dApp, dVar, dC, dAsg, dNm, dAug, dDrop, dRet, dRetN, dBrk, dCnt, dNever, dFrz, dPeek, dPeekB, dPar, dFor, dRng1, dRng2, dSeqI, dTupI, dNil, dCons, dTup, dLst, dAnd, dOr, dNot, dIfE, dAndV, dOrV, dNotV, dChain, dBits, dIndex, dOwn, nLst, nList, nRep, nCat, nLc, dApnd, dSetO, dIxO, onOwn, dSelfSet, dSelf, dCall, dMake, dMeth, dProp, dOrE, dSl, dNoP, dP, dEnum, dZip, dYes, dOrI,   gTru, gN1, gN2, rstart, istart, List.map_cons, List.map_nil, List.length_cons, List.length_nil, List.cons_append, List.nil_append, List.append_nil, List.replicate, List.getElem?_cons_zero, List.getElem?_cons_succ, List.set_cons_zero, List.set_cons_succ, Nat.sub_zero, Nat.reduceAdd, Nat.reduceSub, Nat.zero_add, if_true, Bool.false_eq_true, if_false, Int.zero_add, ite_ap, TT2, true_and, PV.int.injEq, exists_eq_left', List.cons.injEq, and_true, PV.ins.injEq, Option.some.injEq, gF, gOwn, gTruO, dGLst, dGTup, dGCons, dGNil, gLen]
    refine ⟨u2, v2, c, d, rfl, hv2, hd, ⟨by omega, by omega, by omega, by omega⟩, fun p3 p4 r4 => ?_⟩
    have s7 := r4.bl_l
    have s8 := r4.bl_r
    have hp4 := r4.odd hvd2
    have e6 : co p3 p4 k = 0 := by rw [z_times hd r3 r4, co_shift0]
    simp only [dSeq, dNext, dIf, dTst, dTru, dBin, dUn, dApp, dVar, dC, dAsg, dNm, dAug, dDrop, dRet, dRetN, dBrk, dCnt, dNever, dFrz, dPeek, dPeekB, dPar, dFor, dRng1, dRng2, dSeqI, dTupI, dNil, dCons, dTup, dLst, dAnd, dOr, dNot, dIfE, dAndV, dOrV, dNotV, dChain, dBits, dIndex, dOwn, nLst, nList, nRep, nCat, nLc, dApnd, dSetO, dIxO, onOwn, dSelfSet, dSelf, dCall, dMake, dMeth, dProp, dOrE, dSl, dNoP, dP, dEnum, dZip, dYes, dOrI,   gTru, gN1, gN2, rstart, istart, List.map_cons, List.map_nil, List.length_cons, List.length_nil, List.cons_append, List.nil_append, List.append_nil, List.replicate, List.getElem?_cons_zero, List.getElem?_cons_succ, List.set_cons_zero, List.set_cons_succ, Nat.sub_zero, Nat.reduceAdd, Nat.reduceSub, Nat.zero_add, if_true, Bool.false_eq_true, if_false, Int.zero_add, ite_ap, TT2, true_and, PV.int.injEq, exists_eq_left', List.cons.injEq, and_true, PV.ins.injEq, Option.some.injEq, gF, gOwn, gTruO, dGLst, dGTup, dGCons, dGNil, gLen]
    refine ⟨p3, p4, k, rfl, hp4, by omega, by omega, ?_⟩
    simp only [dSeq, dNext, dIf, dTst, dTru, dBin, dUn, dApp, dVar, dC, dAsg, dNm, dAug, dDrop, dRet, dRetN, dBrk, dCnt, dNever, dFrz, dPeek, dPeekB, dPar, dFor, dRng1, dRng2, dSeqI, dTupI, dNil, dCons, dTup, dLst, dAnd, dOr, dNot, dIfE, dAndV, dOrV, dNotV, dChain, dBits, dIndex, dOwn, nLst, nList, nRep, nCat, nLc, dApnd, dSetO, dIxO, onOwn, dSelfSet, dSelf, dCall, dMake, dMeth, dProp, dOrE, dSl, dNoP, dP, dEnum, dZip, dYes, dOrI,   gTru, gN1, gN2, rstart, istart, List.map_cons, List.map_nil, List.length_cons, List.length_nil, List.cons_append, List.nil_append, List.append_nil, List.replicate, List.getElem?_cons_zero, List.getElem?_cons_succ, List.set_cons_zero, List.set_cons_succ, Nat.sub_zero, Nat.reduceAdd, Nat.reduceSub, Nat.zero_add, if_true, Bool.false_eq_true, if_false, Int.zero_add, ite_ap, TT2, true_and, PV.int.injEq, exists_eq_left', List.cons.injEq, and_true, PV.ins.injEq, Option.some.injEq, gF, gOwn, gTruO, dGLst, dGTup, dGCons, dGNil, gLen, gNe, peq_int]
    refine ⟨⟨rfl, rfl⟩, ite_same (by rw [e6]; rfl) ?_⟩
    have e7 : ((t : Int) + 8) = ((t + 8 : Nat) : Int) := by omega
    have e8 : ((t : Int) + 20) = ((t + 20 : Nat) : Int) := by omega
    rw [e7]
    refine ⟨a, b, t + 8, rfl, hb, by omega, by omega, by omega, by omega, ?_⟩
    simp only [dSeq, dNext, dIf, dTst, dTru, dBin, dUn, dApp, dVar, dC, dAsg, dNm, dAug, dDrop, dRet, dRetN, dBrk, dCnt, dNever, dFrz, dPeek, dPeekB, dPar, dFor, dRng1, dRng2, dSeqI, dTupI, dNil, dCons, dTup, dLst, dAnd, dOr, dNot, dIfE, dAndV, dOrV, dNotV, dChain, dBits, dIndex, dOwn, nLst, nList, nRep, nCat, nLc, dApnd, dSetO, dIxO, onOwn, dSelfSet, dSelf, dCall, dMake, dMeth, dProp, dOrE, dSl, dNoP, dP, dEnum, dZip, dYes, dOrI,   gTru, gN1, gN2, rstart, istart, List.map_cons, List.map_nil, List.length_cons, List.length_nil, List.cons_append, List.nil_append, List.append_nil, List.replicate, List.getElem?_cons_zero, List.getElem?_cons_succ, List.set_cons_zero, List.set_cons_succ, Nat.sub_zero, Nat.reduceAdd, Nat.reduceSub, Nat.zero_add, if_true, Bool.false_eq_true, if_false, Int.zero_add, ite_ap, TT2, true_and, PV.int.injEq, exists_eq_left', List.cons.injEq, and_true, PV.ins.injEq, Option.some.injEq, gF, gOwn, gTruO, dGLst, dGTup, dGCons, dGNil, gLen]
    refine ite_same rfl ?_
    simp only [dSeq, dNext, dIf, dTst, dTru, dBin, dUn, dApp, dVar, dC, dAsg, dNm, dAug, dDrop, dRet, dRetN, dBrk, dCnt, dNever, dFrz, dPeek, dPeekB, dPar, dFor, dRng1, dRng2, dSeqI, dTupI, dNil, dCons, dTup, dLst, dAnd, dOr, dNot, dIfE, dAndV, dOrV, dNotV, dChain, dBits, dIndex, dOwn, nLst, nList, nRep, nCat, nLc, dApnd, dSetO, dIxO, onOwn, dSelfSet, dSelf, dCall, dMake, dMeth, dProp, dOrE, dSl, dNoP, dP, dEnum, dZip, dYes, dOrI,   gTru, gN1, gN2, rstart, istart, List.map_cons, List.map_nil, List.length_cons, List.length_nil, List.cons_append, List.nil_append, List.append_nil, List.replicate, List.getElem?_cons_zero, List.getElem?_cons_succ, List.set_cons_zero, List.set_cons_succ, Nat.sub_zero, Nat.reduceAdd, Nat.reduceSub, Nat.zero_add, if_true, Bool.false_eq_true, if_false, Int.zero_add, ite_ap, TT2, true_and, PV.int.injEq, exists_eq_left', List.cons.injEq, and_true, PV.ins.injEq, Option.some.injEq, gF, gOwn, gTruO, dGLst, dGTup, dGCons, dGNil, gLen, gAdd]
    rw [e8]
    refine ⟨e, f, t + 20, rfl, hf, by omega, by omega, by omega, by omega, ?_⟩
    simp only [dSeq, dNext, dIf, dTst, dTru, dBin, dUn, dApp, dVar, dC, dAsg, dNm, dAug, dDrop, dRet, dRetN, dBrk, dCnt, dNever, dFrz, dPeek, dPeekB, dPar, dFor, dRng1, dRng2, dSeqI, dTupI, dNil, dCons, dTup, dLst, dAnd, dOr, dNot, dIfE, dAndV, dOrV, dNotV, dChain, dBits, dIndex, dOwn, nLst, nList, nRep, nCat, nLc, dApnd, dSetO, dIxO, onOwn, dSelfSet, dSelf, dCall, dMake, dMeth, dProp, dOrE, dSl, dNoP, dP, dEnum, dZip, dYes, dOrI,   gTru, gN1, gN2, rstart, istart, List.map_cons, List.map_nil, List.length_cons, List.length_nil, List.cons_append, List.nil_append, List.append_nil, List.replicate, List.getElem?_cons_zero, List.getElem?_cons_succ, List.set_cons_zero, List.set_cons_succ, Nat.sub_zero, Nat.reduceAdd, Nat.reduceSub, Nat.zero_add, if_true, Bool.false_eq_true, if_false, Int.zero_add, ite_ap, TT2, true_and, PV.int.injEq, exists_eq_left', List.cons.injEq, and_true, PV.ins.injEq, Option.some.injEq, gF, gOwn, gTruO, dGLst, dGTup, dGCons, dGNil, gLen]
    refine ite_same rfl ?_
    exact kk _ _ ⟨by omega, _, _, _, rfl⟩
  · rintro ρ n ⟨hn, s9, s10, s11, rfl⟩
    simp only [dSeq, dNext, dIf, dTst, dTru, dBin, dUn, dApp, dVar, dC, dAsg, dNm, dAug, dDrop, dRet, dRetN, dBrk, dCnt, dNever, dFrz, dPeek, dPeekB, dPar, dFor, dRng1, dRng2, dSeqI, dTupI, dNil, dCons, dTup, dLst, dAnd, dOr, dNot, dIfE, dAndV, dOrV, dNotV, dChain, dBits, dIndex, dOwn, nLst, nList, nRep, nCat, nLc, dApnd, dSetO, dIxO, onOwn, dSelfSet, dSelf, dCall, dMake, dMeth, dProp, dOrE, dSl, dNoP, dP, dEnum, dZip, dYes, dOrI,   gTru, gN1, gN2, rstart, istart, List.map_cons, List.map_nil, List.length_cons, List.length_nil, List.cons_append, List.nil_append, List.append_nil, List.replicate, List.getElem?_cons_zero, List.getElem?_cons_succ, List.set_cons_zero, List.set_cons_succ, Nat.sub_zero, Nat.reduceAdd, Nat.reduceSub, Nat.zero_add, if_true, Bool.false_eq_true, if_false, Int.zero_add, ite_ap, TT2, true_and, PV.int.injEq, exists_eq_left', List.cons.injEq, and_true, PV.ins.injEq, Option.some.injEq, gF, gOwn, gTruO, dGLst, dGTup, dGCons, dGNil, gLen]
    refine ⟨a, b, 20, rfl, hb, by decide, ⟨by decide, by decide⟩, by decide, ?_⟩
    rw [show Int.toNat 20 = 20 from rfl]
    simp only [dSeq, dNext, dIf, dTst, dTru, dBin, dUn, dApp, dVar, dC, dAsg, dNm, dAug, dDrop, dRet, dRetN, dBrk, dCnt, dNever, dFrz, dPeek, dPeekB, dPar, dFor, dRng1, dRng2, dSeqI, dTupI, dNil, dCons, dTup, dLst, dAnd, dOr, dNot, dIfE, dAndV, dOrV, dNotV, dChain, dBits, dIndex, dOwn, nLst, nList, nRep, nCat, nLc, dApnd, dSetO, dIxO, onOwn, dSelfSet, dSelf, dCall, dMake, dMeth, dProp, dOrE, dSl, dNoP, dP, dEnum, dZip, dYes, dOrI,   gTru, gN1, gN2, rstart, istart, List.map_cons, List.map_nil, List.length_cons, List.length_nil, List.cons_append, List.nil_append, List.append_nil, List.replicate, List.getElem?_cons_zero, List.getElem?_cons_succ, List.set_cons_zero, List.set_cons_succ, Nat.sub_zero, Nat.reduceAdd, Nat.reduceSub, Nat.zero_add, if_true, Bool.false_eq_true, if_false, Int.zero_add, ite_ap, TT2, true_and, PV.int.injEq, exists_eq_left', List.cons.injEq, and_true, PV.ins.injEq, Option.some.injEq, gF, gOwn, gTruO, dGLst, dGTup, dGCons, dGNil, gLen, wipeR]
    refine lcl_list _ (fun i acc _ => acc = cbs a b i) rfl ?_ ?_
    · rintro i v acc n' Nx hi rfl kk
      have hi' : i < 20 := by
        have := (List.getElem?_eq_some_iff.mp hi).1
        rwa [rng_length] at this
      rw [rng_get hi'] at hi
      cases hi
      simp only [dSeq, dNext, dIf, dTst, dTru, dBin, dUn, dApp, dVar, dC, dAsg, dNm, dAug, dDrop, dRet, dRetN, dBrk, dCnt, dNever, dFrz, dPeek, dPeekB, dPar, dFor, dRng1, dRng2, dSeqI, dTupI, dNil, dCons, dTup, dLst, dAnd, dOr, dNot, dIfE, dAndV, dOrV, dNotV, dChain, dBits, dIndex, dOwn, nLst, nList, nRep, nCat, nLc, dApnd, dSetO, dIxO, onOwn, dSelfSet, dSelf, dCall, dMake, dMeth, dProp, dOrE, dSl, dNoP, dP, dEnum, dZip, dYes, dOrI,   gTru, gN1, gN2, rstart, istart, List.map_cons, List.map_nil, List.length_cons, List.length_nil, List.cons_append, List.nil_append, List.append_nil, List.replicate, List.getElem?_cons_zero, List.getElem?_cons_succ, List.set_cons_zero, List.set_cons_succ, Nat.sub_zero, Nat.reduceAdd, Nat.reduceSub, Nat.zero_add, if_true, Bool.false_eq_true, if_false, Int.zero_add, ite_ap, TT2, true_and, PV.int.injEq, exists_eq_left', List.cons.injEq, and_true, PV.ins.injEq, Option.some.injEq, gF, gOwn, gTruO, dGLst, dGTup, dGCons, dGNil, gLen]
      refine ⟨A, B, L, back, i, rfl, g1, g2, g3, ?_⟩
      refine kk _ _ ?_
      rw [← hR.co hB2 i]
      show _ = (List.range (i + 1)).map _
      rw [List.range_succ, List.map_append]
      rfl
    · rintro acc n' rfl
      simp only [dSeq, dNext, dIf, dTst, dTru, dBin, dUn, dApp, dVar, dC, dAsg, dNm, dAug, dDrop, dRet, dRetN, dBrk, dCnt, dNever, dFrz, dPeek, dPeekB, dPar, dFor, dRng1, dRng2, dSeqI, dTupI, dNil, dCons, dTup, dLst, dAnd, dOr, dNot, dIfE, dAndV, dOrV, dNotV, dChain, dBits, dIndex, dOwn, nLst, nList, nRep, nCat, nLc, dApnd, dSetO, dIxO, onOwn, dSelfSet, dSelf, dCall, dMake, dMeth, dProp, dOrE, dSl, dNoP, dP, dEnum, dZip, dYes, dOrI,   gTru, gN1, gN2, rstart, istart, List.map_cons, List.map_nil, List.length_cons, List.length_nil, List.cons_append, List.nil_append, List.append_nil, List.replicate, List.getElem?_cons_zero, List.getElem?_cons_succ, List.set_cons_zero, List.set_cons_succ, Nat.sub_zero, Nat.reduceAdd, Nat.reduceSub, Nat.zero_add, if_true, Bool.false_eq_true, if_false, Int.zero_add, ite_ap, TT2, true_and, PV.int.injEq, exists_eq_left', List.cons.injEq, and_true, PV.ins.injEq, Option.some.injEq, gF, gOwn, gTruO, dGLst, dGTup, dGCons, dGNil, gLen, gTuple, gEq, peq_tup]
      rw [rng_length]
      refine ⟨⟨okDs_ints _, okDs_ints _⟩, ?_⟩
      rw [show peqs (cbs a b 20) (cbs a b 20) = true from peqs_ints _]
      exact q _
end
end K09

set_option maxRecDepth 100000
set_option maxHeartbeats 4000000
namespace K09
open PySem L2 DL GF
def spLaw (K : PySem.W.Frag) : Sp := fun vs H Q E => ∀ cm : Nat → Addr, liftSp (parA cm fnm) K D_law vs H Q E
theorem spLaw_end {K : PySem.W.Frag} {H : Hp} (a : Addr) (ns : List Int) (hl : ns.length ≤ 63) (hb : ∀ z ∈ ns, Builtin.Int.intBits z ≤ 1048576) (hS : SqL K H a (ns.map V.int)) : spLaw K [.ref a] H (fun v _ => v = .bl true) (fun _ _ _ => False) := fun cm => law_lift hl hS
theorem law_end {P : Program} {w : World} {K : PySem.W.Frag} {mg : Str → Option Value} {base : Heap} (T : Tx K mg) : FnOk P w K mg base (L2.CX P w) 7 T.f_law T.d_law ["_law_script"] (spLaw K) := (ok_law T).ok.imp fun vs H Q E q => q (cmap T)
theorem all_mk {l : PySem.W.OpenLaw} {w : World} {K : PySem.W.Frag} {h : Heap} {mg : Str → Option Value} {fa : Addr} (X : K.In h) (G : h.Ns mainGlobals mg) (hfa : mg "law" = some (.ref fa))
    {C_Poly C_Ratio f_times_of f_divided f_Poly___init__ TD_Poly___init__ f_Poly_degree p_Poly_degree f_Poly_bit f_Poly___bool__ f_every_other f_Ratio_is_real p_Ratio_is_real f_l_start f_l_draw f_l_cycle f_l_far f_Poly___add__ f_Poly___mul__ f_Poly___floordiv__ f_gcd_of f_Ratio_check_beat f_Ratio___init__ TD_Ratio___init__ f_Ratio_bits f_Ratio_bit f_l_still f_Ratio___add__ f_Ratio___mul__ f_Ratio_z p_Ratio_z f_law : Addr}
    {oc_times_of kV_times_of dc_times_of pm_times_of cd_times_of ct_times_of oc_divided kV_divided dc_divided pm_divided cd_divided ct_divided oc_Poly___init__ kV_Poly___init__ dc_Poly___init__ pm_Poly___init__ cd_Poly___init__ ct_Poly___init__ ocT_Poly___init__ oc_Poly_degree kV_Poly_degree dc_Poly_degree pm_Poly_degree cd_Poly_degree ct_Poly_degree oc_Poly_bit kV_Poly_bit dc_Poly_bit pm_Poly_bit cd_Poly_bit ct_Poly_bit oc_Poly___bool__ kV_Poly___bool__ dc_Poly___bool__ pm_Poly___bool__ cd_Poly___bool__ ct_Poly___bool__ oc_every_other kV_every_other dc_every_other pm_every_other cd_every_other ct_every_other oc_Ratio_is_real kV_Ratio_is_real dc_Ratio_is_real pm_Ratio_is_real cd_Ratio_is_real ct_Ratio_is_real oc_l_start kV_l_start dc_l_start pm_l_start cd_l_start ct_l_start oc_l_draw kV_l_draw dc_l_draw pm_l_draw cd_l_draw ct_l_draw oc_l_cycle kV_l_cycle dc_l_cycle pm_l_cycle cd_l_cycle ct_l_cycle oc_l_far kV_l_far dc_l_far pm_l_far cd_l_far ct_l_far oc_Poly___add__ kV_Poly___add__ dc_Poly___add__ pm_Poly___add__ cd_Poly___add__ ct_Poly___add__ oc_Poly___mul__ kV_Poly___mul__ dc_Poly___mul__ pm_Poly___mul__ cd_Poly___mul__ ct_Poly___mul__ oc_Poly___floordiv__ kV_Poly___floordiv__ dc_Poly___floordiv__ pm_Poly___floordiv__ cd_Poly___floordiv__ ct_Poly___floordiv__ oc_gcd_of kV_gcd_of dc_gcd_of pm_gcd_of cd_gcd_of ct_gcd_of oc_Ratio_check_beat kV_Ratio_check_beat dc_Ratio_check_beat pm_Ratio_check_beat cd_Ratio_check_beat ct_Ratio_check_beat oc_Ratio___init__ kV_Ratio___init__ dc_Ratio___init__ pm_Ratio___init__ cd_Ratio___init__ ct_Ratio___init__ ocT_Ratio___init__ oc_Ratio_bits kV_Ratio_bits dc_Ratio_bits pm_Ratio_bits cd_Ratio_bits ct_Ratio_bits oc_Ratio_bit kV_Ratio_bit dc_Ratio_bit pm_Ratio_bit cd_Ratio_bit ct_Ratio_bit oc_l_still kV_l_still dc_l_still pm_l_still cd_l_still ct_l_still oc_Ratio___add__ kV_Ratio___add__ dc_Ratio___add__ pm_Ratio___add__ cd_Ratio___add__ ct_Ratio___add__ oc_Ratio___mul__ kV_Ratio___mul__ dc_Ratio___mul__ pm_Ratio___mul__ cd_Ratio___mul__ ct_Ratio___mul__ oc_Ratio_z kV_Ratio_z dc_Ratio_z pm_Ratio_z cd_Ratio_z ct_Ratio_z oc_law kV_law dc_law pm_law cd_law ct_law : Value}
    {od_times_of an_times_of od_divided an_divided od_Poly___init__ an_Poly___init__ odT_Poly___init__ od_Poly_degree an_Poly_degree od_Poly_bit an_Poly_bit od_Poly___bool__ an_Poly___bool__ od_every_other an_every_other od_Ratio_is_real an_Ratio_is_real od_l_start an_l_start od_l_draw an_l_draw od_l_cycle an_l_cycle od_l_far an_l_far od_Poly___add__ an_Poly___add__ od_Poly___mul__ an_Poly___mul__ od_Poly___floordiv__ an_Poly___floordiv__ od_gcd_of an_gcd_of od_Ratio_check_beat an_Ratio_check_beat od_Ratio___init__ an_Ratio___init__ odT_Ratio___init__ od_Ratio_bits an_Ratio_bits od_Ratio_bit an_Ratio_bit od_l_still an_l_still od_Ratio___add__ an_Ratio___add__ od_Ratio___mul__ an_Ratio___mul__ od_Ratio_z an_Ratio_z od_law an_law : Option Addr}
    {sl_times_of sl_divided sl_Poly___init__ slT_Poly___init__ sl_Poly_degree sl_Poly_bit sl_Poly___bool__ sl_every_other sl_Ratio_is_real sl_l_start sl_l_draw sl_l_cycle sl_l_far sl_Poly___add__ sl_Poly___mul__ sl_Poly___floordiv__ sl_gcd_of sl_Ratio_check_beat sl_Ratio___init__ slT_Ratio___init__ sl_Ratio_bits sl_Ratio_bit sl_l_still sl_Ratio___add__ sl_Ratio___mul__ sl_Ratio_z sl_law : Array (Option Value)}
    {its_Poly___init__ its_Ratio___init__ : Array Value}
    {nT_Poly___init__ nT_Ratio___init__ : Nat}
    {rs_Poly_degree rs_Ratio_is_real rs_Ratio_z : List Value}
    (z_bool : PySem.W.nsIn K mainGlobals "bool" = some none)
    (z_int : PySem.W.nsIn K mainGlobals "int" = some none)
    (z_len : PySem.W.nsIn K mainGlobals "len" = some none)
    (z_list : PySem.W.nsIn K mainGlobals "list" = some none)
    (z_range : PySem.W.nsIn K mainGlobals "range" = some none)
    (z_tuple : PySem.W.nsIn K mainGlobals "tuple" = some none)
    (a_Poly : PySem.W.nsIn K mainGlobals "Poly" = some (some (.ref C_Poly)))
    (pg_Poly : PySem.W.plainGet K C_Poly Str.empty = true)
    (hd_Poly : PySem.W.hasDictIn K C_Poly = true)
    (po_Poly : PySem.W.plainOver K C_Poly = true)
    (sa_Poly : PySem.W.findIn K (.ref C_Poly) "__setattr__" = some (some (.builtin "object.__setattr__")))
    (a_Ratio : PySem.W.nsIn K mainGlobals "Ratio" = some (some (.ref C_Ratio)))
    (pg_Ratio : PySem.W.plainGet K C_Ratio Str.empty = true)
    (hd_Ratio : PySem.W.hasDictIn K C_Ratio = true)
    (po_Ratio : PySem.W.plainOver K C_Ratio = true)
    (sa_Ratio : PySem.W.findIn K (.ref C_Ratio) "__setattr__" = some (some (.builtin "object.__setattr__")))
    (na_Poly_number : PySem.W.findIn K (.ref C_Poly) "number" = some none)
    (na_Ratio_above : PySem.W.findIn K (.ref C_Ratio) "above" = some none)
    (na_Ratio_below : PySem.W.findIn K (.ref C_Ratio) "below" = some none)
    (sf_Poly : PySem.W.selfFirst K C_Poly = true)
    (sf_Ratio : PySem.W.selfFirst K C_Ratio = true)
    (g_times_of : PySem.W.nsIn K mainGlobals "times_of" = some (some (.ref f_times_of)))
    (l_times_of : K.lookup f_times_of = some ⟨oc_times_of, od_times_of, .func (PySem.W.fnOf "times_of" "times_of" (defArgs s_times_of) (defBody s_times_of) (defScope s_times_of) .none kV_times_of dc_times_of pm_times_of an_times_of cd_times_of ct_times_of), sl_times_of⟩)
    (e_times_of : PySem.W.codeIn K cd_times_of "times_of" = true)
    (k_times_of : PySem.W.keepIn K (.ref f_times_of) = true)
    (g_divided : PySem.W.nsIn K mainGlobals "divided" = some (some (.ref f_divided)))
    (l_divided : K.lookup f_divided = some ⟨oc_divided, od_divided, .func (PySem.W.fnOf "divided" "divided" (defArgs s_divided) (defBody s_divided) (defScope s_divided) .none kV_divided dc_divided pm_divided an_divided cd_divided ct_divided), sl_divided⟩)
    (e_divided : PySem.W.codeIn K cd_divided "divided" = true)
    (k_divided : PySem.W.keepIn K (.ref f_divided) = true)
    (g_Poly___init__ : PySem.W.findIn K (.ref C_Poly) "__init__" = some (some (.ref f_Poly___init__)))
    (i_Poly___init__ : PySem.W.isFn K (.ref f_Poly___init__) = true)
    (l_Poly___init__ : K.lookup f_Poly___init__ = some ⟨oc_Poly___init__, od_Poly___init__, .func (PySem.W.fnOf "__init__" "Poly.__init__" (defArgs s_Poly___init__) (defBody s_Poly___init__) (defScope s_Poly___init__) (.ref TD_Poly___init__) kV_Poly___init__ dc_Poly___init__ pm_Poly___init__ an_Poly___init__ cd_Poly___init__ ct_Poly___init__), sl_Poly___init__⟩)
    (e_Poly___init__ : PySem.W.codeIn K cd_Poly___init__ "Poly.__init__" = true)
    (k_Poly___init__ : PySem.W.keepIn K (.ref f_Poly___init__) = true)
    (lT_Poly___init__ : K.lookup TD_Poly___init__ = some ⟨ocT_Poly___init__, odT_Poly___init__, .seq its_Poly___init__ nT_Poly___init__, slT_Poly___init__⟩)
    (vT_Poly___init__ : L2.Vals [V.int 0] its_Poly___init__.toList)
    (mk_Poly : PySem.W.makesIn K C_Poly = true)
    (kp_Poly : PySem.W.keepIn K (.ref C_Poly) = true)
    (g_Poly_degree : PySem.W.findIn K (.ref C_Poly) "degree" = some (some (.ref p_Poly_degree)))
    (h_Poly_degree : PySem.W.specialIn K (.ref p_Poly_degree) "__get__" = some (some (.builtin "property.__get__")))
    (t_Poly_degree : PySem.W.takesIn K (.ref p_Poly_degree) = some true)
    (r_Poly_degree : PySem.W.recIn K p_Poly_degree "property" = some (.ref f_Poly_degree :: rs_Poly_degree))
    (l_Poly_degree : K.lookup f_Poly_degree = some ⟨oc_Poly_degree, od_Poly_degree, .func (PySem.W.fnOf "degree" "Poly.degree" (defArgs s_Poly_degree) (defBody s_Poly_degree) (defScope s_Poly_degree) .none kV_Poly_degree dc_Poly_degree pm_Poly_degree an_Poly_degree cd_Poly_degree ct_Poly_degree), sl_Poly_degree⟩)
    (e_Poly_degree : PySem.W.codeIn K cd_Poly_degree "Poly.degree" = true)
    (k_Poly_degree : PySem.W.keepIn K (.ref f_Poly_degree) = true)
    (g_Poly_bit : PySem.W.findIn K (.ref C_Poly) "bit" = some (some (.ref f_Poly_bit)))
    (i_Poly_bit : PySem.W.isFn K (.ref f_Poly_bit) = true)
    (l_Poly_bit : K.lookup f_Poly_bit = some ⟨oc_Poly_bit, od_Poly_bit, .func (PySem.W.fnOf "bit" "Poly.bit" (defArgs s_Poly_bit) (defBody s_Poly_bit) (defScope s_Poly_bit) .none kV_Poly_bit dc_Poly_bit pm_Poly_bit an_Poly_bit cd_Poly_bit ct_Poly_bit), sl_Poly_bit⟩)
    (e_Poly_bit : PySem.W.codeIn K cd_Poly_bit "Poly.bit" = true)
    (k_Poly_bit : PySem.W.keepIn K (.ref f_Poly_bit) = true)
    (g_Poly___bool__ : PySem.W.findIn K (.ref C_Poly) "__bool__" = some (some (.ref f_Poly___bool__)))
    (i_Poly___bool__ : PySem.W.isFn K (.ref f_Poly___bool__) = true)
    (l_Poly___bool__ : K.lookup f_Poly___bool__ = some ⟨oc_Poly___bool__, od_Poly___bool__, .func (PySem.W.fnOf "__bool__" "Poly.__bool__" (defArgs s_Poly___bool__) (defBody s_Poly___bool__) (defScope s_Poly___bool__) .none kV_Poly___bool__ dc_Poly___bool__ pm_Poly___bool__ an_Poly___bool__ cd_Poly___bool__ ct_Poly___bool__), sl_Poly___bool__⟩)
    (e_Poly___bool__ : PySem.W.codeIn K cd_Poly___bool__ "Poly.__bool__" = true)
    (k_Poly___bool__ : PySem.W.keepIn K (.ref f_Poly___bool__) = true)
    (g_every_other : PySem.W.nsIn K mainGlobals "every_other" = some (some (.ref f_every_other)))
    (l_every_other : K.lookup f_every_other = some ⟨oc_every_other, od_every_other, .func (PySem.W.fnOf "every_other" "every_other" (defArgs s_every_other) (defBody s_every_other) (defScope s_every_other) .none kV_every_other dc_every_other pm_every_other an_every_other cd_every_other ct_every_other), sl_every_other⟩)
    (e_every_other : PySem.W.codeIn K cd_every_other "every_other" = true)
    (k_every_other : PySem.W.keepIn K (.ref f_every_other) = true)
    (g_Ratio_is_real : PySem.W.findIn K (.ref C_Ratio) "is_real" = some (some (.ref p_Ratio_is_real)))
    (h_Ratio_is_real : PySem.W.specialIn K (.ref p_Ratio_is_real) "__get__" = some (some (.builtin "property.__get__")))
    (t_Ratio_is_real : PySem.W.takesIn K (.ref p_Ratio_is_real) = some true)
    (r_Ratio_is_real : PySem.W.recIn K p_Ratio_is_real "property" = some (.ref f_Ratio_is_real :: rs_Ratio_is_real))
    (l_Ratio_is_real : K.lookup f_Ratio_is_real = some ⟨oc_Ratio_is_real, od_Ratio_is_real, .func (PySem.W.fnOf "is_real" "Ratio.is_real" (defArgs s_Ratio_is_real) (defBody s_Ratio_is_real) (defScope s_Ratio_is_real) .none kV_Ratio_is_real dc_Ratio_is_real pm_Ratio_is_real an_Ratio_is_real cd_Ratio_is_real ct_Ratio_is_real), sl_Ratio_is_real⟩)
    (e_Ratio_is_real : PySem.W.codeIn K cd_Ratio_is_real "Ratio.is_real" = true)
    (k_Ratio_is_real : PySem.W.keepIn K (.ref f_Ratio_is_real) = true)
    (g_l_start : PySem.W.nsIn K mainGlobals "_law_start" = some (some (.ref f_l_start)))
    (l_l_start : K.lookup f_l_start = some ⟨oc_l_start, od_l_start, .func (PySem.W.fnOf "_law_start" "_law_start" (defArgs s_l_start) (defBody s_l_start) (defScope s_l_start) .none kV_l_start dc_l_start pm_l_start an_l_start cd_l_start ct_l_start), sl_l_start⟩)
    (e_l_start : PySem.W.codeIn K cd_l_start "_law_start" = true)
    (k_l_start : PySem.W.keepIn K (.ref f_l_start) = true)
    (g_l_draw : PySem.W.nsIn K mainGlobals "_law_draw" = some (some (.ref f_l_draw)))
    (l_l_draw : K.lookup f_l_draw = some ⟨oc_l_draw, od_l_draw, .func (PySem.W.fnOf "_law_draw" "_law_draw" (defArgs s_l_draw) (defBody s_l_draw) (defScope s_l_draw) .none kV_l_draw dc_l_draw pm_l_draw an_l_draw cd_l_draw ct_l_draw), sl_l_draw⟩)
    (e_l_draw : PySem.W.codeIn K cd_l_draw "_law_draw" = true)
    (k_l_draw : PySem.W.keepIn K (.ref f_l_draw) = true)
    (g_l_cycle : PySem.W.nsIn K mainGlobals "_law_cycle" = some (some (.ref f_l_cycle)))
    (l_l_cycle : K.lookup f_l_cycle = some ⟨oc_l_cycle, od_l_cycle, .func (PySem.W.fnOf "_law_cycle" "_law_cycle" (defArgs s_l_cycle) (defBody s_l_cycle) (defScope s_l_cycle) .none kV_l_cycle dc_l_cycle pm_l_cycle an_l_cycle cd_l_cycle ct_l_cycle), sl_l_cycle⟩)
    (e_l_cycle : PySem.W.codeIn K cd_l_cycle "_law_cycle" = true)
    (k_l_cycle : PySem.W.keepIn K (.ref f_l_cycle) = true)
    (g_l_far : PySem.W.nsIn K mainGlobals "_law_far" = some (some (.ref f_l_far)))
    (l_l_far : K.lookup f_l_far = some ⟨oc_l_far, od_l_far, .func (PySem.W.fnOf "_law_far" "_law_far" (defArgs s_l_far) (defBody s_l_far) (defScope s_l_far) .none kV_l_far dc_l_far pm_l_far an_l_far cd_l_far ct_l_far), sl_l_far⟩)
    (e_l_far : PySem.W.codeIn K cd_l_far "_law_far" = true)
    (k_l_far : PySem.W.keepIn K (.ref f_l_far) = true)
    (g_Poly___add__ : PySem.W.findIn K (.ref C_Poly) "__add__" = some (some (.ref f_Poly___add__)))
    (i_Poly___add__ : PySem.W.isFn K (.ref f_Poly___add__) = true)
    (l_Poly___add__ : K.lookup f_Poly___add__ = some ⟨oc_Poly___add__, od_Poly___add__, .func (PySem.W.fnOf "__add__" "Poly.__add__" (defArgs s_Poly___add__) (defBody s_Poly___add__) (defScope s_Poly___add__) .none kV_Poly___add__ dc_Poly___add__ pm_Poly___add__ an_Poly___add__ cd_Poly___add__ ct_Poly___add__), sl_Poly___add__⟩)
    (e_Poly___add__ : PySem.W.codeIn K cd_Poly___add__ "Poly.__add__" = true)
    (k_Poly___add__ : PySem.W.keepIn K (.ref f_Poly___add__) = true)
    (g_Poly___mul__ : PySem.W.findIn K (.ref C_Poly) "__mul__" = some (some (.ref f_Poly___mul__)))
    (i_Poly___mul__ : PySem.W.isFn K (.ref f_Poly___mul__) = true)
    (l_Poly___mul__ : K.lookup f_Poly___mul__ = some ⟨oc_Poly___mul__, od_Poly___mul__, .func (PySem.W.fnOf "__mul__" "Poly.__mul__" (defArgs s_Poly___mul__) (defBody s_Poly___mul__) (defScope s_Poly___mul__) .none kV_Poly___mul__ dc_Poly___mul__ pm_Poly___mul__ an_Poly___mul__ cd_Poly___mul__ ct_Poly___mul__), sl_Poly___mul__⟩)
    (e_Poly___mul__ : PySem.W.codeIn K cd_Poly___mul__ "Poly.__mul__" = true)
    (k_Poly___mul__ : PySem.W.keepIn K (.ref f_Poly___mul__) = true)
    (g_Poly___floordiv__ : PySem.W.findIn K (.ref C_Poly) "__floordiv__" = some (some (.ref f_Poly___floordiv__)))
    (i_Poly___floordiv__ : PySem.W.isFn K (.ref f_Poly___floordiv__) = true)
    (l_Poly___floordiv__ : K.lookup f_Poly___floordiv__ = some ⟨oc_Poly___floordiv__, od_Poly___floordiv__, .func (PySem.W.fnOf "__floordiv__" "Poly.__floordiv__" (defArgs s_Poly___floordiv__) (defBody s_Poly___floordiv__) (defScope s_Poly___floordiv__) .none kV_Poly___floordiv__ dc_Poly___floordiv__ pm_Poly___floordiv__ an_Poly___floordiv__ cd_Poly___floordiv__ ct_Poly___floordiv__), sl_Poly___floordiv__⟩)
    (e_Poly___floordiv__ : PySem.W.codeIn K cd_Poly___floordiv__ "Poly.__floordiv__" = true)
    (k_Poly___floordiv__ : PySem.W.keepIn K (.ref f_Poly___floordiv__) = true)
    (g_gcd_of : PySem.W.nsIn K mainGlobals "gcd_of" = some (some (.ref f_gcd_of)))
    (l_gcd_of : K.lookup f_gcd_of = some ⟨oc_gcd_of, od_gcd_of, .func (PySem.W.fnOf "gcd_of" "gcd_of" (defArgs s_gcd_of) (defBody s_gcd_of) (defScope s_gcd_of) .none kV_gcd_of dc_gcd_of pm_gcd_of an_gcd_of cd_gcd_of ct_gcd_of), sl_gcd_of⟩)
    (e_gcd_of : PySem.W.codeIn K cd_gcd_of "gcd_of" = true)
    (k_gcd_of : PySem.W.keepIn K (.ref f_gcd_of) = true)
    (g_Ratio_check_beat : PySem.W.findIn K (.ref C_Ratio) "check_beat" = some (some (.ref f_Ratio_check_beat)))
    (i_Ratio_check_beat : PySem.W.isFn K (.ref f_Ratio_check_beat) = true)
    (l_Ratio_check_beat : K.lookup f_Ratio_check_beat = some ⟨oc_Ratio_check_beat, od_Ratio_check_beat, .func (PySem.W.fnOf "check_beat" "Ratio.check_beat" (defArgs s_Ratio_check_beat) (defBody s_Ratio_check_beat) (defScope s_Ratio_check_beat) .none kV_Ratio_check_beat dc_Ratio_check_beat pm_Ratio_check_beat an_Ratio_check_beat cd_Ratio_check_beat ct_Ratio_check_beat), sl_Ratio_check_beat⟩)
    (e_Ratio_check_beat : PySem.W.codeIn K cd_Ratio_check_beat "Ratio.check_beat" = true)
    (k_Ratio_check_beat : PySem.W.keepIn K (.ref f_Ratio_check_beat) = true)
    (g_Ratio___init__ : PySem.W.findIn K (.ref C_Ratio) "__init__" = some (some (.ref f_Ratio___init__)))
    (i_Ratio___init__ : PySem.W.isFn K (.ref f_Ratio___init__) = true)
    (l_Ratio___init__ : K.lookup f_Ratio___init__ = some ⟨oc_Ratio___init__, od_Ratio___init__, .func (PySem.W.fnOf "__init__" "Ratio.__init__" (defArgs s_Ratio___init__) (defBody s_Ratio___init__) (defScope s_Ratio___init__) (.ref TD_Ratio___init__) kV_Ratio___init__ dc_Ratio___init__ pm_Ratio___init__ an_Ratio___init__ cd_Ratio___init__ ct_Ratio___init__), sl_Ratio___init__⟩)
    (e_Ratio___init__ : PySem.W.codeIn K cd_Ratio___init__ "Ratio.__init__" = true)
    (k_Ratio___init__ : PySem.W.keepIn K (.ref f_Ratio___init__) = true)
    (lT_Ratio___init__ : K.lookup TD_Ratio___init__ = some ⟨ocT_Ratio___init__, odT_Ratio___init__, .seq its_Ratio___init__ nT_Ratio___init__, slT_Ratio___init__⟩)
    (vT_Ratio___init__ : L2.Vals [V.non] its_Ratio___init__.toList)
    (mk_Ratio : PySem.W.makesIn K C_Ratio = true)
    (kp_Ratio : PySem.W.keepIn K (.ref C_Ratio) = true)
    (g_Ratio_bits : PySem.W.findIn K (.ref C_Ratio) "bits" = some (some (.ref f_Ratio_bits)))
    (i_Ratio_bits : PySem.W.isFn K (.ref f_Ratio_bits) = true)
    (l_Ratio_bits : K.lookup f_Ratio_bits = some ⟨oc_Ratio_bits, od_Ratio_bits, .func (PySem.W.fnOf "bits" "Ratio.bits" (defArgs s_Ratio_bits) (defBody s_Ratio_bits) (defScope s_Ratio_bits) .none kV_Ratio_bits dc_Ratio_bits pm_Ratio_bits an_Ratio_bits cd_Ratio_bits ct_Ratio_bits), sl_Ratio_bits⟩)
    (e_Ratio_bits : PySem.W.codeIn K cd_Ratio_bits "Ratio.bits" = true)
    (k_Ratio_bits : PySem.W.keepIn K (.ref f_Ratio_bits) = true)
    (g_Ratio_bit : PySem.W.findIn K (.ref C_Ratio) "bit" = some (some (.ref f_Ratio_bit)))
    (i_Ratio_bit : PySem.W.isFn K (.ref f_Ratio_bit) = true)
    (l_Ratio_bit : K.lookup f_Ratio_bit = some ⟨oc_Ratio_bit, od_Ratio_bit, .func (PySem.W.fnOf "bit" "Ratio.bit" (defArgs s_Ratio_bit) (defBody s_Ratio_bit) (defScope s_Ratio_bit) .none kV_Ratio_bit dc_Ratio_bit pm_Ratio_bit an_Ratio_bit cd_Ratio_bit ct_Ratio_bit), sl_Ratio_bit⟩)
    (e_Ratio_bit : PySem.W.codeIn K cd_Ratio_bit "Ratio.bit" = true)
    (k_Ratio_bit : PySem.W.keepIn K (.ref f_Ratio_bit) = true)
    (g_l_still : PySem.W.nsIn K mainGlobals "_law_still" = some (some (.ref f_l_still)))
    (l_l_still : K.lookup f_l_still = some ⟨oc_l_still, od_l_still, .func (PySem.W.fnOf "_law_still" "_law_still" (defArgs s_l_still) (defBody s_l_still) (defScope s_l_still) .none kV_l_still dc_l_still pm_l_still an_l_still cd_l_still ct_l_still), sl_l_still⟩)
    (e_l_still : PySem.W.codeIn K cd_l_still "_law_still" = true)
    (k_l_still : PySem.W.keepIn K (.ref f_l_still) = true)
    (g_Ratio___add__ : PySem.W.findIn K (.ref C_Ratio) "__add__" = some (some (.ref f_Ratio___add__)))
    (i_Ratio___add__ : PySem.W.isFn K (.ref f_Ratio___add__) = true)
    (l_Ratio___add__ : K.lookup f_Ratio___add__ = some ⟨oc_Ratio___add__, od_Ratio___add__, .func (PySem.W.fnOf "__add__" "Ratio.__add__" (defArgs s_Ratio___add__) (defBody s_Ratio___add__) (defScope s_Ratio___add__) .none kV_Ratio___add__ dc_Ratio___add__ pm_Ratio___add__ an_Ratio___add__ cd_Ratio___add__ ct_Ratio___add__), sl_Ratio___add__⟩)
    (e_Ratio___add__ : PySem.W.codeIn K cd_Ratio___add__ "Ratio.__add__" = true)
    (k_Ratio___add__ : PySem.W.keepIn K (.ref f_Ratio___add__) = true)
    (g_Ratio___mul__ : PySem.W.findIn K (.ref C_Ratio) "__mul__" = some (some (.ref f_Ratio___mul__)))
    (i_Ratio___mul__ : PySem.W.isFn K (.ref f_Ratio___mul__) = true)
    (l_Ratio___mul__ : K.lookup f_Ratio___mul__ = some ⟨oc_Ratio___mul__, od_Ratio___mul__, .func (PySem.W.fnOf "__mul__" "Ratio.__mul__" (defArgs s_Ratio___mul__) (defBody s_Ratio___mul__) (defScope s_Ratio___mul__) .none kV_Ratio___mul__ dc_Ratio___mul__ pm_Ratio___mul__ an_Ratio___mul__ cd_Ratio___mul__ ct_Ratio___mul__), sl_Ratio___mul__⟩)
    (e_Ratio___mul__ : PySem.W.codeIn K cd_Ratio___mul__ "Ratio.__mul__" = true)
    (k_Ratio___mul__ : PySem.W.keepIn K (.ref f_Ratio___mul__) = true)
    (g_Ratio_z : PySem.W.findCls K (.ref C_Ratio) (.type "type") "z" = some (.get (.builtin "staticmethod.__get__") (.ref p_Ratio_z) .none (.ref C_Ratio)))
    (h_Ratio_z : PySem.W.readsIn K C_Ratio (.type "type") = true)
    (t_Ratio_z : PySem.W.specialIn K (.ref C_Ratio) "__getattribute__" = some (some (.builtin "type.__getattribute__")))
    (r_Ratio_z : PySem.W.recIn K p_Ratio_z "staticmethod" = some (.ref f_Ratio_z :: rs_Ratio_z))
    (l_Ratio_z : K.lookup f_Ratio_z = some ⟨oc_Ratio_z, od_Ratio_z, .func (PySem.W.fnOf "z" "Ratio.z" (defArgs s_Ratio_z) (defBody s_Ratio_z) (defScope s_Ratio_z) .none kV_Ratio_z dc_Ratio_z pm_Ratio_z an_Ratio_z cd_Ratio_z ct_Ratio_z), sl_Ratio_z⟩)
    (e_Ratio_z : PySem.W.codeIn K cd_Ratio_z "Ratio.z" = true)
    (k_Ratio_z : PySem.W.keepIn K (.ref f_Ratio_z) = true)
    (g_law : PySem.W.nsIn K mainGlobals "law" = some (some (.ref f_law)))
    (l_law : K.lookup f_law = some ⟨oc_law, od_law, .func (PySem.W.fnOf "law" "law" (defArgs s_law) (defBody s_law) (defScope s_law) .none kV_law dc_law pm_law an_law cd_law ct_law), sl_law⟩)
    (e_law : PySem.W.codeIn K cd_law "law" = true)
    (k_law : PySem.W.keepIn K (.ref f_law) = true)
    : ∃ fd : FuncData, (∀ (s : Shared) (v : Value), BindsTo s fd ⟨[v], []⟩ [("_law_script", v)]) ∧ ∀ base : Heap, K.In base → base.Ns mainGlobals mg → FnOk l.prog w K mg base (L2.CX l.prog w) 7 fa fd ["_law_script"] (spLaw K) := by
  have e := Option.some.inj ((PySem.W.mg_of X G g_law).symm.trans hfa)
  have e2 : f_law = fa := by injection e
  subst e2
  let T : Tx K mg := {
    z_bool := (PySem.W.mg_none_of X G z_bool)
    z_int := (PySem.W.mg_none_of X G z_int)
    z_len := (PySem.W.mg_none_of X G z_len)
    z_list := (PySem.W.mg_none_of X G z_list)
    z_range := (PySem.W.mg_none_of X G z_range)
    z_tuple := (PySem.W.mg_none_of X G z_tuple)
    c_Poly := (C_Poly)
    m_Poly := (PySem.W.mg_of X G a_Poly)
    cl_Poly := (⟨pg_Poly, hd_Poly, po_Poly, sa_Poly⟩)
    c_Ratio := (C_Ratio)
    m_Ratio := (PySem.W.mg_of X G a_Ratio)
    cl_Ratio := (⟨pg_Ratio, hd_Ratio, po_Ratio, sa_Ratio⟩)
    na_Poly_number := (na_Poly_number)
    na_Ratio_above := (na_Ratio_above)
    na_Ratio_below := (na_Ratio_below)
    sf_Poly := (sf_Poly)
    sf_Ratio := (sf_Ratio)
    f_times_of := (f_times_of)
    d_times_of := (PySem.W.fnOf "times_of" "times_of" (defArgs s_times_of) (defBody s_times_of) (defScope s_times_of) .none kV_times_of dc_times_of pm_times_of an_times_of cd_times_of ct_times_of)
    F_times_of := (fun_mk (st := s_times_of) l_times_of e_times_of k_times_of)
    b_times_of := ((fun_mk (st := s_times_of) l_times_of e_times_of k_times_of).binds (ps := ["one", "other"]) fun _ _ _ _ _ _ us hl => match us, hl with | [_, _], _ => rfl)
    m_times_of := (PySem.W.mg_of X G g_times_of)
    f_divided := (f_divided)
    d_divided := (PySem.W.fnOf "divided" "divided" (defArgs s_divided) (defBody s_divided) (defScope s_divided) .none kV_divided dc_divided pm_divided an_divided cd_divided ct_divided)
    F_divided := (fun_mk (st := s_divided) l_divided e_divided k_divided)
    b_divided := ((fun_mk (st := s_divided) l_divided e_divided k_divided).binds (ps := ["one", "other"]) fun _ _ _ _ _ _ us hl => match us, hl with | [_, _], _ => rfl)
    m_divided := (PySem.W.mg_of X G g_divided)
    f_Poly___init__ := (f_Poly___init__)
    d_Poly___init__ := (PySem.W.fnOf "__init__" "Poly.__init__" (defArgs s_Poly___init__) (defBody s_Poly___init__) (defScope s_Poly___init__) (.ref TD_Poly___init__) kV_Poly___init__ dc_Poly___init__ pm_Poly___init__ an_Poly___init__ cd_Poly___init__ ct_Poly___init__)
    F_Poly___init__ := ((⟨⟨oc_Poly___init__, od_Poly___init__, _, kV_Poly___init__, dc_Poly___init__, pm_Poly___init__, an_Poly___init__, cd_Poly___init__, ct_Poly___init__, sl_Poly___init__, rfl, l_Poly___init__, e_Poly___init__, .inr ⟨by simp, TD_Poly___init__, _, its_Poly___init__.toList, nT_Poly___init__, rfl, lT_Poly___init__, by simp, vT_Poly___init__⟩, .inl rfl⟩, k_Poly___init__⟩ : FunD K "__init__" "Poly.__init__" (defArgs s_Poly___init__) (defBody s_Poly___init__) (defScope s_Poly___init__) [V.int 0] [] f_Poly___init__ (PySem.W.fnOf "__init__" "Poly.__init__" (defArgs s_Poly___init__) (defBody s_Poly___init__) (defScope s_Poly___init__) (.ref TD_Poly___init__) kV_Poly___init__ dc_Poly___init__ pm_Poly___init__ an_Poly___init__ cd_Poly___init__ ct_Poly___init__)))
    bd0_Poly___init__ := ((⟨⟨oc_Poly___init__, od_Poly___init__, _, kV_Poly___init__, dc_Poly___init__, pm_Poly___init__, an_Poly___init__, cd_Poly___init__, ct_Poly___init__, sl_Poly___init__, rfl, l_Poly___init__, e_Poly___init__, .inr ⟨by simp, TD_Poly___init__, _, its_Poly___init__.toList, nT_Poly___init__, rfl, lT_Poly___init__, by simp, vT_Poly___init__⟩, .inl rfl⟩, k_Poly___init__⟩ : FunD K "__init__" "Poly.__init__" (defArgs s_Poly___init__) (defBody s_Poly___init__) (defScope s_Poly___init__) [V.int 0] [] f_Poly___init__ (PySem.W.fnOf "__init__" "Poly.__init__" (defArgs s_Poly___init__) (defBody s_Poly___init__) (defScope s_Poly___init__) (.ref TD_Poly___init__) kV_Poly___init__ dc_Poly___init__ pm_Poly___init__ an_Poly___init__ cd_Poly___init__ ct_Poly___init__)).binds1 (ps := ["self", "number"]) 2 1 (by simp) rfl fun _ _ _ _ _ _ _ us its h1 h2 => match us, h1, its, h2 with | [_, _], _, [_], _ => ⟨_, rfl, rfl⟩)
    bd1_Poly___init__ := ((⟨⟨oc_Poly___init__, od_Poly___init__, _, kV_Poly___init__, dc_Poly___init__, pm_Poly___init__, an_Poly___init__, cd_Poly___init__, ct_Poly___init__, sl_Poly___init__, rfl, l_Poly___init__, e_Poly___init__, .inr ⟨by simp, TD_Poly___init__, _, its_Poly___init__.toList, nT_Poly___init__, rfl, lT_Poly___init__, by simp, vT_Poly___init__⟩, .inl rfl⟩, k_Poly___init__⟩ : FunD K "__init__" "Poly.__init__" (defArgs s_Poly___init__) (defBody s_Poly___init__) (defScope s_Poly___init__) [V.int 0] [] f_Poly___init__ (PySem.W.fnOf "__init__" "Poly.__init__" (defArgs s_Poly___init__) (defBody s_Poly___init__) (defScope s_Poly___init__) (.ref TD_Poly___init__) kV_Poly___init__ dc_Poly___init__ pm_Poly___init__ an_Poly___init__ cd_Poly___init__ ct_Poly___init__)).binds1 (ps := ["self", "number"]) 1 0 (by simp) rfl fun _ _ _ _ _ _ _ us its h1 h2 => match us, h1, its, h2 with | [_], _, [_], _ => ⟨_, rfl, rfl⟩)
    mk_Poly := (⟨mk_Poly, g_Poly___init__, i_Poly___init__, kp_Poly⟩)
    f_Poly_degree := (f_Poly_degree)
    d_Poly_degree := (PySem.W.fnOf "degree" "Poly.degree" (defArgs s_Poly_degree) (defBody s_Poly_degree) (defScope s_Poly_degree) .none kV_Poly_degree dc_Poly_degree pm_Poly_degree an_Poly_degree cd_Poly_degree ct_Poly_degree)
    F_Poly_degree := (fun_mk (st := s_Poly_degree) l_Poly_degree e_Poly_degree k_Poly_degree)
    b_Poly_degree := ((fun_mk (st := s_Poly_degree) l_Poly_degree e_Poly_degree k_Poly_degree).binds (ps := ["self"]) fun _ _ _ _ _ _ us hl => match us, hl with | [_], _ => rfl)
    p_Poly_degree := (p_Poly_degree)
    pr_Poly_degree := (⟨g_Poly_degree, h_Poly_degree, t_Poly_degree, _, r_Poly_degree⟩)
    f_Poly_bit := (f_Poly_bit)
    d_Poly_bit := (PySem.W.fnOf "bit" "Poly.bit" (defArgs s_Poly_bit) (defBody s_Poly_bit) (defScope s_Poly_bit) .none kV_Poly_bit dc_Poly_bit pm_Poly_bit an_Poly_bit cd_Poly_bit ct_Poly_bit)
    F_Poly_bit := (fun_mk (st := s_Poly_bit) l_Poly_bit e_Poly_bit k_Poly_bit)
    b_Poly_bit := ((fun_mk (st := s_Poly_bit) l_Poly_bit e_Poly_bit k_Poly_bit).binds (ps := ["self", "n"]) fun _ _ _ _ _ _ us hl => match us, hl with | [_, _], _ => rfl)
    me_Poly_bit := (⟨g_Poly_bit, i_Poly_bit, k_Poly_bit⟩)
    f_Poly___bool__ := (f_Poly___bool__)
    d_Poly___bool__ := (PySem.W.fnOf "__bool__" "Poly.__bool__" (defArgs s_Poly___bool__) (defBody s_Poly___bool__) (defScope s_Poly___bool__) .none kV_Poly___bool__ dc_Poly___bool__ pm_Poly___bool__ an_Poly___bool__ cd_Poly___bool__ ct_Poly___bool__)
    F_Poly___bool__ := (fun_mk (st := s_Poly___bool__) l_Poly___bool__ e_Poly___bool__ k_Poly___bool__)
    b_Poly___bool__ := ((fun_mk (st := s_Poly___bool__) l_Poly___bool__ e_Poly___bool__ k_Poly___bool__).binds (ps := ["self"]) fun _ _ _ _ _ _ us hl => match us, hl with | [_], _ => rfl)
    me_Poly___bool__ := (⟨g_Poly___bool__, i_Poly___bool__, k_Poly___bool__⟩)
    ow_Poly___bool__ := (⟨g_Poly___bool__, i_Poly___bool__⟩)
    f_every_other := (f_every_other)
    d_every_other := (PySem.W.fnOf "every_other" "every_other" (defArgs s_every_other) (defBody s_every_other) (defScope s_every_other) .none kV_every_other dc_every_other pm_every_other an_every_other cd_every_other ct_every_other)
    F_every_other := (fun_mk (st := s_every_other) l_every_other e_every_other k_every_other)
    b_every_other := ((fun_mk (st := s_every_other) l_every_other e_every_other k_every_other).binds (ps := ["number", "first"]) fun _ _ _ _ _ _ us hl => match us, hl with | [_, _], _ => rfl)
    m_every_other := (PySem.W.mg_of X G g_every_other)
    f_Ratio_is_real := (f_Ratio_is_real)
    d_Ratio_is_real := (PySem.W.fnOf "is_real" "Ratio.is_real" (defArgs s_Ratio_is_real) (defBody s_Ratio_is_real) (defScope s_Ratio_is_real) .none kV_Ratio_is_real dc_Ratio_is_real pm_Ratio_is_real an_Ratio_is_real cd_Ratio_is_real ct_Ratio_is_real)
    F_Ratio_is_real := (fun_mk (st := s_Ratio_is_real) l_Ratio_is_real e_Ratio_is_real k_Ratio_is_real)
    b_Ratio_is_real := ((fun_mk (st := s_Ratio_is_real) l_Ratio_is_real e_Ratio_is_real k_Ratio_is_real).binds (ps := ["self"]) fun _ _ _ _ _ _ us hl => match us, hl with | [_], _ => rfl)
    p_Ratio_is_real := (p_Ratio_is_real)
    pr_Ratio_is_real := (⟨g_Ratio_is_real, h_Ratio_is_real, t_Ratio_is_real, _, r_Ratio_is_real⟩)
    f_l_start := (f_l_start)
    d_l_start := (PySem.W.fnOf "_law_start" "_law_start" (defArgs s_l_start) (defBody s_l_start) (defScope s_l_start) .none kV_l_start dc_l_start pm_l_start an_l_start cd_l_start ct_l_start)
    F_l_start := (fun_mk (st := s_l_start) l_l_start e_l_start k_l_start)
    b_l_start := ((fun_mk (st := s_l_start) l_l_start e_l_start k_l_start).binds (ps := ["_law_script"]) fun _ _ _ _ _ _ us hl => match us, hl with | [_], _ => rfl)
    m_l_start := (PySem.W.mg_of X G g_l_start)
    f_l_draw := (f_l_draw)
    d_l_draw := (PySem.W.fnOf "_law_draw" "_law_draw" (defArgs s_l_draw) (defBody s_l_draw) (defScope s_l_draw) .none kV_l_draw dc_l_draw pm_l_draw an_l_draw cd_l_draw ct_l_draw)
    F_l_draw := (fun_mk (st := s_l_draw) l_l_draw e_l_draw k_l_draw)
    b_l_draw := ((fun_mk (st := s_l_draw) l_l_draw e_l_draw k_l_draw).binds (ps := ["_law_state", "_law_many"]) fun _ _ _ _ _ _ us hl => match us, hl with | [_, _], _ => rfl)
    m_l_draw := (PySem.W.mg_of X G g_l_draw)
    f_l_cycle := (f_l_cycle)
    d_l_cycle := (PySem.W.fnOf "_law_cycle" "_law_cycle" (defArgs s_l_cycle) (defBody s_l_cycle) (defScope s_l_cycle) .none kV_l_cycle dc_l_cycle pm_l_cycle an_l_cycle cd_l_cycle ct_l_cycle)
    F_l_cycle := (fun_mk (st := s_l_cycle) l_l_cycle e_l_cycle k_l_cycle)
    b_l_cycle := ((fun_mk (st := s_l_cycle) l_l_cycle e_l_cycle k_l_cycle).binds (ps := ["_law_above", "_law_below"]) fun _ _ _ _ _ _ us hl => match us, hl with | [_, _], _ => rfl)
    m_l_cycle := (PySem.W.mg_of X G g_l_cycle)
    f_l_far := (f_l_far)
    d_l_far := (PySem.W.fnOf "_law_far" "_law_far" (defArgs s_l_far) (defBody s_l_far) (defScope s_l_far) .none kV_l_far dc_l_far pm_l_far an_l_far cd_l_far ct_l_far)
    F_l_far := (fun_mk (st := s_l_far) l_l_far e_l_far k_l_far)
    b_l_far := ((fun_mk (st := s_l_far) l_l_far e_l_far k_l_far).binds (ps := ["_law_walk", "_law_beat"]) fun _ _ _ _ _ _ us hl => match us, hl with | [_, _], _ => rfl)
    m_l_far := (PySem.W.mg_of X G g_l_far)
    f_Poly___add__ := (f_Poly___add__)
    d_Poly___add__ := (PySem.W.fnOf "__add__" "Poly.__add__" (defArgs s_Poly___add__) (defBody s_Poly___add__) (defScope s_Poly___add__) .none kV_Poly___add__ dc_Poly___add__ pm_Poly___add__ an_Poly___add__ cd_Poly___add__ ct_Poly___add__)
    F_Poly___add__ := (fun_mk (st := s_Poly___add__) l_Poly___add__ e_Poly___add__ k_Poly___add__)
    b_Poly___add__ := ((fun_mk (st := s_Poly___add__) l_Poly___add__ e_Poly___add__ k_Poly___add__).binds (ps := ["self", "other"]) fun _ _ _ _ _ _ us hl => match us, hl with | [_, _], _ => rfl)
    me_Poly___add__ := (⟨g_Poly___add__, i_Poly___add__, k_Poly___add__⟩)
    ow_Poly___add__ := (⟨g_Poly___add__, i_Poly___add__⟩)
    f_Poly___mul__ := (f_Poly___mul__)
    d_Poly___mul__ := (PySem.W.fnOf "__mul__" "Poly.__mul__" (defArgs s_Poly___mul__) (defBody s_Poly___mul__) (defScope s_Poly___mul__) .none kV_Poly___mul__ dc_Poly___mul__ pm_Poly___mul__ an_Poly___mul__ cd_Poly___mul__ ct_Poly___mul__)
    F_Poly___mul__ := (fun_mk (st := s_Poly___mul__) l_Poly___mul__ e_Poly___mul__ k_Poly___mul__)
    b_Poly___mul__ := ((fun_mk (st := s_Poly___mul__) l_Poly___mul__ e_Poly___mul__ k_Poly___mul__).binds (ps := ["self", "other"]) fun _ _ _ _ _ _ us hl => match us, hl with | [_, _], _ => rfl)
    me_Poly___mul__ := (⟨g_Poly___mul__, i_Poly___mul__, k_Poly___mul__⟩)
    ow_Poly___mul__ := (⟨g_Poly___mul__, i_Poly___mul__⟩)
    f_Poly___floordiv__ := (f_Poly___floordiv__)
    d_Poly___floordiv__ := (PySem.W.fnOf "__floordiv__" "Poly.__floordiv__" (defArgs s_Poly___floordiv__) (defBody s_Poly___floordiv__) (defScope s_Poly___floordiv__) .none kV_Poly___floordiv__ dc_Poly___floordiv__ pm_Poly___floordiv__ an_Poly___floordiv__ cd_Poly___floordiv__ ct_Poly___floordiv__)
    F_Poly___floordiv__ := (fun_mk (st := s_Poly___floordiv__) l_Poly___floordiv__ e_Poly___floordiv__ k_Poly___floordiv__)
    b_Poly___floordiv__ := ((fun_mk (st := s_Poly___floordiv__) l_Poly___floordiv__ e_Poly___floordiv__ k_Poly___floordiv__).binds (ps := ["self", "other"]) fun _ _ _ _ _ _ us hl => match us, hl with | [_, _], _ => rfl)
    me_Poly___floordiv__ := (⟨g_Poly___floordiv__, i_Poly___floordiv__, k_Poly___floordiv__⟩)
    ow_Poly___floordiv__ := (⟨g_Poly___floordiv__, i_Poly___floordiv__⟩)
    f_gcd_of := (f_gcd_of)
    d_gcd_of := (PySem.W.fnOf "gcd_of" "gcd_of" (defArgs s_gcd_of) (defBody s_gcd_of) (defScope s_gcd_of) .none kV_gcd_of dc_gcd_of pm_gcd_of an_gcd_of cd_gcd_of ct_gcd_of)
    F_gcd_of := (fun_mk (st := s_gcd_of) l_gcd_of e_gcd_of k_gcd_of)
    b_gcd_of := ((fun_mk (st := s_gcd_of) l_gcd_of e_gcd_of k_gcd_of).binds (ps := ["a", "b"]) fun _ _ _ _ _ _ us hl => match us, hl with | [_, _], _ => rfl)
    m_gcd_of := (PySem.W.mg_of X G g_gcd_of)
    f_Ratio_check_beat := (f_Ratio_check_beat)
    d_Ratio_check_beat := (PySem.W.fnOf "check_beat" "Ratio.check_beat" (defArgs s_Ratio_check_beat) (defBody s_Ratio_check_beat) (defScope s_Ratio_check_beat) .none kV_Ratio_check_beat dc_Ratio_check_beat pm_Ratio_check_beat an_Ratio_check_beat cd_Ratio_check_beat ct_Ratio_check_beat)
    F_Ratio_check_beat := (fun_mk (st := s_Ratio_check_beat) l_Ratio_check_beat e_Ratio_check_beat k_Ratio_check_beat)
    b_Ratio_check_beat := ((fun_mk (st := s_Ratio_check_beat) l_Ratio_check_beat e_Ratio_check_beat k_Ratio_check_beat).binds (ps := ["self", "n"]) fun _ _ _ _ _ _ us hl => match us, hl with | [_, _], _ => rfl)
    me_Ratio_check_beat := (⟨g_Ratio_check_beat, i_Ratio_check_beat, k_Ratio_check_beat⟩)
    f_Ratio___init__ := (f_Ratio___init__)
    d_Ratio___init__ := (PySem.W.fnOf "__init__" "Ratio.__init__" (defArgs s_Ratio___init__) (defBody s_Ratio___init__) (defScope s_Ratio___init__) (.ref TD_Ratio___init__) kV_Ratio___init__ dc_Ratio___init__ pm_Ratio___init__ an_Ratio___init__ cd_Ratio___init__ ct_Ratio___init__)
    F_Ratio___init__ := ((⟨⟨oc_Ratio___init__, od_Ratio___init__, _, kV_Ratio___init__, dc_Ratio___init__, pm_Ratio___init__, an_Ratio___init__, cd_Ratio___init__, ct_Ratio___init__, sl_Ratio___init__, rfl, l_Ratio___init__, e_Ratio___init__, .inr ⟨by simp, TD_Ratio___init__, _, its_Ratio___init__.toList, nT_Ratio___init__, rfl, lT_Ratio___init__, by simp, vT_Ratio___init__⟩, .inl rfl⟩, k_Ratio___init__⟩ : FunD K "__init__" "Ratio.__init__" (defArgs s_Ratio___init__) (defBody s_Ratio___init__) (defScope s_Ratio___init__) [V.non] [] f_Ratio___init__ (PySem.W.fnOf "__init__" "Ratio.__init__" (defArgs s_Ratio___init__) (defBody s_Ratio___init__) (defScope s_Ratio___init__) (.ref TD_Ratio___init__) kV_Ratio___init__ dc_Ratio___init__ pm_Ratio___init__ an_Ratio___init__ cd_Ratio___init__ ct_Ratio___init__)))
    bd0_Ratio___init__ := ((⟨⟨oc_Ratio___init__, od_Ratio___init__, _, kV_Ratio___init__, dc_Ratio___init__, pm_Ratio___init__, an_Ratio___init__, cd_Ratio___init__, ct_Ratio___init__, sl_Ratio___init__, rfl, l_Ratio___init__, e_Ratio___init__, .inr ⟨by simp, TD_Ratio___init__, _, its_Ratio___init__.toList, nT_Ratio___init__, rfl, lT_Ratio___init__, by simp, vT_Ratio___init__⟩, .inl rfl⟩, k_Ratio___init__⟩ : FunD K "__init__" "Ratio.__init__" (defArgs s_Ratio___init__) (defBody s_Ratio___init__) (defScope s_Ratio___init__) [V.non] [] f_Ratio___init__ (PySem.W.fnOf "__init__" "Ratio.__init__" (defArgs s_Ratio___init__) (defBody s_Ratio___init__) (defScope s_Ratio___init__) (.ref TD_Ratio___init__) kV_Ratio___init__ dc_Ratio___init__ pm_Ratio___init__ an_Ratio___init__ cd_Ratio___init__ ct_Ratio___init__)).binds1 (ps := ["self", "above", "below"]) 3 1 (by simp) rfl fun _ _ _ _ _ _ _ us its h1 h2 => match us, h1, its, h2 with | [_, _, _], _, [_], _ => ⟨_, rfl, rfl⟩)
    bd1_Ratio___init__ := ((⟨⟨oc_Ratio___init__, od_Ratio___init__, _, kV_Ratio___init__, dc_Ratio___init__, pm_Ratio___init__, an_Ratio___init__, cd_Ratio___init__, ct_Ratio___init__, sl_Ratio___init__, rfl, l_Ratio___init__, e_Ratio___init__, .inr ⟨by simp, TD_Ratio___init__, _, its_Ratio___init__.toList, nT_Ratio___init__, rfl, lT_Ratio___init__, by simp, vT_Ratio___init__⟩, .inl rfl⟩, k_Ratio___init__⟩ : FunD K "__init__" "Ratio.__init__" (defArgs s_Ratio___init__) (defBody s_Ratio___init__) (defScope s_Ratio___init__) [V.non] [] f_Ratio___init__ (PySem.W.fnOf "__init__" "Ratio.__init__" (defArgs s_Ratio___init__) (defBody s_Ratio___init__) (defScope s_Ratio___init__) (.ref TD_Ratio___init__) kV_Ratio___init__ dc_Ratio___init__ pm_Ratio___init__ an_Ratio___init__ cd_Ratio___init__ ct_Ratio___init__)).binds1 (ps := ["self", "above", "below"]) 2 0 (by simp) rfl fun _ _ _ _ _ _ _ us its h1 h2 => match us, h1, its, h2 with | [_, _], _, [_], _ => ⟨_, rfl, rfl⟩)
    mk_Ratio := (⟨mk_Ratio, g_Ratio___init__, i_Ratio___init__, kp_Ratio⟩)
    f_Ratio_bits := (f_Ratio_bits)
    d_Ratio_bits := (PySem.W.fnOf "bits" "Ratio.bits" (defArgs s_Ratio_bits) (defBody s_Ratio_bits) (defScope s_Ratio_bits) .none kV_Ratio_bits dc_Ratio_bits pm_Ratio_bits an_Ratio_bits cd_Ratio_bits ct_Ratio_bits)
    F_Ratio_bits := (fun_mk (st := s_Ratio_bits) l_Ratio_bits e_Ratio_bits k_Ratio_bits)
    b_Ratio_bits := ((fun_mk (st := s_Ratio_bits) l_Ratio_bits e_Ratio_bits k_Ratio_bits).binds (ps := ["self", "n"]) fun _ _ _ _ _ _ us hl => match us, hl with | [_, _], _ => rfl)
    me_Ratio_bits := (⟨g_Ratio_bits, i_Ratio_bits, k_Ratio_bits⟩)
    f_Ratio_bit := (f_Ratio_bit)
    d_Ratio_bit := (PySem.W.fnOf "bit" "Ratio.bit" (defArgs s_Ratio_bit) (defBody s_Ratio_bit) (defScope s_Ratio_bit) .none kV_Ratio_bit dc_Ratio_bit pm_Ratio_bit an_Ratio_bit cd_Ratio_bit ct_Ratio_bit)
    F_Ratio_bit := (fun_mk (st := s_Ratio_bit) l_Ratio_bit e_Ratio_bit k_Ratio_bit)
    b_Ratio_bit := ((fun_mk (st := s_Ratio_bit) l_Ratio_bit e_Ratio_bit k_Ratio_bit).binds (ps := ["self", "n"]) fun _ _ _ _ _ _ us hl => match us, hl with | [_, _], _ => rfl)
    me_Ratio_bit := (⟨g_Ratio_bit, i_Ratio_bit, k_Ratio_bit⟩)
    f_l_still := (f_l_still)
    d_l_still := (PySem.W.fnOf "_law_still" "_law_still" (defArgs s_l_still) (defBody s_l_still) (defScope s_l_still) .none kV_l_still dc_l_still pm_l_still an_l_still cd_l_still ct_l_still)
    F_l_still := (fun_mk (st := s_l_still) l_l_still e_l_still k_l_still)
    b_l_still := ((fun_mk (st := s_l_still) l_l_still e_l_still k_l_still).binds (ps := ["_law_ratio", "_law_beat"]) fun _ _ _ _ _ _ us hl => match us, hl with | [_, _], _ => rfl)
    m_l_still := (PySem.W.mg_of X G g_l_still)
    f_Ratio___add__ := (f_Ratio___add__)
    d_Ratio___add__ := (PySem.W.fnOf "__add__" "Ratio.__add__" (defArgs s_Ratio___add__) (defBody s_Ratio___add__) (defScope s_Ratio___add__) .none kV_Ratio___add__ dc_Ratio___add__ pm_Ratio___add__ an_Ratio___add__ cd_Ratio___add__ ct_Ratio___add__)
    F_Ratio___add__ := (fun_mk (st := s_Ratio___add__) l_Ratio___add__ e_Ratio___add__ k_Ratio___add__)
    b_Ratio___add__ := ((fun_mk (st := s_Ratio___add__) l_Ratio___add__ e_Ratio___add__ k_Ratio___add__).binds (ps := ["self", "other"]) fun _ _ _ _ _ _ us hl => match us, hl with | [_, _], _ => rfl)
    me_Ratio___add__ := (⟨g_Ratio___add__, i_Ratio___add__, k_Ratio___add__⟩)
    ow_Ratio___add__ := (⟨g_Ratio___add__, i_Ratio___add__⟩)
    f_Ratio___mul__ := (f_Ratio___mul__)
    d_Ratio___mul__ := (PySem.W.fnOf "__mul__" "Ratio.__mul__" (defArgs s_Ratio___mul__) (defBody s_Ratio___mul__) (defScope s_Ratio___mul__) .none kV_Ratio___mul__ dc_Ratio___mul__ pm_Ratio___mul__ an_Ratio___mul__ cd_Ratio___mul__ ct_Ratio___mul__)
    F_Ratio___mul__ := (fun_mk (st := s_Ratio___mul__) l_Ratio___mul__ e_Ratio___mul__ k_Ratio___mul__)
    b_Ratio___mul__ := ((fun_mk (st := s_Ratio___mul__) l_Ratio___mul__ e_Ratio___mul__ k_Ratio___mul__).binds (ps := ["self", "other"]) fun _ _ _ _ _ _ us hl => match us, hl with | [_, _], _ => rfl)
    me_Ratio___mul__ := (⟨g_Ratio___mul__, i_Ratio___mul__, k_Ratio___mul__⟩)
    ow_Ratio___mul__ := (⟨g_Ratio___mul__, i_Ratio___mul__⟩)
    f_Ratio_z := (f_Ratio_z)
    d_Ratio_z := (PySem.W.fnOf "z" "Ratio.z" (defArgs s_Ratio_z) (defBody s_Ratio_z) (defScope s_Ratio_z) .none kV_Ratio_z dc_Ratio_z pm_Ratio_z an_Ratio_z cd_Ratio_z ct_Ratio_z)
    F_Ratio_z := (fun_mk (st := s_Ratio_z) l_Ratio_z e_Ratio_z k_Ratio_z)
    b_Ratio_z := ((fun_mk (st := s_Ratio_z) l_Ratio_z e_Ratio_z k_Ratio_z).binds (ps := ["n"]) fun _ _ _ _ _ _ us hl => match us, hl with | [_], _ => rfl)
    p_Ratio_z := (p_Ratio_z)
    sm_Ratio_z := (⟨h_Ratio_z, t_Ratio_z, g_Ratio_z, ⟨_, r_Ratio_z⟩, k_Ratio_z⟩)
    f_law := (f_law)
    d_law := (PySem.W.fnOf "law" "law" (defArgs s_law) (defBody s_law) (defScope s_law) .none kV_law dc_law pm_law an_law cd_law ct_law)
    F_law := (fun_mk (st := s_law) l_law e_law k_law)
    b_law := ((fun_mk (st := s_law) l_law e_law k_law).binds (ps := ["_law_script"]) fun _ _ _ _ _ _ us hl => match us, hl with | [_], _ => rfl)
    m_law := (PySem.W.mg_of X G g_law) }
  exact ⟨T.d_law, fun s v => .of_eq rfl, fun base _ _ => law_end T⟩
theorem walk {l : PySem.W.OpenLaw} {q : Program} {loose : List Str} {XP : (Str → Option Value) → Heap → Prop} {YP : World → Heap → Prop} {d : DefRec} {K : Params → PySem.W.Frag} (hn : l.most = some 63) (hdf : d.params.defaults = [])
    (hY : ∀ (w : World) (h : Heap), YP w h → (K w.params).In h)
    (F : ∀ (w : World) (mg : Str → Option Value) (fa : Addr) (h : Heap), (K w.params).In h → h.Ns mainGlobals mg → mg d.name = some (.ref fa) →
      ∃ fd : FuncData, (∀ (s : Shared) (u : Value), BindsTo s fd ⟨[u], []⟩ [("_law_script", u)]) ∧ ∀ base : Heap, (K w.params).In base → base.Ns mainGlobals mg → FnOk l.prog w (K w.params) mg base (L2.CX l.prog w) 7 fa fd ["_law_script"] (spLaw (K w.params))) :
    PySem.W.WalkO q loose XP YP l.row.toRowW d [] (fun f vs => PySem.call f vs) :=
  walk_ofB (n := 63) (k := 7) (x := "_law_script") (CX := fun w => L2.CX l.prog w) (sp := fun w => spLaw (K w.params)) hn (by decide) hdf ⟨rfl, by decide, by decide⟩ hY F (fun w H a ns hl hb _ hS => spLaw_end a ns hl hb hS) fun w H s e s' z => cx_none z
end K09

open PySem PySem.W PyProof.Rows
set_option maxRecDepth 100000 in
set_option maxHeartbeats 0 in
theorem PySem.Challenge.cw_bitsback_k09_whole_far_bits_holds : PySem.Challenge.rw_bitsback_k09_whole_far_bits.Holds := by
  w_on; o_law; k_head; (case hw => w_witness2)
  k_fill
  refine K09.walk (l := PySem.Challenge.rw_bitsback_k09_whole_far_bits) rfl rfl (fun w h Y => PySem.W.kIn_of Y) ?F
  case F =>
    intro w mg fa h KX G hmg
    refine' K09.all_mk KX G hmg ?z_bool ?z_int ?z_len ?z_list ?z_range ?z_tuple ?a_Poly ?pg_Poly ?hd_Poly ?po_Poly ?sa_Poly ?a_Ratio ?pg_Ratio ?hd_Ratio ?po_Ratio ?sa_Ratio ?na_Poly_number ?na_Ratio_above ?na_Ratio_below ?sf_Poly ?sf_Ratio ?g_times_of ?l_times_of ?e_times_of ?k_times_of ?g_divided ?l_divided ?e_divided ?k_divided ?g_Poly___init__ ?i_Poly___init__ ?l_Poly___init__ ?e_Poly___init__ ?k_Poly___init__ ?lT_Poly___init__ ?vT_Poly___init__ ?mk_Poly ?kp_Poly ?g_Poly_degree ?h_Poly_degree ?t_Poly_degree ?r_Poly_degree ?l_Poly_degree ?e_Poly_degree ?k_Poly_degree ?g_Poly_bit ?i_Poly_bit ?l_Poly_bit ?e_Poly_bit ?k_Poly_bit ?g_Poly___bool__ ?i_Poly___bool__ ?l_Poly___bool__ ?e_Poly___bool__ ?k_Poly___bool__ ?g_every_other ?l_every_other ?e_every_other ?k_every_other ?g_Ratio_is_real ?h_Ratio_is_real ?t_Ratio_is_real ?r_Ratio_is_real ?l_Ratio_is_real ?e_Ratio_is_real ?k_Ratio_is_real ?g_l_start ?l_l_start ?e_l_start ?k_l_start ?g_l_draw ?l_l_draw ?e_l_draw ?k_l_draw ?g_l_cycle ?l_l_cycle ?e_l_cycle ?k_l_cycle ?g_l_far ?l_l_far ?e_l_far ?k_l_far ?g_Poly___add__ ?i_Poly___add__ ?l_Poly___add__ ?e_Poly___add__ ?k_Poly___add__ ?g_Poly___mul__ ?i_Poly___mul__ ?l_Poly___mul__ ?e_Poly___mul__ ?k_Poly___mul__ ?g_Poly___floordiv__ ?i_Poly___floordiv__ ?l_Poly___floordiv__ ?e_Poly___floordiv__ ?k_Poly___floordiv__ ?g_gcd_of ?l_gcd_of ?e_gcd_of ?k_gcd_of ?g_Ratio_check_beat ?i_Ratio_check_beat ?l_Ratio_check_beat ?e_Ratio_check_beat ?k_Ratio_check_beat ?g_Ratio___init__ ?i_Ratio___init__ ?l_Ratio___init__ ?e_Ratio___init__ ?k_Ratio___init__ ?lT_Ratio___init__ ?vT_Ratio___init__ ?mk_Ratio ?kp_Ratio ?g_Ratio_bits ?i_Ratio_bits ?l_Ratio_bits ?e_Ratio_bits ?k_Ratio_bits ?g_Ratio_bit ?i_Ratio_bit ?l_Ratio_bit ?e_Ratio_bit ?k_Ratio_bit ?g_l_still ?l_l_still ?e_l_still ?k_l_still ?g_Ratio___add__ ?i_Ratio___add__ ?l_Ratio___add__ ?e_Ratio___add__ ?k_Ratio___add__ ?g_Ratio___mul__ ?i_Ratio___mul__ ?l_Ratio___mul__ ?e_Ratio___mul__ ?k_Ratio___mul__ ?g_Ratio_z ?h_Ratio_z ?t_Ratio_z ?r_Ratio_z ?l_Ratio_z ?e_Ratio_z ?k_Ratio_z ?g_law ?l_law ?e_law ?k_law
    (case z_bool => k_is)
    (case z_int => k_is)
    (case z_len => k_is)
    (case z_list => k_is)
    (case z_range => k_is)
    (case z_tuple => k_is)
    (case a_Poly => k_is)
    (case pg_Poly => k_is)
    (case hd_Poly => k_is)
    (case po_Poly => k_is)
    (case sa_Poly => k_is)
    (case a_Ratio => k_is)
    (case pg_Ratio => k_is)
    (case hd_Ratio => k_is)
    (case po_Ratio => k_is)
    (case sa_Ratio => k_is)
    (case na_Poly_number => k_is)
    (case na_Ratio_above => k_is)
    (case na_Ratio_below => k_is)
    (case sf_Poly => k_is)
    (case sf_Ratio => k_is)
    (case g_times_of => k_is)
    (case l_times_of => k_is)
    (case e_times_of => k_is)
    (case k_times_of => k_is)
    (case g_divided => k_is)
    (case l_divided => k_is)
    (case e_divided => k_is)
    (case k_divided => k_is)
    (case g_Poly___init__ => k_is)
    (case i_Poly___init__ => k_is)
    (case l_Poly___init__ => k_is)
    (case e_Poly___init__ => k_is)
    (case k_Poly___init__ => k_is)
    (case lT_Poly___init__ => k_is)
    (case vT_Poly___init__ => open L2 in exact (Paired.cons (show RelV (V.int 0) _ from ⟨_, rfl⟩) Paired.nil))
    (case mk_Poly => k_is)
    (case kp_Poly => k_is)
    (case g_Poly_degree => k_is)
    (case h_Poly_degree => k_is)
    (case t_Poly_degree => k_is)
    (case r_Poly_degree => k_is)
    (case l_Poly_degree => k_is)
    (case e_Poly_degree => k_is)
    (case k_Poly_degree => k_is)
    (case g_Poly_bit => k_is)
    (case i_Poly_bit => k_is)
    (case l_Poly_bit => k_is)
    (case e_Poly_bit => k_is)
    (case k_Poly_bit => k_is)
    (case g_Poly___bool__ => k_is)
    (case i_Poly___bool__ => k_is)
    (case l_Poly___bool__ => k_is)
    (case e_Poly___bool__ => k_is)
    (case k_Poly___bool__ => k_is)
    (case g_every_other => k_is)
    (case l_every_other => k_is)
    (case e_every_other => k_is)
    (case k_every_other => k_is)
    (case g_Ratio_is_real => k_is)
    (case h_Ratio_is_real => k_is)
    (case t_Ratio_is_real => k_is)
    (case r_Ratio_is_real => k_is)
    (case l_Ratio_is_real => k_is)
    (case e_Ratio_is_real => k_is)
    (case k_Ratio_is_real => k_is)
    (case g_l_start => k_is)
    (case l_l_start => k_is)
    (case e_l_start => k_is)
    (case k_l_start => k_is)
    (case g_l_draw => k_is)
    (case l_l_draw => k_is)
    (case e_l_draw => k_is)
    (case k_l_draw => k_is)
    (case g_l_cycle => k_is)
    (case l_l_cycle => k_is)
    (case e_l_cycle => k_is)
    (case k_l_cycle => k_is)
    (case g_l_far => k_is)
    (case l_l_far => k_is)
    (case e_l_far => k_is)
    (case k_l_far => k_is)
    (case g_Poly___add__ => k_is)
    (case i_Poly___add__ => k_is)
    (case l_Poly___add__ => k_is)
    (case e_Poly___add__ => k_is)
    (case k_Poly___add__ => k_is)
    (case g_Poly___mul__ => k_is)
    (case i_Poly___mul__ => k_is)
    (case l_Poly___mul__ => k_is)
    (case e_Poly___mul__ => k_is)
    (case k_Poly___mul__ => k_is)
    (case g_Poly___floordiv__ => k_is)
    (case i_Poly___floordiv__ => k_is)
    (case l_Poly___floordiv__ => k_is)
    (case e_Poly___floordiv__ => k_is)
    (case k_Poly___floordiv__ => k_is)
    (case g_gcd_of => k_is)
    (case l_gcd_of => k_is)
    (case e_gcd_of => k_is)
    (case k_gcd_of => k_is)
    (case g_Ratio_check_beat => k_is)
    (case i_Ratio_check_beat => k_is)
    (case l_Ratio_check_beat => k_is)
    (case e_Ratio_check_beat => k_is)
    (case k_Ratio_check_beat => k_is)
    (case g_Ratio___init__ => k_is)
    (case i_Ratio___init__ => k_is)
    (case l_Ratio___init__ => k_is)
    (case e_Ratio___init__ => k_is)
    (case k_Ratio___init__ => k_is)
    (case lT_Ratio___init__ => k_is)
    (case vT_Ratio___init__ => open L2 in exact (Paired.cons (show RelV V.non _ from rfl) Paired.nil))
    (case mk_Ratio => k_is)
    (case kp_Ratio => k_is)
    (case g_Ratio_bits => k_is)
    (case i_Ratio_bits => k_is)
    (case l_Ratio_bits => k_is)
    (case e_Ratio_bits => k_is)
    (case k_Ratio_bits => k_is)
    (case g_Ratio_bit => k_is)
    (case i_Ratio_bit => k_is)
    (case l_Ratio_bit => k_is)
    (case e_Ratio_bit => k_is)
    (case k_Ratio_bit => k_is)
    (case g_l_still => k_is)
    (case l_l_still => k_is)
    (case e_l_still => k_is)
    (case k_l_still => k_is)
    (case g_Ratio___add__ => k_is)
    (case i_Ratio___add__ => k_is)
    (case l_Ratio___add__ => k_is)
    (case e_Ratio___add__ => k_is)
    (case k_Ratio___add__ => k_is)
    (case g_Ratio___mul__ => k_is)
    (case i_Ratio___mul__ => k_is)
    (case l_Ratio___mul__ => k_is)
    (case e_Ratio___mul__ => k_is)
    (case k_Ratio___mul__ => k_is)
    (case g_Ratio_z => k_is)
    (case h_Ratio_z => k_is)
    (case t_Ratio_z => k_is)
    (case r_Ratio_z => k_is)
    (case l_Ratio_z => k_is)
    (case e_Ratio_z => k_is)
    (case k_Ratio_z => k_is)
    (case g_law => k_is)
    (case l_law => k_is)
    (case e_law => k_is)
    (case k_law => k_is)
