import PyProof.Rows.All
import Wide.All
import OpenK.AllK
import Wide.FinOn
import HandS.Base
import HandS.Call
import HandS.List
import HandS.Comp
import HandS.Ends
import HandS.Dict
import HandS.Iter
import HandS.Text
import HandS.Exc
import HandS.Words
import HandS.Defaults
import HandS.HeadHook2
import HandS.ExcOwn
import HandS.CallSlots
import HandS.IsInst
import HandS.Property
import HandS.Star
import HandS.SortRule
import KE.KSortTupAny
import HandS.HeadEnd
import HandS.EndBits
import HandS.Head2
import HandS.TryOnly
import PySem.Challenge.RW_dimdays_k16_showing_known
set_option Elab.async false
set_option linter.all false
set_option maxRecDepth 100000
set_option maxHeartbeats 4000000
namespace Py
open PySem PySem.Spec PyProof.Rows L2

/-! ### values, objects, results -/
inductive Val where
  | non | bl (b : Bool) | int (i : Int) | str (s : List Nat) | tup (xs : List Val) | lst (xs : List Val) | obj (c : Nat) (fs : List Val) | ref (k : Nat) | glo (g : Nat)
inductive Obj where
  | lst (xs : List Val) | ins (c : Nat) (fs : List Val)
abbrev Hh := List Obj
abbrev Sg := List (Option Val)
inductive Res where
  | ok (v : Val) (h : Hh) | exc (c : Nat) (fs : List Val) (h : Hh) | bad
inductive ResS where
  | next (sg : Sg) (h : Hh) | ret (v : Val) (h : Hh) | brk (sg : Sg) (h : Hh) | cont (sg : Sg) (h : Hh) | exc (c : Nat) (fs : List Val) (sg : Sg) (h : Hh) | bad
inductive ResG where
  | ok (sg : Sg) (h : Hh) | bad
inductive ResL where
  | ok (vs : List Val) (h : Hh) | exc (c : Nat) (fs : List Val) (h : Hh) | bad
abbrev Ex := Sg → Hh → Res
abbrev Sx := Sg → Hh → ResS
abbrev Gx := Val → Sg → Hh → ResG
abbrev Lx := Sg → Hh → ResL
def Res.bind : Res → (Val → Hh → Res) → Res
  | .ok v h, k => k v h
  | .exc c fs h, _ => .exc c fs h
  | .bad, _ => .bad
def Res.bindS (sg : Sg) : Res → (Val → Hh → ResS) → ResS
  | .ok v h, k => k v h
  | .exc c fs h, _ => .exc c fs sg h
  | .bad, _ => .bad
def Res.bindL : Res → (Val → Hh → ResL) → ResL
  | .ok v h, k => k v h
  | .exc c fs h, _ => .exc c fs h
  | .bad, _ => .bad
def ResL.bind : ResL → (List Val → Hh → Res) → Res
  | .ok v h, k => k v h
  | .exc c fs h, _ => .exc c fs h
  | .bad, _ => .bad
def ResL.bindL : ResL → (List Val → Hh → ResL) → ResL
  | .ok v h, k => k v h
  | .exc c fs h, _ => .exc c fs h
  | .bad, _ => .bad
def ResG.bindS : ResG → (Sg → Hh → ResS) → ResS
  | .ok sg h, k => k sg h
  | .bad, _ => .bad

/-- the names behind the numbers: classes, their fields, the module's names -/
structure Tb where
  cn : Nat → Str
  fn : Nat → List Str
  gn : Nat → Str

/-! ### values and the layer's values -/
mutual
inductive VR (T : Tb) (K : PySem.W.Frag) (io : Nat → Addr) (n : Nat) (F : Hp) : Val → V → Prop where
  | non : VR T K io n F .non .non
  | bl (b : Bool) : VR T K io n F (.bl b) (.bl b)
  | int (i : Int) : VR T K io n F (.int i) (.int i)
  | str (s : List Nat) : VR T K io n F (.str s) (.str ⟨s.toArray⟩)
  | ref (k : Nat) (h : k < n) : VR T K io n F (.ref k) (.ref (io k))
  | tup {vs : List Val} {a : Addr} {xs : List V} (h : SqT K F a xs) (r : VRs T K io n F vs xs) : VR T K io n F (.tup vs) (.ref a)
  | lst {vs : List Val} {a : Addr} {xs : List V} (h : SqL K F a xs) (r : VRs T K io n F vs xs) : VR T K io n F (.lst vs) (.ref a)
  | obj {c : Nat} {vs : List Val} {a dx : Addr} {xs : List V} (h : F a = some (.ins (He.ga K (T.cn c)) dx ((T.fn c).zip xs))) (hd : F dx = some (.own a)) (r : VRs T K io n F vs xs) (hl : xs.length = (T.fn c).length) : VR T K io n F (.obj c vs) (.ref a)
  | glo (g : Nat) : VR T K io n F (.glo g) (.ref (He.ga K (T.gn g)))
inductive VRs (T : Tb) (K : PySem.W.Frag) (io : Nat → Addr) (n : Nat) (F : Hp) : List Val → List V → Prop where
  | nil : VRs T K io n F [] []
  | cons {v : Val} {x : V} {vs : List Val} {xs : List V} (h : VR T K io n F v x) (t : VRs T K io n F vs xs) : VRs T K io n F (v :: vs) (x :: xs)
end

section
variable {T : Tb} {K : PySem.W.Frag} {io io' : Nat → Addr} {n n' : Nat} {F F' H H' : Hp}
theorem sqT_mono (hF : ∀ b o, F b = some o → F' b = some o) {a : Addr} {xs : List V} (h : SqT K F a xs) : SqT K F' a xs := by
  rcases h with (h | ⟨o, h⟩) | h
  · exact .inl (.inl (hF _ _ h))
  · exact .inl (.inr ⟨o, hF _ _ h⟩)
  · exact .inr h
theorem sqL_mono (hF : ∀ b o, F b = some o → F' b = some o) {a : Addr} {xs : List V} (h : SqL K F a xs) : SqL K F' a xs := by
  rcases h with (h | ⟨o, h⟩) | h
  · exact .inl (.inl (hF _ _ h))
  · exact .inl (.inr ⟨o, hF _ _ h⟩)
  · exact .inr h
mutual
theorem VR.mono (hn : n ≤ n') (hi : ∀ k, k < n → io' k = io k) (hF : ∀ b o, F b = some o → F' b = some o) : ∀ {v : Val} {x : V}, VR T K io n F v x → VR T K io' n' F' v x
  | _, _, .non => .non
  | _, _, .bl b => .bl b
  | _, _, .int i => .int i
  | _, _, .str s => .str s
  | _, _, .ref k h => by rw [← hi k h]; exact .ref k (Nat.lt_of_lt_of_le h hn)
  | _, _, .tup h r => .tup (sqT_mono hF h) (VRs.mono hn hi hF r)
  | _, _, .lst h r => .lst (sqL_mono hF h) (VRs.mono hn hi hF r)
  | _, _, .obj h hd r hl => .obj (hF _ _ h) (hF _ _ hd) (VRs.mono hn hi hF r) hl
  | _, _, .glo g => .glo g
theorem VRs.mono (hn : n ≤ n') (hi : ∀ k, k < n → io' k = io k) (hF : ∀ b o, F b = some o → F' b = some o) : ∀ {v : List Val} {x : List V}, VRs T K io n F v x → VRs T K io' n' F' v x
  | _, _, .nil => .nil
  | _, _, .cons h t => .cons (VR.mono hn hi hF h) (VRs.mono hn hi hF t)
end
theorem VRs.length : ∀ {vs : List Val} {xs : List V}, VRs T K io n F vs xs → vs.length = xs.length
  | _, _, .nil => rfl
  | _, _, .cons _ t => congrArg Nat.succ (VRs.length t)
theorem VRs.append : ∀ {vs ws : List Val} {xs ys : List V}, VRs T K io n F vs xs → VRs T K io n F ws ys → VRs T K io n F (vs ++ ws) (xs ++ ys)
  | _, _, _, _, .nil, h => h
  | _, _, _, _, .cons a t, h => .cons a (VRs.append t h)
theorem VRs.get : ∀ {vs : List Val} {xs : List V} {i : Nat} {v : Val}, VRs T K io n F vs xs → vs[i]? = some v → ∃ x, xs[i]? = some x ∧ VR T K io n F v x
  | _, _, _, _, .nil, h => by simp at h
  | _, _, 0, _, .cons a t, h => by simp at h; subst h; exact ⟨_, rfl, a⟩
  | _, _, i + 1, v, .cons a t, h => by
    obtain ⟨x, e, r⟩ := VRs.get (i := i) (v := v) t (by simpa using h)
    exact ⟨x, by simpa using e, r⟩
theorem VRs.set {v : Val} {x : V} (r : VR T K io n F v x) : ∀ {vs : List Val} {xs : List V} (i : Nat), VRs T K io n F vs xs → VRs T K io n F (vs.set i v) (xs.set i x)
  | _, _, _, .nil => .nil
  | _, _, 0, .cons _ t => .cons r t
  | _, _, i + 1, .cons a t => .cons a (VRs.set r i t)
theorem VRs.take : ∀ {vs : List Val} {xs : List V} (i : Nat), VRs T K io n F vs xs → VRs T K io n F (vs.take i) (xs.take i)
  | _, _, 0, _ => .nil
  | _, _, _ + 1, .nil => .nil
  | _, _, i + 1, .cons a t => .cons a (VRs.take i t)
theorem VRs.drop : ∀ {vs : List Val} {xs : List V} (i : Nat), VRs T K io n F vs xs → VRs T K io n F (vs.drop i) (xs.drop i)
  | _, _, 0, h => h
  | _, _, _ + 1, .nil => .nil
  | _, _, i + 1, .cons a t => VRs.drop i t
end

/-! ### the mutable objects, the state -/
def OR (T : Tb) (K : PySem.W.Frag) (io : Nat → Addr) (n : Nat) (F H : Hp) (a : Addr) : Obj → Prop
  | .lst vs => ∃ xs, H a = some (.lst xs) ∧ VRs T K io n F vs xs
  | .ins c vs => ∃ dx xs, H a = some (.ins (He.ga K (T.cn c)) dx (((T.fn c).take vs.length).zip xs)) ∧ H dx = some (.own a) ∧ VRs T K io n F vs xs ∧ vs.length ≤ (T.fn c).length

structure SR (T : Tb) (K : PySem.W.Frag) (io : Nat → Addr) (h : Hh) (F H : Hp) : Prop where
  sub : ∀ b o, F b = some o → H b = some o
  dis : ∀ k, k < h.length → F (io k) = none
  inj : ∀ j k, j < h.length → k < h.length → io j = io k → j = k
  obj : ∀ k o, h[k]? = some o → OR T K io h.length F H (io k) o

structure Step (io : Nat → Addr) (n : Nat) (F H : Hp) (io' : Nat → Addr) (n' : Nat) (F' H' : Hp) : Prop where
  le : n ≤ n'
  eq : ∀ k, k < n → io' k = io k
  phi : ∀ b o, F b = some o → F' b = some o
  frame : ∀ b o, H b = some o → (∀ k, k < n → io k ≠ b) → H' b = some o
  new : ∀ k, n ≤ k → k < n' → H (io' k) = none
  fresh : ∀ b o, F' b = some o → F b = some o ∨ H b = none ∨ ∃ y, o = .own y

section
variable {T : Tb} {K : PySem.W.Frag} {io io1 io2 : Nat → Addr} {n n1 n2 : Nat} {F F1 F2 H H1 H2 : Hp} {h h1 h2 : Hh}
theorem OR.there {a : Addr} {o : Obj} (r : OR T K io n F H a o) : ∃ u, H a = some u := by
  cases o with
  | lst vs => obtain ⟨xs, e, _⟩ := r; exact ⟨_, e⟩
  | ins c vs => obtain ⟨dx, xs, e, _⟩ := r; exact ⟨_, e⟩
theorem SR.there (s : SR T K io h F H) {k : Nat} (hk : k < h.length) : ∃ u, H (io k) = some u := (s.obj k h[k] (by simp [hk])).there
theorem Step.refl : Step io n F H io n F H := ⟨Nat.le_refl _, fun _ _ => rfl, fun _ _ e => e, fun _ _ e _ => e, fun k a b => absurd b (Nat.not_lt.mpr a), fun _ _ e => .inl e⟩
theorem Step.trans (a : Step io n F H io1 h1.length F1 H1) (s : SR T K io1 h1 F1 H1) (b : Step io1 h1.length F1 H1 io2 n2 F2 H2) : Step io n F H io2 n2 F2 H2 where
  le := Nat.le_trans a.le b.le
  eq := fun k hk => (b.eq k (Nat.lt_of_lt_of_le hk a.le)).trans (a.eq k hk)
  phi := fun c o e => b.phi c o (a.phi c o e)
  frame := fun c o e hc => b.frame c o (a.frame c o e hc) fun k hk q => by
    by_cases hk' : k < n
    · exact hc k hk' ((a.eq k hk').symm.trans q)
    · have z := a.new k (by omega) hk
      rw [q, e] at z
      cases z
  new := fun k h1' h2' => by
    by_cases hk : k < h1.length
    · rw [b.eq k hk]; exact a.new k h1' hk
    · have z := b.new k (by omega) h2'
      cases q : H (io2 k) with
      | none => rfl
      | some o =>
        by_cases hc : ∀ j, j < n → io j ≠ io2 k
        · rw [a.frame _ o q hc] at z; cases z
        · exfalso
          apply hc
          intro j hj e
          obtain ⟨u, hu⟩ := s.there (k := j) (Nat.lt_of_lt_of_le hj a.le)
          rw [a.eq j hj, e, z] at hu
          cases hu
  fresh := fun c o e => by
    rcases b.fresh c o e with q | q | q
    · exact a.fresh c o q
    · refine .inr (.inl ?_)
      cases z : H c with
      | none => rfl
      | some u =>
        by_cases hc : ∀ j, j < n → io j ≠ c
        · rw [a.frame c u z hc] at q; cases q
        · exfalso
          apply hc
          intro j hj e2
          obtain ⟨u2, hu⟩ := s.there (k := j) (Nat.lt_of_lt_of_le hj a.le)
          rw [a.eq j hj, e2, q] at hu
          cases hu
    · exact .inr (.inr q)
theorem VR.step {v : Val} {x : V} (r : VR T K io n F v x) (a : Step io n F H io1 n1 F1 H1) : VR T K io1 n1 F1 v x := r.mono a.le a.eq a.phi
theorem VRs.step {v : List Val} {x : List V} (r : VRs T K io n F v x) (a : Step io n F H io1 n1 F1 H1) : VRs T K io1 n1 F1 v x := r.mono a.le a.eq a.phi
end

/-- slots -/
structure RSt (T : Tb) (K : PySem.W.Frag) (io : Nat → Addr) (n : Nat) (F : Hp) (sg : Sg) (σ : L2.St) : Prop where
  len : sg.length = σ.length
  at_ : ∀ (i : Nat) (v : Val), sg[i]? = some (some v) → ∃ x, σ[i]? = some (some x) ∧ VR T K io n F v x
section
variable {T : Tb} {K : PySem.W.Frag} {io io1 : Nat → Addr} {n n1 : Nat} {F F1 H H1 : Hp} {sg : Sg} {σ : L2.St}
theorem RSt.step (r : RSt T K io n F sg σ) (a : Step io n F H io1 n1 F1 H1) : RSt T K io1 n1 F1 sg σ :=
  ⟨r.len, fun i v e => let ⟨x, e1, e2⟩ := r.at_ i v e; ⟨x, e1, e2.step a⟩⟩
theorem RSt.set (r : RSt T K io n F sg σ) (i : Nat) {v : Val} {x : V} (q : VR T K io n F v x) : RSt T K io n F (sg.set i (some v)) (σ.set i (some x)) := by
  refine ⟨by simp [r.len], fun j w e => ?_⟩
  by_cases hj : i = j
  · subst hj
    by_cases hl : i < sg.length
    · rw [List.getElem?_set_self hl] at e
      obtain rfl : v = w := by simpa using e
      exact ⟨x, by rw [List.getElem?_set_self (by rw [← r.len]; exact hl)], q⟩
    · rw [List.getElem?_eq_none (by simpa using hl)] at e; cases e
  · rw [List.getElem?_set_ne hj] at e
    obtain ⟨y, e1, e2⟩ := r.at_ j w e
    exact ⟨y, by rw [List.getElem?_set_ne hj]; exact e1, e2⟩
end

/-! ### what is wanted of a result -/
/-- the exception as the layer has it -/
def XR (T : Tb) (K : PySem.W.Frag) (io : Nat → Addr) (n : Nat) (F H : Hp) (c : Nat) (fs : List Val) (d : Option Addr) : Prop :=
  match T.fn c with
  | [] => d = none ∧ fs = []
  | f => ∃ dd xs, d = some dd ∧ H dd = some (.xd (f.zip xs)) ∧ VRs T K io n F fs xs ∧ xs.length = f.length
abbrev KV1 := Val → (Nat → Addr) → Hh → Hp → Hp → Prop
structure Pt where
  T : Tb
  K : PySem.W.Frag
  io : Nat → Addr
  h : Hh
  F : Hp
  H : Hp
def WExc (T : Tb) (K : PySem.W.Frag) (io : Nat → Addr) (n : Nat) (F H : Hp) (c : Nat) (fs : List Val) (h' : Hh) (W : XK) : Prop :=
  ∀ io' F' H' d, Step io n F H io' h'.length F' H' → SR T K io' h' F' H' → XR T K io' h'.length F' H' c fs d → W (.ref (He.ga K (T.cn c))) d H'
def Wants (T : Tb) (K : PySem.W.Frag) (io : Nat → Addr) (n : Nat) (F H : Hp) (W : XK) (Q : VK) : Res → Prop
  | .ok v h' => ∀ io' F' H' x, Step io n F H io' h'.length F' H' → SR T K io' h' F' H' → VR T K io' h'.length F' v x → Q x H'
  | .exc c fs h' => WExc T K io n F H c fs h' W
  | .bad => False
def WantsL (T : Tb) (K : PySem.W.Frag) (io : Nat → Addr) (n : Nat) (F H : Hp) (W : XK) (Q : List V → Hp → Prop) : ResL → Prop
  | .ok v h' => ∀ io' F' H' x, Step io n F H io' h'.length F' H' → SR T K io' h' F' H' → VRs T K io' h'.length F' v x → Q x H'
  | .exc c fs h' => WExc T K io n F H c fs h' W
  | .bad => False
def WantsB (T : Tb) (K : PySem.W.Frag) (io : Nat → Addr) (n : Nat) (F H : Hp) (W : XK) (Q : Bool → Hp → Prop) : Res → Prop
  | .ok (.bl b) h' => ∀ io' F' H', Step io n F H io' h'.length F' H' → SR T K io' h' F' H' → Q b H'
  | .exc c fs h' => WExc T K io n F H c fs h' W
  | _ => False
def WantsG (T : Tb) (K : PySem.W.Frag) (io : Nat → Addr) (n : Nat) (F H : Hp) (Q : L2.St → Hp → Prop) : ResG → Prop
  | .ok sg' h' => ∀ io' F' H' σ', Step io n F H io' h'.length F' H' → SR T K io' h' F' H' → RSt T K io' h'.length F' sg' σ' → Q σ' H'
  | .bad => False
def WantsS (T : Tb) (K : PySem.W.Frag) (io : Nat → Addr) (n : Nat) (F H : Hp) (W : WX) (D : Ends) : ResS → Prop
  | .next sg' h' => ∀ io' F' H' σ', Step io n F H io' h'.length F' H' → SR T K io' h' F' H' → RSt T K io' h'.length F' sg' σ' → D.nx σ' H'
  | .brk sg' h' => ∀ io' F' H' σ', Step io n F H io' h'.length F' H' → SR T K io' h' F' H' → RSt T K io' h'.length F' sg' σ' → D.bk σ' H'
  | .cont sg' h' => ∀ io' F' H' σ', Step io n F H io' h'.length F' H' → SR T K io' h' F' H' → RSt T K io' h'.length F' sg' σ' → D.ct σ' H'
  | .ret v h' => ∀ io' F' H' x, Step io n F H io' h'.length F' H' → SR T K io' h' F' H' → VR T K io' h'.length F' v x → D.rt x H'
  | .exc c fs sg' h' => ∀ io' F' H' σ' d, Step io n F H io' h'.length F' H' → SR T K io' h' F' H' → RSt T K io' h'.length F' sg' σ' → XR T K io' h'.length F' H' c fs d → W (.ref (He.ga K (T.cn c))) d σ' H'
  | .bad => False

/-! ### the readings -/
def tE (T : Tb) (K : PySem.W.Frag) (W : WX) (f : Ex) : TE := fun σ H Q => ∃ io h F sg, SR T K io h F H ∧ RSt T K io h.length F sg σ ∧ Wants T K io h.length F H (fun c d H' => W c d σ H') Q (f sg h)
def tL (T : Tb) (K : PySem.W.Frag) (W : WX) (f : Lx) : TA := fun σ H Q => ∃ io h F sg, SR T K io h F H ∧ RSt T K io h.length F sg σ ∧ WantsL T K io h.length F H (fun c d H' => W c d σ H') Q (f sg h)
def tB1 (T : Tb) (K : PySem.W.Frag) (W : WX) (f : Ex) : TT := fun σ H Q => ∃ io h F sg, SR T K io h F H ∧ RSt T K io h.length F sg σ ∧ WantsB T K io h.length F H (fun c d H' => W c d σ H') Q (f sg h)
def tS (T : Tb) (K : PySem.W.Frag) (W : WX) (f : Sx) : TS := fun D σ H => ∃ io h F sg, SR T K io h F H ∧ RSt T K io h.length F sg σ ∧ WantsS T K io h.length F H W D (f sg h)
def tG1 (T : Tb) (K : PySem.W.Frag) (g : Gx) : TG := fun x σ H Q => ∃ io h F sg v, SR T K io h F H ∧ RSt T K io h.length F sg σ ∧ VR T K io h.length F v x ∧ WantsG T K io h.length F H Q (g v sg h)

theorem pe_imp {X : Cx} {e : Expr} {t t' : TE} (h : PE X e t) (i : ∀ σ H Q, t' σ H Q → t σ H Q) : PE X e t' := ⟨fun pins s σ H Q I q => h.run pins s σ H Q I (i σ H Q q)⟩
theorem pt_imp {X : Cx} {e : Expr} {t t' : TT} (h : PT X e t) (i : ∀ σ H Q, t' σ H Q → t σ H Q) : PT X e t' := ⟨fun pins s σ H Q I q => h.run pins s σ H Q I (i σ H Q q)⟩
theorem pw_imp {X : Cx} {e : Expr} {t t' : TT} (h : PW X e t) (i : ∀ σ H Q, t' σ H Q → t σ H Q) : PW X e t' := ⟨fun wh pins s σ H Q I q => h.run wh pins s σ H Q I (i σ H Q q)⟩
theorem pa_imp {X : Cx} {e : List Expr} {t t' : TA} (h : PA X e t) (i : ∀ σ H Q, t' σ H Q → t σ H Q) : PA X e t' := ⟨fun pos pins s σ H Q I q => h.run pos pins s σ H Q I (i σ H Q q)⟩
theorem ps_imp {X : Cx} {e : Stmt} {t t' : TS} (h : PS X e t) (i : ∀ D σ H, t' D σ H → t D σ H) : PS X e t' := ⟨fun pins s σ H Q I q => h.run pins s σ H Q I (i Q σ H q)⟩
theorem pss_imp {X : Cx} {e : List Stmt} {t t' : TS} (h : PSs X e t) (i : ∀ D σ H, t' D σ H → t D σ H) : PSs X e t' := ⟨fun pins s σ H Q I q => h.run pins s σ H Q I (i Q σ H q)⟩
theorem pg_imp {X : Cx} {e : Expr} {t t' : TG} (h : PG X e t) (i : ∀ x σ H Q, t' x σ H Q → t x σ H Q) : PG X e t' := ⟨fun pins s σ H v u Q I r q => h.run pins s σ H v u Q I r (i v σ H Q q)⟩
end Py

namespace Py
open PySem PySem.Spec PyProof.Rows L2

abbrev JE (T : Tb) (X : Cx) (W : WX) (e : Expr) (f : Ex) : Prop := PE X e (tE T X.K W f)
abbrev JT (T : Tb) (X : Cx) (W : WX) (e : Expr) (f : Ex) : Prop := PT X e (tB1 T X.K W f)
abbrev JW (T : Tb) (X : Cx) (W : WX) (e : Expr) (f : Ex) : Prop := PW X e (tB1 T X.K W f)
abbrev JA (T : Tb) (X : Cx) (W : WX) (e : List Expr) (f : Lx) : Prop := PA X e (tL T X.K W f)
abbrev JS (T : Tb) (X : Cx) (W : WX) (e : Stmt) (f : Sx) : Prop := PS X e (tS T X.K W f)
abbrev JSs (T : Tb) (X : Cx) (W : WX) (e : List Stmt) (f : Sx) : Prop := PSs X e (tS T X.K W f)
abbrev JG (T : Tb) (X : Cx) (e : Expr) (g : Gx) : Prop := PG X e (tG1 T X.K g)

section
variable {T : Tb} {K : PySem.W.Frag} {io io1 io2 : Nat → Addr} {n n1 n2 : Nat} {F F1 F2 H H1 H2 : Hp} {h h1 h2 : Hh} {W : XK} {Q : VK}
theorem WExc.rebase {c : Nat} {fs : List Val} {h' : Hh} (w : WExc T K io n F H c fs h' W) (a : Step io n F H io1 h1.length F1 H1) (s : SR T K io1 h1 F1 H1) : WExc T K io1 h1.length F1 H1 c fs h' W :=
  fun io' F' H' d st sr xr => w io' F' H' d (a.trans s st) sr xr
theorem Wants.rebase {r : Res} (w : Wants T K io n F H W Q r) (a : Step io n F H io1 h1.length F1 H1) (s : SR T K io1 h1 F1 H1) : Wants T K io1 h1.length F1 H1 W Q r := by
  cases r with
  | ok v h' => exact fun io' F' H' x st sr vr => w io' F' H' x (a.trans s st) sr vr
  | exc c fs h' => exact WExc.rebase w a s
  | bad => exact w
theorem WantsL.rebase {Q : List V → Hp → Prop} {r : ResL} (w : WantsL T K io n F H W Q r) (a : Step io n F H io1 h1.length F1 H1) (s : SR T K io1 h1 F1 H1) : WantsL T K io1 h1.length F1 H1 W Q r := by
  cases r with
  | ok v h' => exact fun io' F' H' x st sr vr => w io' F' H' x (a.trans s st) sr vr
  | exc c fs h' => exact WExc.rebase w a s
  | bad => exact w
theorem WantsB.rebase {Q : Bool → Hp → Prop} {r : Res} (w : WantsB T K io n F H W Q r) (a : Step io n F H io1 h1.length F1 H1) (s : SR T K io1 h1 F1 H1) : WantsB T K io1 h1.length F1 H1 W Q r := by
  cases r with
  | ok v h' => cases v with
    | bl b => exact fun io' F' H' st sr => w io' F' H' (a.trans s st) sr
    | _ => exact w
  | exc c fs h' => exact WExc.rebase w a s
  | bad => exact w
theorem WantsG.rebase {Q : L2.St → Hp → Prop} {r : ResG} (w : WantsG T K io n F H Q r) (a : Step io n F H io1 h1.length F1 H1) (s : SR T K io1 h1 F1 H1) : WantsG T K io1 h1.length F1 H1 Q r := by
  cases r with
  | ok v h' => exact fun io' F' H' x st sr vr => w io' F' H' x (a.trans s st) sr vr
  | bad => exact w
theorem WantsS.rebase {W : WX} {D : Ends} {r : ResS} (w : WantsS T K io n F H W D r) (a : Step io n F H io1 h1.length F1 H1) (s : SR T K io1 h1 F1 H1) : WantsS T K io1 h1.length F1 H1 W D r := by
  cases r with
  | next v h' => exact fun io' F' H' x st sr vr => w io' F' H' x (a.trans s st) sr vr
  | brk v h' => exact fun io' F' H' x st sr vr => w io' F' H' x (a.trans s st) sr vr
  | cont v h' => exact fun io' F' H' x st sr vr => w io' F' H' x (a.trans s st) sr vr
  | ret v h' => exact fun io' F' H' x st sr vr => w io' F' H' x (a.trans s st) sr vr
  | exc c fs sg h' => exact fun io' F' H' x d st sr rs xr => w io' F' H' x d (a.trans s st) sr rs xr
  | bad => exact w
/-- from a bind: to the first part -/
theorem Wants.bind {R : VK} {r : Res} {k : Val → Hh → Res} (w : Wants T K io n F H W Q (r.bind k))
    (hk : ∀ v h1 io1 F1 H1 x, Step io n F H io1 h1.length F1 H1 → SR T K io1 h1 F1 H1 → VR T K io1 h1.length F1 v x → Wants T K io1 h1.length F1 H1 W Q (k v h1) → R x H1) : Wants T K io n F H W R r := by
  cases r with
  | ok v h1 => exact fun io1 F1 H1 x st sr vr => hk v h1 io1 F1 H1 x st sr vr (Wants.rebase w st sr)
  | exc c fs h' => exact w
  | bad => exact w
theorem WantsL.ofBind {R : VK} {Q : List V → Hp → Prop} {r : Res} {k : Val → Hh → ResL} (w : WantsL T K io n F H W Q (r.bindL k))
    (hk : ∀ v h1 io1 F1 H1 x, Step io n F H io1 h1.length F1 H1 → SR T K io1 h1 F1 H1 → VR T K io1 h1.length F1 v x → WantsL T K io1 h1.length F1 H1 W Q (k v h1) → R x H1) : Wants T K io n F H W R r := by
  cases r with
  | ok v h1 => exact fun io1 F1 H1 x st sr vr => hk v h1 io1 F1 H1 x st sr vr (WantsL.rebase w st sr)
  | exc c fs h' => exact w
  | bad => exact w
theorem WantsL.bindL {R Q : List V → Hp → Prop} {r : ResL} {k : List Val → Hh → ResL} (w : WantsL T K io n F H W Q (r.bindL k))
    (hk : ∀ v h1 io1 F1 H1 x, Step io n F H io1 h1.length F1 H1 → SR T K io1 h1 F1 H1 → VRs T K io1 h1.length F1 v x → WantsL T K io1 h1.length F1 H1 W Q (k v h1) → R x H1) : WantsL T K io n F H W R r := by
  cases r with
  | ok v h1 => exact fun io1 F1 H1 x st sr vr => hk v h1 io1 F1 H1 x st sr vr (WantsL.rebase w st sr)
  | exc c fs h' => exact w
  | bad => exact w
theorem Wants.bindOfL {R : List V → Hp → Prop} {r : ResL} {k : List Val → Hh → Res} (w : Wants T K io n F H W Q (r.bind k))
    (hk : ∀ v h1 io1 F1 H1 x, Step io n F H io1 h1.length F1 H1 → SR T K io1 h1 F1 H1 → VRs T K io1 h1.length F1 v x → Wants T K io1 h1.length F1 H1 W Q (k v h1) → R x H1) : WantsL T K io n F H W R r := by
  cases r with
  | ok v h1 => exact fun io1 F1 H1 x st sr vr => hk v h1 io1 F1 H1 x st sr vr (Wants.rebase w st sr)
  | exc c fs h' => exact w
  | bad => exact w
theorem WantsB.bind {R : VK} {Q : Bool → Hp → Prop} {r : Res} {k : Val → Hh → Res} (w : WantsB T K io n F H W Q (r.bind k))
    (hk : ∀ v h1 io1 F1 H1 x, Step io n F H io1 h1.length F1 H1 → SR T K io1 h1 F1 H1 → VR T K io1 h1.length F1 v x → WantsB T K io1 h1.length F1 H1 W Q (k v h1) → R x H1) : Wants T K io n F H W R r := by
  cases r with
  | ok v h1 => exact fun io1 F1 H1 x st sr vr => hk v h1 io1 F1 H1 x st sr vr (WantsB.rebase w st sr)
  | exc c fs h' => exact w
  | bad => exact w
end

/-- the truth of a result's bool -/
def Res.test (r : Res) (a b : Hh → Res) : Res := match r with
  | .ok (.bl true) h => a h
  | .ok (.bl false) h => b h
  | .ok _ _ => .bad
  | .exc c fs h => .exc c fs h
  | .bad => .bad
def Res.testS (sg : Sg) (r : Res) (a b : Hh → ResS) : ResS := match r with
  | .ok (.bl true) h => a h
  | .ok (.bl false) h => b h
  | .ok _ _ => .bad
  | .exc c fs h => .exc c fs sg h
  | .bad => .bad
section
variable {T : Tb} {K : PySem.W.Frag} {io io1 io2 : Nat → Addr} {n n1 n2 : Nat} {F F1 F2 H H1 H2 : Hp} {h h1 h2 : Hh} {W : XK} {Q : VK}
theorem Wants.test {R : Bool → Hp → Prop} {r : Res} {a b : Hh → Res} (w : Wants T K io n F H W Q (r.test a b))
    (hk : ∀ v h1 io1 F1 H1, Step io n F H io1 h1.length F1 H1 → SR T K io1 h1 F1 H1 → Wants T K io1 h1.length F1 H1 W Q (if v = true then a h1 else b h1) → R v H1) : WantsB T K io n F H W R r := by
  cases r with
  | ok v h1 => cases v with
    | bl v =>
      cases v with
      | true => exact fun io1 F1 H1 st sr => hk true h1 io1 F1 H1 st sr (Wants.rebase w st sr)
      | false => exact fun io1 F1 H1 st sr => hk false h1 io1 F1 H1 st sr (Wants.rebase w st sr)
    | _ => exact w
  | exc c fs h' => exact w
  | bad => exact w
theorem WantsB.test {R Q : Bool → Hp → Prop} {r : Res} {a b : Hh → Res} (w : WantsB T K io n F H W Q (r.test a b))
    (hk : ∀ v h1 io1 F1 H1, Step io n F H io1 h1.length F1 H1 → SR T K io1 h1 F1 H1 → WantsB T K io1 h1.length F1 H1 W Q (if v = true then a h1 else b h1) → R v H1) : WantsB T K io n F H W R r := by
  cases r with
  | ok v h1 => cases v with
    | bl v =>
      cases v with
      | true => exact fun io1 F1 H1 st sr => hk true h1 io1 F1 H1 st sr (WantsB.rebase w st sr)
      | false => exact fun io1 F1 H1 st sr => hk false h1 io1 F1 H1 st sr (WantsB.rebase w st sr)
    | _ => exact w
  | exc c fs h' => exact w
  | bad => exact w
end

/-! ### the state: allocations -/
section
variable {T : Tb} {K : PySem.W.Frag} {io : Nat → Addr} {F H : Hp} {h : Hh} {p : Addr} {o : HO}
theorem SR.none_of (s : SR T K io h F H) (hp : H p = none) : F p = none := by
  cases q : F p with
  | none => rfl
  | some u => rw [s.sub p u q] at hp; cases hp
theorem upd_sub (F : Hp) (hp : F p = none) : ∀ b u, F b = some u → upd F p o b = some u := fun b u e => by
  rw [upd_ne (ne_of_none e hp)]; exact e
theorem OR.mono {io io' : Nat → Addr} {n n' : Nat} {F F' H H' : Hp} (hn : n ≤ n') (hi : ∀ k, k < n → io' k = io k) (hF : ∀ b o, F b = some o → F' b = some o) (hH : ∀ b o, H b = some o → H' b = some o) {a : Addr} {ob : Obj} (r : OR T K io n F H a ob) : OR T K io' n' F' H' a ob := by
  cases ob with
  | lst vs => obtain ⟨xs, e, r⟩ := r; exact ⟨xs, hH _ _ e, r.mono hn hi hF⟩
  | ins c vs => obtain ⟨dx, xs, e, d, r, l⟩ := r; exact ⟨dx, xs, hH _ _ e, hH _ _ d, r.mono hn hi hF, l⟩
/-- a new thing that never changes -/
theorem SR.alloc (s : SR T K io h F H) (hp : H p = none) (o : HO) : SR T K io h (upd F p o) (upd H p o) := by
  have fp := s.none_of hp
  refine ⟨fun b u e => ?_, fun k hk => ?_, s.inj, fun k ob e => (s.obj k ob e).mono (Nat.le_refl _) (fun _ _ => rfl) (upd_sub F fp) (upd_sub H hp)⟩
  · by_cases hb : b = p
    · subst hb; rw [upd_same] at e ⊢; exact e
    · rw [upd_ne hb] at e ⊢; exact s.sub b u e
  · obtain ⟨u, e⟩ := s.there hk
    rw [upd_ne (ne_of_none e hp)]; exact s.dis k hk
theorem SR.allocStep (s : SR T K io h F H) (hp : H p = none) (o : HO) : Step io h.length F H io h.length (upd F p o) (upd H p o) :=
  ⟨Nat.le_refl _, fun _ _ => rfl, upd_sub F (s.none_of hp), fun b u e _ => upd_sub H hp b u e, fun k a b => absurd b (Nat.not_lt.mpr a), fun b u e => by
    by_cases hb : b = p
    · subst hb; exact .inr (.inl hp)
    · rw [upd_ne hb] at e; exact .inl e⟩
/-- a new thing that nobody names -/
theorem SR.garb (s : SR T K io h F H) (hp : H p = none) (o : HO) : SR T K io h F (upd H p o) :=
  ⟨fun b u e => upd_sub H hp b u (s.sub b u e), s.dis, s.inj, fun k ob e => (s.obj k ob e).mono (Nat.le_refl _) (fun _ _ => rfl) (fun _ _ e => e) (upd_sub H hp)⟩
theorem SR.garbStep (s : SR T K io h F H) (hp : H p = none) (o : HO) : Step io h.length F H io h.length F (upd H p o) :=
  ⟨Nat.le_refl _, fun _ _ => rfl, fun _ _ e => e, fun b u e _ => upd_sub H hp b u e, fun k a b => absurd b (Nat.not_lt.mpr a), fun _ _ e => .inl e⟩
/-- a new mutable object -/
def ioPush (io : Nat → Addr) (n : Nat) (p : Addr) : Nat → Addr := fun k => if k = n then p else io k
theorem ioPush_lt (io : Nat → Addr) (p : Addr) {n k : Nat} (hk : k < n) : ioPush io n p k = io k := by unfold ioPush; rw [if_neg (Nat.ne_of_lt hk)]
theorem ioPush_at (io : Nat → Addr) (p : Addr) (n : Nat) : ioPush io n p n = p := by unfold ioPush; rw [if_pos rfl]
theorem SR.push (s : SR T K io h F H) (hp : H p = none) {H' : Hp} {ob : Obj} (hH : ∀ b u, H b = some u → H' b = some u) (new : OR T K (ioPush io h.length p) (h.length + 1) F H' p ob) : SR T K (ioPush io h.length p) (h ++ [ob]) F H' := by
  have nek : ∀ k, k < h.length → io k ≠ p := fun k hk => by obtain ⟨u, e⟩ := s.there hk; exact ne_of_none e hp
  have len : (h ++ [ob]).length = h.length + 1 := by simp
  refine ⟨fun b u e => hH b u (s.sub b u e), fun k hk => ?_, fun j k hj hk e => ?_, fun k o e => ?_⟩
  · rw [len] at hk
    by_cases q : k = h.length
    · subst q; rw [ioPush_at]; exact s.none_of hp
    · rw [ioPush_lt io p (by omega)]; exact s.dis k (by omega)
  · rw [len] at hj hk
    by_cases qj : j = h.length
    · by_cases qk : k = h.length
      · rw [qj, qk]
      · rw [qj, ioPush_at, ioPush_lt io p (by omega)] at e; exact absurd e.symm (nek k (by omega))
    · by_cases qk : k = h.length
      · rw [qk, ioPush_at, ioPush_lt io p (by omega)] at e; exact absurd e (nek j (by omega))
      · rw [ioPush_lt io p (by omega), ioPush_lt io p (by omega)] at e; exact s.inj j k (by omega) (by omega) e
  · rw [len]
    by_cases q : k < h.length
    · rw [List.getElem?_append_left q] at e
      rw [ioPush_lt io p q]
      exact (s.obj k o e).mono (Nat.le_succ _) (fun j hj => ioPush_lt io p hj) (fun _ _ e => e) hH
    · rw [List.getElem?_append_right (by omega)] at e
      by_cases q2 : k = h.length
      · subst q2
        simp at e
        subst e
        rw [ioPush_at]; exact new
      · rw [List.getElem?_eq_none (by simp; omega)] at e; cases e
theorem SR.pushStep (s : SR T K io h F H) (hp : H p = none) {H' : Hp} {ob : Obj} (hH : ∀ b u, H b = some u → H' b = some u) : Step io h.length F H (ioPush io h.length p) (h ++ [ob]).length F H' := by
  refine ⟨by simp, fun k hk => ioPush_lt io p hk, fun _ _ e => e, fun b u e _ => hH b u e, fun k a b => ?_, fun _ _ e => .inl e⟩
  have : k = h.length := by simp at b; omega
  subst this
  rw [ioPush_at]; exact hp
/-- a mutable object changed -/
theorem SR.write (s : SR T K io h F H) {k : Nat} (hk : k < h.length) {o' : HO} {ob : Obj} (hno : ∀ y, H (io k) ≠ some (.own y)) (new : OR T K io h.length F (upd H (io k) o') (io k) ob) : SR T K io (h.set k ob) F (upd H (io k) o') := by
  have len : (h.set k ob).length = h.length := by simp
  refine ⟨fun b u e => ?_, fun j hj => s.dis j (by rwa [len] at hj), fun i j hi hj e => s.inj i j (by rwa [len] at hi) (by rwa [len] at hj) e, fun j o e => ?_⟩
  · have : b ≠ io k := fun z => by rw [z, s.dis k hk] at e; cases e
    rw [upd_ne this]; exact s.sub b u e
  · rw [len]
    by_cases q : k = j
    · subst q
      rw [List.getElem?_set_self hk] at e
      cases e; exact new
    · rw [List.getElem?_set_ne q] at e
      have hj : j < h.length := (List.getElem?_eq_some_iff.mp e).1
      have ne : io j ≠ io k := fun z => q (s.inj k j hk hj z.symm)
      have r := s.obj j o e
      cases o with
      | lst vs => obtain ⟨xs, e1, r⟩ := r; exact ⟨xs, by rw [upd_ne ne]; exact e1, r⟩
      | ins c vs =>
        obtain ⟨dx, xs, e1, d, r, l⟩ := r
        exact ⟨dx, xs, by rw [upd_ne ne]; exact e1, by rw [upd_ne (fun z => hno _ (z ▸ d))]; exact d, r, l⟩
theorem SR.writeStep (s : SR T K io h F H) {k : Nat} (hk : k < h.length) {o' : HO} {ob : Obj} : Step io h.length F H io (h.set k ob).length F (upd H (io k) o') := by
  refine ⟨by simp, fun _ _ => rfl, fun _ _ e => e, fun b u e hb => ?_, fun j a b => absurd (by simpa using b) (Nat.not_lt.mpr a), fun _ _ e => .inl e⟩
  rw [upd_ne (fun z => hb k hk z.symm)]; exact e
end

/-! ### expressions: names, constants -/
def xVar (i : Nat) : Ex := fun sg h => match sg[i]? with
  | some (some v) => .ok v h
  | _ => .bad
def xC (v : Val) : Ex := fun _ h => .ok v h
section
variable {T : Tb} {X : Cx} {W : WX}
theorem je_var (i : Nat) {x : Str} {pos : Pos} (hN : X.N[i]? = some x := by rfl) (hv : Vis X.env.scope x := by first | exact Or.inl rfl | exact Or.inr (Or.inl rfl) | exact Or.inr (Or.inr rfl)) (hd : (x == ("__debug__" : Str)) = false := by decide)
    (hcd : (x == ("__classdict__" : Str)) = false := by decide) : JE T X W (.Name x pos) (xVar i) := by
  refine pe_imp (pe_var hN hv hd hcd) fun σ H Q ⟨io, h, F, sg, sr, rs, w⟩ => ?_
  unfold xVar at w
  cases e : sg[i]? with
  | none => rw [e] at w; exact w.elim
  | some o =>
    cases o with
    | none => rw [e] at w; exact w.elim
    | some v =>
      rw [e] at w
      obtain ⟨x', e1, r⟩ := rs.at_ i v e
      exact ⟨x', e1, w io F H x' .refl sr r⟩
theorem je_int {i j pos} : JE T X W (.Constant (.int i) j pos) (xC (.int i)) := pe_imp pe_int fun σ H Q ⟨io, h, F, sg, sr, rs, w⟩ => w io F H _ .refl sr (.int i)
theorem je_bl {i j pos} : JE T X W (.Constant (.bool i) j pos) (xC (.bl i)) := pe_imp pe_bl fun σ H Q ⟨io, h, F, sg, sr, rs, w⟩ => w io F H _ .refl sr (.bl i)
theorem je_non {j pos} : JE T X W (.Constant .none j pos) (xC .non) := pe_imp pe_non fun σ H Q ⟨io, h, F, sg, sr, rs, w⟩ => w io F H _ .refl sr .non
theorem je_str (s : List Nat) {x : Str} {j pos} (hx : x = ⟨s.toArray⟩ := by decide +kernel) : JE T X W (.Constant (.str x) j pos) (xC (.str s)) := by
  subst hx
  exact pe_imp pe_str fun σ H Q ⟨io, h, F, sg, sr, rs, w⟩ => w io F H _ .refl sr (.str s)
/-- a constant of the module: a def, a class, a number, a text, a tuple of them -/
def GV (T : Tb) (X : Cx) (x : Str) (v : Val) : Prop := ∃ (u : Value) (y : V), X.mg x = some u ∧ RelV y u ∧ ∀ io n F, VR T X.K io n F v y
theorem je_glob {x : Str} {v : Val} {pos : Pos} (hg : Gl X x) (g : GV T X x v) (hd : (x == ("__debug__" : Str)) = false := by decide) : JE T X W (.Name x pos) (xC v) := by
  obtain ⟨u, y, hm, r, q⟩ := g
  exact pe_imp (pe_glob hg hm r hd) fun σ H Q ⟨io, h, F, sg, sr, rs, w⟩ => w io F H _ .refl sr (q io h.length F)

/-! ### operators -/
/-- an operation on two values, of which r is the layer's rule -/
abbrev G2 := Hh → Val → Val → Option Val
def Lift2 (T : Tb) (K : PySem.W.Frag) (r : R2) (g : G2) : Prop :=
  ∀ io h F H v u x y z Q, SR T K io h F H → VR T K io h.length F v x → VR T K io h.length F u y → g h v u = some z →
    (∀ F' H' x', Step io h.length F H io h.length F' H' → SR T K io h F' H' → VR T K io h.length F' z x' → Q x' H') → r x y H Q
def Res.ofO (o : Option Val) (h : Hh) : Res := match o with
  | some v => .ok v h
  | none => .bad
def xOp (g : G2) (a b : Ex) : Ex := fun sg h => (a sg h).bind fun x h1 => (b sg h1).bind fun y h2 => .ofO (g h2 x y) h2
variable {a b c : Expr} {fa fb fc : Ex} {pos : Pos} {r r' : R2} {g g' : G2}
theorem wants_ofO {K : PySem.W.Frag} {io : Nat → Addr} {n : Nat} {F H : Hp} {W : XK} {Q : VK} {o : Option Val} {h : Hh} (w : Wants T K io n F H W Q (.ofO o h)) : ∃ z, o = some z ∧ Wants T K io n F H W Q (.ok z h) := by
  cases o with
  | none => exact w.elim
  | some z => exact ⟨z, rfl, w⟩
theorem tOp_of (hl : Lift2 T X.K r g) {σ : L2.St} {H : Hp} {Q : VK} : tE T X.K W (xOp g fa fb) σ H Q → tOp r (tE T X.K W fa) (tE T X.K W fb) σ H Q := by
  rintro ⟨io, h, F, sg, sr, rs, w⟩
  refine ⟨io, h, F, sg, sr, rs, Wants.bind w fun v h1 io1 F1 H1 x st sr1 vr w1 => ⟨io1, h1, F1, sg, sr1, rs.step st, Wants.bind w1 fun u h2 io2 F2 H2 y st2 sr2 vr2 w2 => ?_⟩⟩
  obtain ⟨z, e, w3⟩ := wants_ofO w2
  exact hl io2 h2 F2 H2 v u x y z Q sr2 (vr.step st2) vr2 e fun F' H' x' st' sr' vr' => w3 io2 F' H' x' st' sr' vr'
theorem je_op {op : Operator} (ho : OpR X (binaryOp op) r) (hl : Lift2 T X.K r g) (ha : JE T X W a fa) (hb : JE T X W b fb) : JE T X W (.BinOp a op b pos) (xOp g fa fb) :=
  pe_imp (pe_op ho ha hb) fun _ _ _ => tOp_of hl
theorem je_cmp {op : CmpOp} (ho : OpR X (compareOp op) r) (hl : Lift2 T X.K r g) (ha : JE T X W a fa) (hb : JE T X W b fb) (hm : behindInMarks op b = false := by first | exact nomark _ | rfl | with_unfolding_all rfl) : JE T X W (.Compare a [op] [b] pos) (xOp g fa fb) :=
  pe_imp (pe_cmpR ho ha hb hm) fun _ _ _ => tOp_of hl
/-- a value's reading as a test's -/
theorem tTest_of {t : TE} {f : Ex} (ht : ∀ σ H Q, tE T X.K W f σ H Q → t σ H Q) {σ : L2.St} {H : Hp} {Q : Bool → Hp → Prop} : tB1 T X.K W f σ H Q → tTest t σ H Q := by
  rintro ⟨io, h, F, sg, sr, rs, w⟩
  refine ht σ H _ ⟨io, h, F, sg, sr, rs, ?_⟩
  cases e : f sg h with
  | ok v h' =>
    rw [e] at w
    cases v with
    | bl k => exact fun io' F' H' x st sr' vr => by cases vr; exact ⟨k, rfl, w io' F' H' st sr'⟩
    | _ => exact False.elim w
  | exc c fs h' => rw [e] at w; exact w
  | bad => rw [e] at w; exact w
theorem jt_cmp {op : CmpOp} (ho : OpR X (compareOp op) r) (hl : Lift2 T X.K r g) (ha : JE T X W a fa) (hb : JE T X W b fb) (hm : behindInMarks op b = false := by first | exact nomark _ | rfl | with_unfolding_all rfl) : JT T X W (.Compare a [op] [b] pos) (xOp g fa fb) :=
  pt_imp (pt_cmpR ho ha hb hm) fun _ _ _ => tTest_of fun _ _ _ => tOp_of hl
/-- a test that is a value's (a call, a name, a field): a bool -/
theorem jt_val {f : Ex} (h : JE T X W a f) (he : ∀ whole, isTrue a X.env whole = (do let v ← whole; standAt a.pos; holding [v] (truthy v)) := by intro _; rfl) : JT T X W a f :=
  pt_imp (pt_val h he) fun _ _ _ q => tTest_of (T := T) (X := X) (W := W) (fun _ _ _ z => z) q
/-- chains -/
def xChain (g g' : G2) (a b c : Ex) : Ex := fun sg h => (a sg h).bind fun x h1 => (b sg h1).bind fun y h2 => match g h2 x y with
  | some (.bl true) => (c sg h2).bind fun z h3 => .ofO (g' h3 y z) h3
  | some (.bl false) => .ok (.bl false) h2
  | _ => .bad
theorem tChain_of (hl : Lift2 T X.K r g) (hl' : Lift2 T X.K r' g') {σ : L2.St} {H : Hp} {Q : VK} : tE T X.K W (xChain g g' fa fb fc) σ H Q → tChain r r' (tE T X.K W fa) (tE T X.K W fb) (tE T X.K W fc) σ H Q := by
  rintro ⟨io, h, F, sg, sr, rs, w⟩
  refine ⟨io, h, F, sg, sr, rs, Wants.bind w fun v h1 io1 F1 H1 x st sr1 vr w1 => ⟨io1, h1, F1, sg, sr1, rs.step st, Wants.bind w1 fun u h2 io2 F2 H2 y st2 sr2 vr2 w2 => ?_⟩⟩
  have rs2 := (rs.step st).step st2
  cases e : g h2 v u with
  | none => rw [e] at w2; exact w2.elim
  | some z =>
    rw [e] at w2
    refine hl io2 h2 F2 H2 v u x y z _ sr2 (vr.step st2) vr2 e fun F' H' x' st' sr' vr' => ?_
    cases z with
    | bl k =>
      cases vr'
      refine ⟨k, rfl, ?_⟩
      cases k with
      | false => rw [if_neg Bool.false_ne_true]; exact w2 io2 F' H' _ st' sr' (.bl false)
      | true =>
        rw [if_pos rfl]
        refine ⟨io2, h2, F', sg, sr', rs2.step st', Wants.bind (Wants.rebase w2 st' sr') fun q h3 io3 F3 H3 y3 st3 sr3 vr3 w3 => ?_⟩
        obtain ⟨z, e, w4⟩ := wants_ofO w3
        exact hl' io3 h3 F3 H3 u q y y3 z Q sr3 ((vr2.step st').step st3) vr3 e fun F' H' x' st' sr' vr' => w4 io3 F' H' x' st' sr' vr'
    | _ => exact w2.elim
theorem je_chain {op op' : CmpOp} (ho : OpR X (compareOp op) r) (hl : Lift2 T X.K r g) (ho' : OpR X (compareOp op') r') (hl' : Lift2 T X.K r' g') (ha : JE T X W a fa) (hb : JE T X W b fb) (hc : JE T X W c fc)
    (hm : lastMarks [op, op'] [b, c] = false := by with_unfolding_all rfl) : JE T X W (.Compare a [op, op'] [b, c] pos) (xChain g g' fa fb fc) := pe_imp (pe_chain ho ho' ha hb hc hm) fun _ _ _ => tChain_of hl hl'
theorem jt_chain {op op' : CmpOp} (ho : OpR X (compareOp op) r) (hl : Lift2 T X.K r g) (ho' : OpR X (compareOp op') r') (hl' : Lift2 T X.K r' g') (ha : JE T X W a fa) (hb : JE T X W b fb) (hc : JE T X W c fc)
    (hm : lastMarks [op, op'] [b, c] = false := by with_unfolding_all rfl) : JT T X W (.Compare a [op, op'] [b, c] pos) (xChain g g' fa fb fc) := pt_imp (pt_chain ho ho' ha hb hc hm) fun _ _ _ => tTest_of fun _ _ _ => tChain_of hl hl'

/-! ### and, or, not, if -/
def xAnd (a b : Ex) : Ex := fun sg h => (a sg h).test (fun h1 => b sg h1) (fun h1 => .ok (.bl false) h1)
def xOr (a b : Ex) : Ex := fun sg h => (a sg h).test (fun h1 => .ok (.bl true) h1) (fun h1 => b sg h1)
def xNot (a : Ex) : Ex := fun sg h => (a sg h).test (fun h1 => .ok (.bl false) h1) (fun h1 => .ok (.bl true) h1)
def xIf (c a b : Ex) : Ex := fun sg h => (c sg h).test (fun h1 => a sg h1) (fun h1 => b sg h1)
variable {rest : List Expr}
theorem jw_one {op} (ha : JT T X W a fa) : JW T X W (.BoolOp op [a] pos) fa := by
  cases op with
  | And => exact pw_and1 ha
  | Or => exact pw_or1 ha
theorem jw_and (ha : JT T X W a fa) (hb : JW T X W (.BoolOp .And (b :: rest) pos) fb) : JW T X W (.BoolOp .And (a :: b :: rest) pos) (xAnd fa fb) := by
  refine pw_imp (pw_and ha hb) fun σ H Q ⟨io, h, F, sg, sr, rs, w⟩ => ⟨io, h, F, sg, sr, rs, WantsB.test w fun v h1 io1 F1 H1 st sr1 w1 => ?_⟩
  cases v with
  | true => rw [if_pos rfl] at w1 ⊢; exact ⟨io1, h1, F1, sg, sr1, rs.step st, w1⟩
  | false => rw [if_neg Bool.false_ne_true] at w1 ⊢; exact w1 io1 F1 H1 .refl sr1
theorem jw_or (ha : JT T X W a fa) (hb : JW T X W (.BoolOp .Or (b :: rest) pos) fb) : JW T X W (.BoolOp .Or (a :: b :: rest) pos) (xOr fa fb) := by
  refine pw_imp (pw_or ha hb) fun σ H Q ⟨io, h, F, sg, sr, rs, w⟩ => ⟨io, h, F, sg, sr, rs, WantsB.test w fun v h1 io1 F1 H1 st sr1 w1 => ?_⟩
  cases v with
  | true => rw [if_pos rfl] at w1 ⊢; exact w1 io1 F1 H1 .refl sr1
  | false => rw [if_neg Bool.false_ne_true] at w1 ⊢; exact ⟨io1, h1, F1, sg, sr1, rs.step st, w1⟩
theorem jt_w {f : Ex} (h : JW T X W a f) : JT T X W a f := h.pt
theorem jt_not (ha : JT T X W a fa) : JT T X W (.UnaryOp .Not a pos) (xNot fa) := by
  refine pt_imp (pt_not ha) fun σ H Q ⟨io, h, F, sg, sr, rs, w⟩ => ⟨io, h, F, sg, sr, rs, WantsB.test w fun v h1 io1 F1 H1 st sr1 w1 => ?_⟩
  cases v with
  | true => rw [if_pos rfl] at w1; exact w1 io1 F1 H1 .refl sr1
  | false => rw [if_neg Bool.false_ne_true] at w1; exact w1 io1 F1 H1 .refl sr1
/-- as values: bools -/
theorem tVB {t : TE} {f : Ex} {Q : VK} {σ : L2.St} {H : Hp} {k : Hh → Res} {k' : Hh → Res} {R : Bool → Hp → Prop} : True := trivial
theorem Wants.boolV {K : PySem.W.Frag} {io : Nat → Addr} {n : Nat} {F H : Hp} {W : XK} {Q : VK} {R : VK} {r : Res} {a b : Hh → Res} (w : Wants T K io n F H W Q (r.test a b))
    (hk : ∀ v h1 io1 F1 H1, Step io n F H io1 h1.length F1 H1 → SR T K io1 h1 F1 H1 → Wants T K io1 h1.length F1 H1 W Q (if v = true then a h1 else b h1) → R (.bl v) H1) : Wants T K io n F H W R r := by
  cases r with
  | ok v h1 => cases v with
    | bl v =>
      intro io1 F1 H1 x st sr vr
      cases vr
      cases v with
      | true => exact hk true h1 io1 F1 H1 st sr (Wants.rebase w st sr)
      | false => exact hk false h1 io1 F1 H1 st sr (Wants.rebase w st sr)
    | _ => exact False.elim w
  | exc c fs h' => exact w
  | bad => exact w
theorem je_one {op} (ha : JE T X W a fa) : JE T X W (.BoolOp op [a] pos) fa := pe_one ha
theorem je_and (ha : JE T X W a fa) (hb : JE T X W (.BoolOp .And (b :: rest) pos) fb) : JE T X W (.BoolOp .And (a :: b :: rest) pos) (xAnd fa fb) := by
  refine pe_imp (pe_and ha hb) fun σ H Q ⟨io, h, F, sg, sr, rs, w⟩ => ⟨io, h, F, sg, sr, rs, Wants.boolV w fun v h1 io1 F1 H1 st sr1 w1 => ⟨v, rfl, ?_⟩⟩
  cases v with
  | true => rw [if_pos rfl] at w1 ⊢; exact ⟨io1, h1, F1, sg, sr1, rs.step st, w1⟩
  | false => rw [if_neg Bool.false_ne_true] at w1 ⊢; exact w1 io1 F1 H1 _ .refl sr1 (.bl false)
theorem je_or (ha : JE T X W a fa) (hb : JE T X W (.BoolOp .Or (b :: rest) pos) fb) : JE T X W (.BoolOp .Or (a :: b :: rest) pos) (xOr fa fb) := by
  refine pe_imp (pe_or ha hb) fun σ H Q ⟨io, h, F, sg, sr, rs, w⟩ => ⟨io, h, F, sg, sr, rs, Wants.boolV w fun v h1 io1 F1 H1 st sr1 w1 => ⟨v, rfl, ?_⟩⟩
  cases v with
  | true => rw [if_pos rfl] at w1 ⊢; exact w1 io1 F1 H1 _ .refl sr1 (.bl true)
  | false => rw [if_neg Bool.false_ne_true] at w1 ⊢; exact ⟨io1, h1, F1, sg, sr1, rs.step st, w1⟩
theorem je_not (ha : JE T X W a fa) : JE T X W (.UnaryOp .Not a pos) (xNot fa) := by
  refine pe_imp (pe_not ha) fun σ H Q ⟨io, h, F, sg, sr, rs, w⟩ => ⟨io, h, F, sg, sr, rs, Wants.boolV w fun v h1 io1 F1 H1 st sr1 w1 => ⟨v, rfl, ?_⟩⟩
  cases v with
  | true => rw [if_pos rfl] at w1; exact w1 io1 F1 H1 _ .refl sr1 (.bl false)
  | false => rw [if_neg Bool.false_ne_true] at w1; exact w1 io1 F1 H1 _ .refl sr1 (.bl true)
theorem je_if (hc : JT T X W c fc) (ha : JE T X W a fa) (hb : JE T X W b fb) : JE T X W (.IfExp c a b pos) (xIf fc fa fb) := by
  refine pe_imp (pe_ifExp hc ha hb) fun σ H Q ⟨io, h, F, sg, sr, rs, w⟩ => ⟨io, h, F, sg, sr, rs, Wants.test w fun v h1 io1 F1 H1 st sr1 w1 => ?_⟩
  cases v with
  | true => rw [if_pos rfl] at w1 ⊢; exact ⟨io1, h1, F1, sg, sr1, rs.step st, w1⟩
  | false => rw [if_neg Bool.false_ne_true] at w1 ⊢; exact ⟨io1, h1, F1, sg, sr1, rs.step st, w1⟩

/-! ### is None -/
def isNon : Val → Bool
  | .non => true
  | _ => false
def gIsN : G2 := fun _ v _ => some (.bl (isNon v))
def gNotN : G2 := fun _ v _ => some (.bl (!isNon v))
theorem VR.non_iff {K : PySem.W.Frag} {io : Nat → Addr} {n : Nat} {F : Hp} {v : Val} {x : V} (r : VR T K io n F v x) : decide (x = .non) = isNon v := by
  cases r <;> rfl
def xUn (g : Hh → Val → Option Val) (a : Ex) : Ex := fun sg h => (a sg h).bind fun x h1 => .ofO (g h1 x) h1
theorem je_isN {j pos'} (ha : JE T X W a fa) : JE T X W (.Compare a [.Is] [.Constant .none j pos'] pos) (xUn (fun _ v => some (.bl (isNon v))) fa) := by
  refine pe_imp (pe_cmp (pc_isN ha)) fun σ H Q ⟨io, h, F, sg, sr, rs, w⟩ => ⟨io, h, F, sg, sr, rs, Wants.bind w fun v h1 io1 F1 H1 x st sr1 vr w1 => ?_⟩
  rw [vr.non_iff]
  exact w1 io1 F1 H1 _ .refl sr1 (.bl _)
theorem je_notN {j pos'} (ha : JE T X W a fa) : JE T X W (.Compare a [.IsNot] [.Constant .none j pos'] pos) (xUn (fun _ v => some (.bl (!isNon v))) fa) := by
  refine pe_imp (pe_cmp (pc_notN ha)) fun σ H Q ⟨io, h, F, sg, sr, rs, w⟩ => ⟨io, h, F, sg, sr, rs, Wants.bind w fun v h1 io1 F1 H1 x st sr1 vr w1 => ?_⟩
  rw [vr.non_iff]
  exact w1 io1 F1 H1 _ .refl sr1 (.bl _)
theorem jt_isN {j pos'} (ha : JE T X W a fa) : JT T X W (.Compare a [.Is] [.Constant .none j pos'] pos) (xUn (fun _ v => some (.bl (isNon v))) fa) := by
  refine pt_imp (pt_cmp (pc_isN ha)) fun σ H Q q => tTest_of (T := T) (X := X) (W := W) (fun σ H Q ⟨io, h, F, sg, sr, rs, w⟩ => ⟨io, h, F, sg, sr, rs, Wants.bind w fun v h1 io1 F1 H1 x st sr1 vr w1 => ?_⟩) q
  rw [vr.non_iff]
  exact w1 io1 F1 H1 _ .refl sr1 (.bl _)
theorem jt_notN {j pos'} (ha : JE T X W a fa) : JT T X W (.Compare a [.IsNot] [.Constant .none j pos'] pos) (xUn (fun _ v => some (.bl (!isNon v))) fa) := by
  refine pt_imp (pt_cmp (pc_notN ha)) fun σ H Q q => tTest_of (T := T) (X := X) (W := W) (fun σ H Q ⟨io, h, F, sg, sr, rs, w⟩ => ⟨io, h, F, sg, sr, rs, Wants.bind w fun v h1 io1 F1 H1 x st sr1 vr w1 => ?_⟩) q
  rw [vr.non_iff]
  exact w1 io1 F1 H1 _ .refl sr1 (.bl _)

/-! ### arguments, displays -/
def xNil : Lx := fun _ h => .ok [] h
def xCons (a : Ex) (r : Lx) : Lx := fun sg h => (a sg h).bindL fun v h1 => (r sg h1).bindL fun vs h2 => .ok (v :: vs) h2
variable {e : Expr} {es : List Expr} {fe : Ex} {fr : Lx}
theorem ja_nil : JA T X W [] xNil := pa_imp pa_nil fun σ H Q ⟨io, h, F, sg, sr, rs, w⟩ => w io F H _ .refl sr .nil
theorem ja_cons (ha : JE T X W e fe) (hr : JA T X W es fr) (hs : starEach (e :: es) X.env = (false, eval e X.env) :: starEach es X.env := by rfl) : JA T X W (e :: es) (xCons fe fr) := by
  refine pa_imp (pa_cons ha hr hs) fun σ H Q ⟨io, h, F, sg, sr, rs, w⟩ => ⟨io, h, F, sg, sr, rs, WantsL.ofBind w fun v h1 io1 F1 H1 x st sr1 vr w1 => ⟨io1, h1, F1, sg, sr1, rs.step st, WantsL.bindL w1 fun vs h2 io2 F2 H2 xs st2 sr2 vrs w2 => ?_⟩⟩
  exact w2 io2 F2 H2 _ .refl sr2 (.cons (vr.step st2) vrs)
/-- a tuple of written items -/
def xTup (r : Lx) : Ex := fun sg h => (r sg h).bind fun vs h1 => if vs.length ≤ 1000000 then .ok (.tup vs) h1 else .bad
theorem sizeOk {n : Nat} (h : n ≤ 1000000) : n ≤ sizeLine := by rw [sizeLine_eq]; omega
theorem je_tup {x1} (hr : JA T X W es fr) : JE T X W (.Tuple es x1 pos) (xTup fr) := by
  refine pe_imp (pe_tup hr) fun σ H Q ⟨io, h, F, sg, sr, rs, w⟩ => ⟨io, h, F, sg, sr, rs, Wants.bindOfL w fun vs h1 io1 F1 H1 xs st sr1 vrs w1 => ?_⟩
  by_cases hz : vs.length ≤ 1000000
  · rw [if_pos hz] at w1
    refine ⟨by rw [← vrs.length]; exact sizeOk hz, fun p hp => ?_⟩
    exact w1 io1 _ _ _ (sr1.allocStep hp _) (sr1.alloc hp _) (.tup (.inl (.inl upd_same)) (vrs.step (sr1.allocStep hp (.tup xs))))
  · rw [if_neg hz] at w1; exact w1.elim
/-- a list of written items: a new mutable object -/
def xLst (r : Lx) : Ex := fun sg h => (r sg h).bind fun vs h1 => if vs.length ≤ 1000000 then .ok (.ref h1.length) (h1 ++ [.lst vs]) else .bad
theorem je_lst (hr : JA T X W es fr) : JE T X W (.List es pos) (xLst fr) := by
  refine pe_imp (pe_lst hr) fun σ H Q ⟨io, h, F, sg, sr, rs, w⟩ => ⟨io, h, F, sg, sr, rs, Wants.bindOfL w fun vs h1 io1 F1 H1 xs st sr1 vrs w1 => ?_⟩
  by_cases hz : vs.length ≤ 1000000
  · rw [if_pos hz] at w1
    refine ⟨by rw [← vrs.length]; exact sizeOk hz, fun p hp => ?_⟩
    have hH : ∀ b u, H1 b = some u → upd H1 p (.lst xs) b = some u := upd_sub H1 hp
    have vp : VR T X.K (ioPush io1 h1.length p) (h1 ++ [Obj.lst vs]).length F1 (.ref h1.length) (.ref (ioPush io1 h1.length p h1.length)) := .ref _ (by simp)
    rw [ioPush_at] at vp
    exact w1 _ _ _ _ (sr1.pushStep hp hH) (sr1.push hp hH ⟨xs, upd_same, vrs.mono (Nat.le_succ _) (fun k hk => ioPush_lt io1 p hk) (fun _ _ e => e)⟩) vp
  · rw [if_neg hz] at w1; exact w1.elim
/-- a list of written items that is never changed -/
def xLstF (r : Lx) : Ex := fun sg h => (r sg h).bind fun vs h1 => if vs.length ≤ 1000000 then .ok (.lst vs) h1 else .bad
theorem je_lstF (hr : JA T X W es fr) : JE T X W (.List es pos) (xLstF fr) := by
  refine pe_imp (pe_lst hr) fun σ H Q ⟨io, h, F, sg, sr, rs, w⟩ => ⟨io, h, F, sg, sr, rs, Wants.bindOfL w fun vs h1 io1 F1 H1 xs st sr1 vrs w1 => ?_⟩
  by_cases hz : vs.length ≤ 1000000
  · rw [if_pos hz] at w1
    refine ⟨by rw [← vrs.length]; exact sizeOk hz, fun p hp => ?_⟩
    exact w1 io1 _ _ _ (sr1.allocStep hp _) (sr1.alloc hp _) (.lst (.inl (.inl upd_same)) (vrs.step (sr1.allocStep hp (.lst xs))))
  · rw [if_neg hz] at w1; exact w1.elim
end
end Py

namespace Py
open PySem PySem.Spec PyProof.Rows L2

/-! ### statements -/
def xSeq (a b : Sx) : Sx := fun sg h => match a sg h with
  | .next sg1 h1 => b sg1 h1
  | r => r
def xSkip : Sx := fun sg h => .next sg h
def xBreak : Sx := fun sg h => .brk sg h
def xCont : Sx := fun sg h => .cont sg h
def xDrop (e : Ex) : Sx := fun sg h => (e sg h).bindS sg fun _ h1 => .next sg h1
def xRet (e : Ex) : Sx := fun sg h => (e sg h).bindS sg fun v h1 => .ret v h1
def xRetN : Sx := fun _ h => .ret .non h
def xIfS (c : Ex) (a b : Sx) : Sx := fun sg h => (c sg h).testS sg (fun h1 => a sg h1) (fun h1 => b sg h1)
def xAsg (e : Ex) (g : Gx) : Sx := fun sg h => (e sg h).bindS sg fun v h1 => (g v sg h1).bindS fun sg2 h2 => .next sg2 h2
def gN (i : Nat) : Gx := fun v sg h => .ok (sg.set i (some v)) h
def xSet (i : Nat) (e : Ex) : Sx := fun sg h => (e sg h).bindS sg fun v h1 => .next (sg.set i (some v)) h1

section
variable {T : Tb} {K : PySem.W.Frag} {io io1 io2 : Nat → Addr} {n n1 n2 : Nat} {F F1 F2 H H1 H2 : Hp} {h h1 h2 : Hh} {W : WX} {D : Ends}
theorem WantsS.ofRes {R : VK} {sg : Sg} {σ : L2.St} {r : Res} {k : Val → Hh → ResS} (rs : RSt T K io n F sg σ) (w : WantsS T K io n F H W D (r.bindS sg k))
    (hk : ∀ v h1 io1 F1 H1 x, Step io n F H io1 h1.length F1 H1 → SR T K io1 h1 F1 H1 → VR T K io1 h1.length F1 v x → WantsS T K io1 h1.length F1 H1 W D (k v h1) → R x H1) : Wants T K io n F H (fun c d H' => W c d σ H') R r := by
  cases r with
  | ok v h1 => exact fun io1 F1 H1 x st sr vr => hk v h1 io1 F1 H1 x st sr vr (WantsS.rebase w st sr)
  | exc c fs h' => exact fun io' F' H' d st sr xr => w io' F' H' σ d st sr (rs.step st) xr
  | bad => exact w
theorem WantsS.ofTest {R : Bool → Hp → Prop} {sg : Sg} {σ : L2.St} {r : Res} {a b : Hh → ResS} (rs : RSt T K io n F sg σ) (w : WantsS T K io n F H W D (r.testS sg a b))
    (hk : ∀ v h1 io1 F1 H1, Step io n F H io1 h1.length F1 H1 → SR T K io1 h1 F1 H1 → WantsS T K io1 h1.length F1 H1 W D (if v = true then a h1 else b h1) → R v H1) : WantsB T K io n F H (fun c d H' => W c d σ H') R r := by
  cases r with
  | ok v h1 => cases v with
    | bl v =>
      cases v with
      | true => exact fun io1 F1 H1 st sr => hk true h1 io1 F1 H1 st sr (WantsS.rebase w st sr)
      | false => exact fun io1 F1 H1 st sr => hk false h1 io1 F1 H1 st sr (WantsS.rebase w st sr)
    | _ => exact w
  | exc c fs h' => exact fun io' F' H' d st sr xr => w io' F' H' σ d st sr (rs.step st) xr
  | bad => exact w
end

section
variable {T : Tb} {X : Cx} {W : WX} {a b c e : Expr} {fa fb fc fe : Ex} {pos : Pos} {st : Stmt} {rest : List Stmt} {f g : Sx}
theorem jss_nil : JSs T X W [] xSkip := pss_imp pss_nil fun D σ H ⟨io, h, F, sg, sr, rs, w⟩ => w io F H σ .refl sr rs
theorem jss_cons (h1 : JS T X W st f) (h2 : JSs T X W rest g) : JSs T X W (st :: rest) (xSeq f g) := by
  refine pss_imp (pss_cons h1 h2) fun D σ H ⟨io, h, F, sg, sr, rs, w⟩ => ⟨io, h, F, sg, sr, rs, ?_⟩
  unfold xSeq at w
  cases e : f sg h with
  | next sg1 h1 =>
    rw [e] at w
    exact fun io' F' H' σ' st sr' rs' => ⟨io', h1, F', sg1, sr', rs', WantsS.rebase w st sr'⟩
  | ret v h1 => rw [e] at w; exact w
  | brk v h1 => rw [e] at w; exact w
  | cont v h1 => rw [e] at w; exact w
  | exc c fs sg1 h1 => rw [e] at w; exact w
  | bad => rw [e] at w; exact w
theorem jss_one (h1 : JS T X W st f) : JSs T X W [st] f := pss_one h1
theorem js_pass : JS T X W (.Pass pos) xSkip := ps_imp ps_pass fun D σ H ⟨io, h, F, sg, sr, rs, w⟩ => w io F H σ .refl sr rs
theorem js_break : JS T X W (.Break pos) xBreak := ps_imp ps_break fun D σ H ⟨io, h, F, sg, sr, rs, w⟩ => w io F H σ .refl sr rs
theorem js_continue : JS T X W (.Continue pos) xCont := ps_imp ps_continue fun D σ H ⟨io, h, F, sg, sr, rs, w⟩ => w io F H σ .refl sr rs
theorem js_expr (he : JE T X W e fe) (hs : swapsWith e none pos.line X.env = pure false := by rfl) : JS T X W (.Expr e pos) (xDrop fe) :=
  ps_imp (ps_expr he hs) fun D σ H ⟨io, h, F, sg, sr, rs, w⟩ => ⟨io, h, F, sg, sr, rs, WantsS.ofRes rs w fun v h1 io1 F1 H1 x st sr1 vr w1 => w1 io1 F1 H1 σ .refl sr1 (rs.step st)⟩
theorem js_ret (he : JE T X W e fe) : JS T X W (.Return (some e) pos) (xRet fe) :=
  ps_imp (ps_ret he) fun D σ H ⟨io, h, F, sg, sr, rs, w⟩ => ⟨io, h, F, sg, sr, rs, WantsS.ofRes rs w fun v h1 io1 F1 H1 x st sr1 vr w1 => w1 io1 F1 H1 x .refl sr1 vr⟩
theorem js_retN : JS T X W (.Return none pos) xRetN := ps_imp ps_retN fun D σ H ⟨io, h, F, sg, sr, rs, w⟩ => w io F H _ .refl sr .non
theorem js_if {sa sb : List Stmt} (hc : JT T X W c fc) (ha : JSs T X W sa f) (hb : JSs T X W sb g) : JS T X W (.If c sa sb pos) (xIfS fc f g) := by
  refine ps_imp (ps_if hc ha hb) fun D σ H ⟨io, h, F, sg, sr, rs, w⟩ => ⟨io, h, F, sg, sr, rs, WantsS.ofTest rs w fun v h1 io1 F1 H1 st sr1 w1 => ?_⟩
  cases v with
  | true => rw [if_pos rfl] at w1 ⊢; exact ⟨io1, h1, F1, sg, sr1, rs.step st, w1⟩
  | false => rw [if_neg Bool.false_ne_true] at w1 ⊢; exact ⟨io1, h1, F1, sg, sr1, rs.step st, w1⟩
/-- a statement that is never reached -/
theorem js_never : JS T X W st (fun _ _ => .bad) := ps_imp ps_never fun D σ H ⟨io, h, F, sg, sr, rs, w⟩ => w
/-- targets -/
theorem jg_name (i : Nat) {x : Str} (hN : X.N.Nodup) (hi : X.N[i]? = some x := by rfl) (hx : Loc X.env.scope x := by first | exact .inl rfl | exact .inr rfl) (hf : X.fn x = true ∨ X.env.scope.names.lookup x = some .local := by first | exact .inl rfl | exact .inr rfl | assumption) : JG T X (.Name x pos) (gN i) :=
  pg_imp (pg_name hN hi hx hf) fun x σ H Q ⟨io, h, F, sg, v, sr, rs, vr, w⟩ => w io F H _ .refl sr (rs.set i vr)
/-- several targets -/
abbrev Gs := List Val → Sg → Hh → ResG
def tGs (T : Tb) (K : PySem.W.Frag) (g : Gs) : TGs := fun xs σ H Q => ∃ io h F sg vs, SR T K io h F H ∧ RSt T K io h.length F sg σ ∧ VRs T K io h.length F vs xs ∧ WantsG T K io h.length F H Q (g vs sg h)
abbrev JGs (T : Tb) (X : Cx) (es : List Expr) (g : Gs) : Prop := PGs X es (tGs T X.K g)
def gsNil : Gs := fun vs sg h => match vs with
  | [] => .ok sg h
  | _ => .bad
def gsCons (g : Gx) (r : Gs) : Gs := fun vs sg h => match vs with
  | v :: vs => (match g v sg h with
    | .ok sg1 h1 => r vs sg1 h1
    | .bad => .bad)
  | [] => .bad
theorem jgs_nil : JGs T X [] gsNil := by
  refine ⟨fun pins s σ H xs us Q I r h => pgs_nil.run pins s σ H xs us Q I r ?_⟩
  obtain ⟨io, hh, F, sg, vs, sr, rs, vr, w⟩ := h
  cases vr with
  | nil => exact ⟨rfl, w io F H σ .refl sr rs⟩
  | cons a b => exact w.elim
theorem jgs_cons {tg : Expr} {tgs : List Expr} {g : Gx} {r : Gs} (h1 : JG T X tg g) (h2 : JGs T X tgs r) (hs : (assignEach (tg :: tgs) X.env).map (·.2) = assign tg X.env :: (assignEach tgs X.env).map (·.2) := by rfl) : JGs T X (tg :: tgs) (gsCons g r) := by
  refine ⟨fun pins s σ H xs us Q I rl h => (pgs_cons h1 h2 hs).run pins s σ H xs us Q I rl ?_⟩
  obtain ⟨io, hh, F, sg, vs, sr, rs, vr, w⟩ := h
  cases vr with
  | nil => exact w.elim
  | @cons v x vs' xs' a b =>
    refine ⟨x, xs', rfl, ⟨io, hh, F, sg, v, sr, rs, a, ?_⟩⟩
    have w' : WantsG T X.K io hh.length F H Q (match g v sg hh with
      | .ok sg1 h1 => r vs' sg1 h1
      | .bad => .bad) := w
    cases e : g v sg hh with
    | ok sg1 h1 =>
      rw [e] at w'
      exact fun io' F' H' σ' st sr' rs' => ⟨io', h1, F', sg1, vs', sr', rs', b.step st, WantsG.rebase w' st sr'⟩
    | bad => rw [e] at w'; exact w'
/-- (a, b) = a tuple of that length -/
def gTu (n : Nat) (r : Gs) : Gx := fun v sg h => match v with
  | .tup vs => if vs.length = n then r vs sg h else .bad
  | _ => .bad
theorem jg_tup {tgs : List Expr} {k : Nat} {r : Gs} {n : Nat} (hc : X.calm = true) (h : JGs T X tgs r) (hn : (assignEach tgs X.env).length = n := by rfl) (hst : (assignEach tgs X.env).findIdx? (·.1) = none := by rfl) : JG T X (.Tuple tgs k pos) (gTu n r) := by
  refine pg_imp (pg_tup hc h hn hst) fun x σ H Q ⟨io, hh, F, sg, v, sr, rs, vr, w⟩ => ?_
  cases vr with
  | @tup vs a xs q r' =>
    have w' : WantsG T X.K io hh.length F H Q (if vs.length = n then r vs sg hh else .bad) := w
    by_cases hl : vs.length = n
    · rw [if_pos hl] at w'
      exact ⟨a, xs, rfl, sqT_mono sr.sub q, by rw [← r'.length]; exact hl, io, hh, F, sg, vs, sr, rs, r', w'⟩
    · rw [if_neg hl] at w'; exact w'.elim
  | _ => exact w.elim
/-- target = value -/
theorem js_asg {tg : Expr} {g : Gx} (he : JE T X W e fe) (hg : JG T X tg g) (hs : swapsWithSole [tg] e pos.line X.env = pure false := by rfl) (hw : swappedStores [tg] e X.env = pure none := by rfl)
    (h1 : (assignEach [tg] X.env).map (·.2) = [assign tg X.env] := by rfl) : JS T X W (.Assign [tg] e pos) (xAsg fe g) := by
  refine ps_imp (ps_asg he hg hs hw h1) fun D σ H ⟨io, h, F, sg, sr, rs, w⟩ => ⟨io, h, F, sg, sr, rs, WantsS.ofRes rs w fun v h1 io1 F1 H1 x st sr1 vr w1 => ⟨io1, h1, F1, sg, v, sr1, rs.step st, vr, ?_⟩⟩
  cases e : g v sg h1 with
  | ok sg2 h2 => rw [e] at w1; exact w1
  | bad => rw [e] at w1; exact w1
theorem js_set (i : Nat) {x : Str} {pos' : Pos} (hN : X.N.Nodup) (he : JE T X W e fe) (hi : X.N[i]? = some x := by rfl) (hx : Loc X.env.scope x := by first | exact .inl rfl | exact .inr rfl) (hs : swapsWith e (some (.Name x pos')) pos.line X.env = pure false := by rfl)
    (hf : X.fn x = true ∨ X.env.scope.names.lookup x = some .local := by first | exact .inl rfl | exact .inr rfl | assumption) : JS T X W (.Assign [.Name x pos'] e pos) (xSet i fe) :=
  ps_imp (ps_set hN hi hx he hs hf) fun D σ H ⟨io, h, F, sg, sr, rs, w⟩ => ⟨io, h, F, sg, sr, rs, WantsS.ofRes rs w fun v h1 io1 F1 H1 x st sr1 vr w1 => w1 io1 F1 H1 _ .refl sr1 ((rs.step st).set i vr)⟩
/-- a, b = x, y : two local names -/
def xPar (i j : Nat) (l : Lx) : Sx := fun sg h => match l sg h with
  | .ok [v, u] h1 => .next ((sg.set i (some v)).set j (some u)) h1
  | .ok _ _ => .bad
  | .exc c fs h1 => .exc c fs sg h1
  | .bad => .bad
theorem js_par (i j : Nat) {x y : Str} {fl : Lx} {px py pt : Pos} {kt k2 pt2} (hc : X.calm = true) (hN : X.N.Nodup) (hij : i ≠ j) (ha : JA T X W [a, b] fl) (hi : X.N[i]? = some x := by rfl) (hj : X.N[j]? = some y := by rfl)
    (hx : X.env.scope.names.lookup x = some .local := by rfl) (hy : X.env.scope.names.lookup y = some .local := by rfl)
    (hw : swappedStores [.Tuple [.Name x px, .Name y py] kt pt] (.Tuple [a, b] k2 pt2) X.env = pure (some [x, y]) := by rfl)
    (hs : swapsWithSole [.Tuple [.Name x px, .Name y py] kt pt] (.Tuple [a, b] k2 pt2) pos.line X.env = pure false := by rfl) :
    JS T X W (.Assign [.Tuple [.Name x px, .Name y py] kt pt] (.Tuple [a, b] k2 pt2) pos) (xPar i j fl) := by
  refine ps_imp (ps_par hc hN hi hj hij hx hy ha hw hs) fun D σ H ⟨io, h, F, sg, sr, rs, w⟩ => ⟨io, h, F, sg, sr, rs, ?_⟩
  unfold xPar at w
  cases e : fl sg h with
  | ok vs h1 =>
    rw [e] at w
    intro io' F' H' xs st sr' vrs
    match vs, vrs, w with
    | [v, u], .cons r1 (.cons r2 .nil), w => exact ⟨_, _, rfl, w io' F' H' _ st sr' (((rs.step st).set i r1).set j r2)⟩
    | [], _, w => exact w.elim
    | [_], _, w => exact w.elim
    | _ :: _ :: _ :: _, _, w => exact w.elim
  | exc c fs h1 =>
    rw [e] at w
    exact fun io' F' H' d st sr xr => w io' F' H' σ d st sr (rs.step st) xr
  | bad => rw [e] at w; exact w

/-! ### what a loop walks -/
inductive Src where
  | items (vs : List Val) | ref (k : Nat)
inductive ResI where
  | ok (s : Src) (h : Hh) | exc (c : Nat) (fs : List Val) (h : Hh) | bad
abbrev Ix := Sg → Hh → ResI
/-- what the iterator says at turn i, of what the source has there -/
def YldOk (T : Tb) (K : PySem.W.Frag) (J : It) (i : Nat) (o : Option Val) (io : Nat → Addr) (h : Hh) (F H : Hp) : Prop :=
  match o with
  | none => J.stop i H
  | some v => J.go i H ∧ ∀ x H', J.yld i H x H' → ∃ F', Step io h.length F H io h.length F' H' ∧ SR T K io h F' H' ∧ VR T K io h.length F' v x
def SrcOk (T : Tb) (K : PySem.W.Frag) (io0 : Nat → Addr) (n0 : Nat) (F0 : Hp) (J : It) : Src → Prop
  | .items vs => ∀ i io h F H, SR T K io h F H → n0 ≤ h.length → (∀ k, k < n0 → io k = io0 k) → (∀ b o, F0 b = some o → F b = some o) → i ≤ vs.length → YldOk T K J i vs[i]? io h F H
  | .ref k => k < n0 ∧ ∀ i io h F H xs, SR T K io h F H → n0 ≤ h.length → (∀ k, k < n0 → io k = io0 k) → (∀ b o, F0 b = some o → F b = some o) → h[k]? = some (.lst xs) → YldOk T K J i xs[i]? io h F H
def tI (T : Tb) (K : PySem.W.Frag) (W : WX) (f : Ix) : TI := fun σ H R => ∃ io h F sg, SR T K io h F H ∧ RSt T K io h.length F sg σ ∧ match f sg h with
  | .ok s h' => ∀ io' F' H' J, Step io h.length F H io' h'.length F' H' → SR T K io' h' F' H' → SrcOk T K io' h'.length F' J s → R J H'
  | .exc c fs h' => WExc T K io h.length F H c fs h' (fun c d H' => W c d σ H')
  | .bad => False
abbrev JI (T : Tb) (X : Cx) (W : WX) (tg iter : Expr) (f : Ix) : Prop := PI X tg iter (tI T X.K W f)
theorem pi_imp {tg iter : Expr} {t t' : TI} (h : PI X tg iter t) (i : ∀ σ H Q, t' σ H Q → t σ H Q) : PI X tg iter t' := ⟨fun pins s σ H Q I q => h.run pins s σ H Q I (i σ H Q q)⟩

/-- the loop -/
def forItems (body : Val → Sg → Hh → ResS) : List Val → Sg → Hh → ResS
  | [], sg, h => .next sg h
  | v :: r, sg, h => match body v sg h with
    | .next sg1 h1 => forItems body r sg1 h1
    | .cont sg1 h1 => forItems body r sg1 h1
    | .brk sg1 h1 => .next sg1 h1
    | .ret v h1 => .ret v h1
    | .exc c fs sg1 h1 => .exc c fs sg1 h1
    | .bad => .bad
def forRef (body : Val → Sg → Hh → ResS) (k : Nat) : Nat → Nat → Sg → Hh → ResS
  | 0, _, _, _ => .bad
  | m + 1, i, sg, h => match h[k]? with
    | some (.lst xs) => (match xs[i]? with
      | none => .next sg h
      | some v => match body v sg h with
        | .next sg1 h1 => forRef body k m (i + 1) sg1 h1
        | .cont sg1 h1 => forRef body k m (i + 1) sg1 h1
        | .brk sg1 h1 => .next sg1 h1
        | .ret v h1 => .ret v h1
        | .exc c fs sg1 h1 => .exc c fs sg1 h1
        | .bad => .bad)
    | _ => .bad
def bodyOf (g : Gx) (b : Sx) : Val → Sg → Hh → ResS := fun v sg h => (g v sg h).bindS fun sg1 h1 => b sg1 h1
def xFor (fi : Ix) (g : Gx) (b : Sx) : Sx := fun sg h => match fi sg h with
  | .ok (.items vs) h1 => forItems (bodyOf g b) vs sg h1
  | .ok (.ref k) h1 => forRef (bodyOf g b) k 1000000 0 sg h1
  | .exc c fs h1 => .exc c fs sg h1
  | .bad => .bad
theorem sr_shrink {T : Tb} {K : PySem.W.Frag} {io io' : Nat → Addr} {n : Nat} {F F' H H' : Hp} (st : Step io n F H io' n F' H') : ∀ k, k < n → io' k = io k := st.eq
/-- a turn -/
theorem turn_of {K : PySem.W.Frag} {W : WX} {D : Ends} {tbody : Gx} {b : Sx} {J : It} {io : Nat → Addr} {h : Hh} {F H : Hp} {sg : Sg} {σ : L2.St} {v : Val} {i : Nat} {N : L2.St → Hp → Prop} (sr : SR T K io h F H) (rs : RSt T K io h.length F sg σ)
    (y : YldOk T K J i (some v) io h F H)
    (nxt : ∀ sg1 h1 io1 F1 H1 σ1, (bodyOf tbody b v sg h = .next sg1 h1 ∨ bodyOf tbody b v sg h = .cont sg1 h1) → Step io h.length F H io1 h1.length F1 H1 → SR T K io1 h1 F1 H1 → RSt T K io1 h1.length F1 sg1 σ1 → N σ1 H1)
    (brk : ∀ sg1 h1, bodyOf tbody b v sg h = .brk sg1 h1 → WantsS T K io h.length F H W D (.next sg1 h1))
    (oth : ∀ r, bodyOf tbody b v sg h = r → (match r with | .next _ _ => False | .cont _ _ => False | .brk _ _ => False | _ => True) → WantsS T K io h.length F H W D r) :
    ∀ x H', J.yld i H x H' → tG1 T K tbody x σ H' fun σ2 H2 => tS T K W b { D with nx := N, ct := N, bk := D.nx } σ2 H2 := by
  intro x H' hy
  obtain ⟨F', st, sr', vr⟩ := y.2 x H' hy
  refine ⟨io, h, F', sg, v, sr', rs.step st, vr, ?_⟩
  have tr : ∀ {io1 : Nat → Addr} {h1 : Hh} {F1 H1 : Hp}, Step io h.length F' H' io1 h1.length F1 H1 → Step io h.length F H io1 h1.length F1 H1 := fun s => st.trans sr' s
  cases eg : tbody v sg h with
  | bad =>
    have eb : bodyOf tbody b v sg h = .bad := by unfold bodyOf; rw [eg]; rfl
    exact (oth _ eb trivial : False).elim
  | ok sg2 h2 =>
    intro io2 F2 H2 σ2 st2 sr2 rs2
    refine ⟨io2, h2, F2, sg2, sr2, rs2, ?_⟩
    have st02 : Step io h.length F H io2 h2.length F2 H2 := tr st2
    have eb : bodyOf tbody b v sg h = b sg2 h2 := by unfold bodyOf; rw [eg]; rfl
    cases e : b sg2 h2 with
    | next sg3 h3 => exact fun io3 F3 H3 σ3 st3 sr3 rs3 => nxt sg3 h3 io3 F3 H3 σ3 (.inl (eb.trans e)) (st02.trans sr2 st3) sr3 rs3
    | cont sg3 h3 => exact fun io3 F3 H3 σ3 st3 sr3 rs3 => nxt sg3 h3 io3 F3 H3 σ3 (.inr (eb.trans e)) (st02.trans sr2 st3) sr3 rs3
    | brk sg3 h3 => exact fun io3 F3 H3 σ3 st3 sr3 rs3 => brk sg3 h3 (eb.trans e) io3 F3 H3 σ3 (st02.trans sr2 st3) sr3 rs3
    | ret u h3 => exact WantsS.rebase (D := D) (r := .ret u h3) (oth _ (eb.trans e) trivial) st02 sr2
    | exc c fs sg3 h3 => exact WantsS.rebase (D := D) (r := .exc c fs sg3 h3) (oth _ (eb.trans e) trivial) st02 sr2
    | bad => exact (oth _ (eb.trans e) trivial : False).elim
theorem js_for {tg iter : Expr} {body : List Stmt} {fi : Ix} {g : Gx} {b : Sx} (hp : PassesOwn (model X.prog X.w) X.A X.env X.xe) (hc : X.calm = true) (hi : JI T X W tg iter fi) (hg : JG T X tg g) (hb : JSs T X W body b)
    (hs : ∀ x, foldedSetIterable iter X.env x = pure x := by intro _; rfl) : JS T X W (.For tg iter body [] pos) (xFor fi g b) := by
  refine ps_imp (ps_for hp hc hi hg hb hs) fun D σ H ⟨io, h, F, sg, sr, rs, w⟩ => ⟨io, h, F, sg, sr, rs, ?_⟩
  unfold xFor at w
  cases e : fi sg h with
  | bad => rw [e] at w; exact w
  | exc c fs h1 => rw [e] at w; exact fun io' F' H' d st sr xr => w io' F' H' σ d st sr (rs.step st) xr
  | ok s h1 =>
    rw [e] at w
    intro io1 F1 H1 J st1 sr1 so
    have rs1 := rs.step st1
    cases s with
    | items vs =>
      have w1 := WantsS.rebase w st1 sr1
      refine ⟨fun i m σ H => m = vs.length - i ∧ i ≤ vs.length ∧ ∃ io h F sg, SR T X.K io h F H ∧ RSt T X.K io h.length F sg σ ∧ h1.length ≤ h.length ∧ (∀ k, k < h1.length → io k = io1 k) ∧ (∀ b o, F1 b = some o → F b = some o) ∧ WantsS T X.K io h.length F H W D (forItems (bodyOf g b) (vs.drop i) sg h),
        ⟨vs.length, by simp, Nat.zero_le _, io1, h1, F1, sg, sr1, rs1, Nat.le_refl _, fun _ _ => rfl, fun _ _ e => e, by simpa using w1⟩, ?_⟩
      rintro i m σ2 H2 ⟨rfl, hi', io2, h2, F2, sg2, sr2, rs2, hn2, he2, hF2, w2⟩
      have y := so i io2 h2 F2 H2 sr2 hn2 he2 hF2 hi'
      by_cases hlt : i < vs.length
      · have ev : vs[i]? = some vs[i] := by simp [hlt]
        rw [ev] at y
        rw [List.drop_eq_getElem_cons hlt] at w2
        refine .inr ⟨y.1, fun σ3 H3 => ∃ io h F sg, SR T X.K io h F H3 ∧ RSt T X.K io h.length F sg σ3 ∧ h1.length ≤ h.length ∧ (∀ k, k < h1.length → io k = io1 k) ∧ (∀ b o, F1 b = some o → F b = some o) ∧ WantsS T X.K io h.length F H3 W D (forItems (bodyOf g b) (vs.drop (i + 1)) sg h),
          fun σ' H' n' => ⟨vs.length - (i + 1), by omega, rfl, hlt, n'⟩, turn_of sr2 rs2 y (fun sg3 h3 io3 F3 H3 σ3 eb st3 sr3 rs3 => ?_) (fun sg3 h3 eb => ?_) (fun r eb hr => ?_)⟩
        · unfold forItems at w2
          refine ⟨io3, h3, F3, sg3, sr3, rs3, Nat.le_trans hn2 st3.le, fun k hk => (st3.eq k (Nat.lt_of_lt_of_le hk hn2)).trans (he2 k hk), fun b o e => st3.phi b o (hF2 b o e), ?_⟩
          rcases eb with eb | eb
          · rw [eb] at w2; exact WantsS.rebase w2 st3 sr3
          · rw [eb] at w2; exact WantsS.rebase w2 st3 sr3
        · unfold forItems at w2; rw [eb] at w2; exact w2
        · unfold forItems at w2; rw [eb] at w2
          cases r with
          | next _ _ => exact hr.elim
          | cont _ _ => exact hr.elim
          | brk _ _ => exact hr.elim
          | ret v h3 => exact w2
          | exc c fs sg3 h3 => exact w2
          | bad => exact w2
      · have : i = vs.length := by omega
        subst this
        rw [List.getElem?_eq_none (Nat.le_refl _)] at y
        rw [List.drop_length] at w2
        exact .inl ⟨y, w2 io2 F2 H2 σ2 .refl sr2 rs2⟩
    | ref k =>
      have w1 := WantsS.rebase w st1 sr1
      refine ⟨fun i m σ H => ∃ io h F sg, SR T X.K io h F H ∧ RSt T X.K io h.length F sg σ ∧ h1.length ≤ h.length ∧ (∀ k, k < h1.length → io k = io1 k) ∧ (∀ b o, F1 b = some o → F b = some o) ∧ WantsS T X.K io h.length F H W D (forRef (bodyOf g b) k m i sg h),
        ⟨1000000, io1, h1, F1, sg, sr1, rs1, Nat.le_refl _, fun _ _ => rfl, fun _ _ e => e, w1⟩, ?_⟩
      rintro i m σ2 H2 ⟨io2, h2, F2, sg2, sr2, rs2, hn2, he2, hF2, w2⟩
      cases m with
      | zero => exact w2.elim
      | succ m =>
        unfold forRef at w2
        cases ek : h2[k]? with
        | none => rw [ek] at w2; exact w2.elim
        | some ob =>
          rw [ek] at w2
          cases ob with
          | ins c vs => exact w2.elim
          | lst xs =>
            have y := so.2 i io2 h2 F2 H2 xs sr2 hn2 he2 hF2 ek
            dsimp only at w2
            cases ev : xs[i]? with
            | none => rw [ev] at w2 y; exact .inl ⟨y, w2 io2 F2 H2 σ2 .refl sr2 rs2⟩
            | some v =>
              rw [ev] at w2 y
              dsimp only at w2
              refine .inr ⟨y.1, fun σ3 H3 => ∃ io h F sg, SR T X.K io h F H3 ∧ RSt T X.K io h.length F sg σ3 ∧ h1.length ≤ h.length ∧ (∀ k, k < h1.length → io k = io1 k) ∧ (∀ b o, F1 b = some o → F b = some o) ∧ WantsS T X.K io h.length F H3 W D (forRef (bodyOf g b) k m (i + 1) sg h),
                fun σ' H' n' => ⟨m, Nat.lt_succ_self _, n'⟩, turn_of sr2 rs2 y (fun sg3 h3 io3 F3 H3 σ3 eb st3 sr3 rs3 => ?_) (fun sg3 h3 eb => ?_) (fun r eb hr => ?_)⟩
              · refine ⟨io3, h3, F3, sg3, sr3, rs3, Nat.le_trans hn2 st3.le, fun k hk => (st3.eq k (Nat.lt_of_lt_of_le hk hn2)).trans (he2 k hk), fun b o e => st3.phi b o (hF2 b o e), ?_⟩
                rcases eb with eb | eb
                · rw [eb] at w2; exact WantsS.rebase w2 st3 sr3
                · rw [eb] at w2; exact WantsS.rebase w2 st3 sr3
              · rw [eb] at w2; exact w2
              · rw [eb] at w2
                cases r with
                | next _ _ => exact hr.elim
                | cont _ _ => exact hr.elim
                | brk _ _ => exact hr.elim
                | ret v h3 => exact w2
                | exc c fs sg3 h3 => exact w2
                | bad => exact w2
      /-! the things that are walked -/
/-- a list or a tuple -/
def srcOf : Val → Option Src
  | .lst vs => some (.items vs)
  | .tup vs => some (.items vs)
  | .ref k => some (.ref k)
  | _ => none
def xISeq (e : Ex) : Ix := fun sg h => match e sg h with
  | .ok v h1 => (match v with
    | .lst vs => .ok (.items vs) h1
    | .ref k => (match h1[k]? with
      | some (.lst _) => .ok (.ref k) h1
      | _ => .bad)
    | _ => .bad)
  | .exc c fs h1 => .exc c fs h1
  | .bad => .bad
def xITup (e : Ex) : Ix := fun sg h => match e sg h with
  | .ok v h1 => (match v with
    | .tup vs => .ok (.items vs) h1
    | _ => .bad)
  | .exc c fs h1 => .exc c fs h1
  | .bad => .bad
theorem ji_list {tg iter : Expr} (he : JE T X W iter fe) : JI T X W tg iter (xISeq fe) := by
  refine pi_imp (pi_list he) fun σ H R ⟨io, h, F, sg, sr, rs, w⟩ => ⟨io, h, F, sg, sr, rs, ?_⟩
  unfold xISeq at w
  cases e : fe sg h with
  | bad => rw [e] at w; exact w
  | exc c fs h1 => rw [e] at w; exact w
  | ok v h1 =>
    rw [e] at w
    intro io1 F1 H1 x st1 sr1 vr
    cases vr with
    | @lst vs a xs q r =>
      refine ⟨a, rfl, ⟨xs, sqL_mono sr1.sub q⟩, w io1 F1 H1 _ st1 sr1 fun i io2 h2 F2 H2 sr2 hn he hF hi => ?_⟩
      have q2 : SqL X.K H2 a xs := sqL_mono sr2.sub (sqL_mono hF q)
      by_cases hlt : i < vs.length
      · have ev : vs[i]? = some vs[i] := by simp [hlt]
        obtain ⟨x', ex, rx⟩ := r.get ev
        rw [ev]
        refine ⟨⟨xs, x', q2, ex⟩, fun x H' ⟨e', y⟩ => ?_⟩
        subst e'
        have : x = x' := Option.some.inj ((y xs q2).symm.trans ex)
        subst this
        exact ⟨F2, .refl, sr2, rx.mono hn he hF⟩
      · rw [List.getElem?_eq_none (by omega)]
        exact ⟨xs, q2, by rw [← r.length]; omega⟩
    | ref k hk =>
      dsimp only at w
      cases ek : h1[k]? with
      | none => rw [ek] at w; exact w.elim
      | some ob =>
        rw [ek] at w
        cases ob with
        | ins c vs => exact w.elim
        | lst vs =>
          obtain ⟨xs, ea, r⟩ := sr1.obj k _ ek
          refine ⟨io1 k, rfl, ⟨xs, SqL.of ea⟩, w io1 F1 H1 _ st1 sr1 ⟨hk, fun i io2 h2 F2 H2 ys sr2 hn he hF ek2 => ?_⟩⟩
          obtain ⟨xs2, ea2, r2⟩ := sr2.obj k _ ek2
          rw [he k hk] at ea2
          cases ev : ys[i]? with
          | none => exact ⟨xs2, SqL.of ea2, by rw [← r2.length]; exact List.getElem?_eq_none_iff.mp ev⟩
          | some v =>
            obtain ⟨x', ex, rx⟩ := r2.get ev
            refine ⟨⟨xs2, x', SqL.of ea2, ex⟩, fun x H' ⟨e', y⟩ => ?_⟩
            subst e'
            have : x = x' := Option.some.inj ((y xs2 (SqL.of ea2)).symm.trans ex)
            subst this
            exact ⟨F2, .refl, sr2, rx⟩
    | _ => exact w.elim
theorem ji_tup {tg iter : Expr} (he : JE T X W iter fe) : JI T X W tg iter (xITup fe) := by
  refine pi_imp (pi_tup he) fun σ H R ⟨io, h, F, sg, sr, rs, w⟩ => ⟨io, h, F, sg, sr, rs, ?_⟩
  unfold xITup at w
  cases e : fe sg h with
  | bad => rw [e] at w; exact w
  | exc c fs h1 => rw [e] at w; exact w
  | ok v h1 =>
    rw [e] at w
    intro io1 F1 H1 x st1 sr1 vr
    cases vr with
    | @tup vs a xs q r =>
      refine ⟨a, rfl, ⟨xs, sqT_mono sr1.sub q⟩, w io1 F1 H1 _ st1 sr1 fun i io2 h2 F2 H2 sr2 hn he hF hi => ?_⟩
      have q2 : SqT X.K H2 a xs := sqT_mono sr2.sub (sqT_mono hF q)
      by_cases hlt : i < vs.length
      · have ev : vs[i]? = some vs[i] := by simp [hlt]
        obtain ⟨x', ex, rx⟩ := r.get ev
        rw [ev]
        refine ⟨⟨xs, x', q2, ex⟩, fun x H' ⟨e', y⟩ => ?_⟩
        subst e'
        have : x = x' := Option.some.inj ((y xs q2).symm.trans ex)
        subst this
        exact ⟨F2, .refl, sr2, rx.mono hn he hF⟩
      · rw [List.getElem?_eq_none (by omega)]
        exact ⟨xs, q2, by rw [← r.length]; omega⟩
    | _ => exact w.elim
/-- range -/
def rng (lo : Int) : Nat → List Val
  | 0 => []
  | n + 1 => .int lo :: rng (lo + 1) n
theorem rng_len : ∀ (lo : Int) (n : Nat), (rng lo n).length = n
  | _, 0 => rfl
  | lo, n + 1 => by simp [rng, rng_len (lo + 1) n]
theorem rng_get : ∀ (lo : Int) (n i : Nat), i < n → (rng lo n)[i]? = some (.int (lo + i))
  | _, 0, _, h => absurd h (Nat.not_lt_zero _)
  | lo, n + 1, 0, _ => by simp [rng]
  | lo, n + 1, i + 1, h => by
    have := rng_get (lo + 1) n i (by omega)
    simp only [rng, List.getElem?_cons_succ, this]
    congr 2
    omega
theorem src_rng {K : PySem.W.Frag} {io0 : Nat → Addr} {n0 : Nat} {F0 : Hp} (lo : Int) (n : Nat) : SrcOk T K io0 n0 F0 (Itr lo n) (.items (rng lo n)) := by
  intro i io h F H sr hn he hF hi
  rw [rng_len] at hi
  by_cases hlt : i < n
  · rw [rng_get lo n i hlt]
    refine ⟨hlt, fun x H' ⟨e1, e2⟩ => ?_⟩
    subst e1 e2
    exact ⟨F, .refl, sr, .int _⟩
  · rw [List.getElem?_eq_none (by rw [rng_len]; omega)]
    exact Nat.not_lt.mp hlt
def small62 (i : Int) : Bool := decide (-4611686018427387904 ≤ i) && decide (i < 4611686018427387904)
theorem small62_ok {i : Int} (h : small62 i = true) : -(2 ^ 62) ≤ i ∧ i < 2 ^ 62 := by
  unfold small62 at h
  simp only [Bool.and_eq_true, decide_eq_true_eq] at h
  have e : (2 : Int) ^ 62 = 4611686018427387904 := by decide
  omega
def xIRng1 (l : Lx) : Ix := fun sg h => match l sg h with
  | .ok [.int j] h1 => if small62 j then .ok (.items (rng 0 j.toNat)) h1 else .bad
  | .ok _ _ => .bad
  | .exc c fs h1 => .exc c fs h1
  | .bad => .bad
def xIRng2 (l : Lx) : Ix := fun sg h => match l sg h with
  | .ok [.int i, .int j] h1 => if small62 i && small62 j then .ok (.items (rng i (j - i).toNat)) h1 else .bad
  | .ok _ _ => .bad
  | .exc c fs h1 => .exc c fs h1
  | .bad => .bad
theorem ji_range1 {tg : Expr} {fl : Lx} {p : Pos} (hg : Gl X "range") (hm : X.mg "range" = none) (ha : JA T X W [a] fl) (hs : starEach [a] X.env = [(false, eval a X.env)] := by rfl) : JI T X W tg (.Call (.Name "range" p) [a] [] pos) (xIRng1 fl) := by
  refine pi_imp (pi_range1 hg hm ha hs) fun σ H R ⟨io, h, F, sg, sr, rs, w⟩ => ⟨io, h, F, sg, sr, rs, ?_⟩
  unfold xIRng1 at w
  cases e : fl sg h with
  | bad => rw [e] at w; exact w
  | exc c fs h1 => rw [e] at w; exact w
  | ok vs h1 =>
    rw [e] at w
    intro io1 F1 H1 xs st1 sr1 vrs
    match vs, vrs, w with
    | [.int j], .cons (.int _) .nil, w =>
      by_cases hj : small62 j = true
      · simp only [hj, if_true] at w
        obtain ⟨h1, h2⟩ := small62_ok hj
        exact ⟨j, rfl, h1, h2, w io1 F1 H1 _ st1 sr1 (src_rng 0 j.toNat)⟩
      · simp only [hj] at w; exact w.elim
    | [], _, w => exact w.elim
    | .non :: _, _, w => exact w.elim
    | .bl _ :: _, _, w => exact w.elim
    | .str _ :: _, _, w => exact w.elim
    | .tup _ :: _, _, w => exact w.elim
    | .lst _ :: _, _, w => exact w.elim
    | .obj _ _ :: _, _, w => exact w.elim
    | .ref _ :: _, _, w => exact w.elim
    | .glo _ :: _, _, w => exact w.elim
    | .int _ :: _ :: _, _, w => exact w.elim
theorem ji_range2 {tg : Expr} {fl : Lx} {p : Pos} (hg : Gl X "range") (hm : X.mg "range" = none) (ha : JA T X W [a, b] fl) (hs : starEach [a, b] X.env = [(false, eval a X.env), (false, eval b X.env)] := by rfl) (hs2 : starEach [b] X.env = [(false, eval b X.env)] := by rfl) : JI T X W tg (.Call (.Name "range" p) [a, b] [] pos) (xIRng2 fl) := by
  refine pi_imp (pi_range2 hg hm ha hs hs2) fun σ H R ⟨io, h, F, sg, sr, rs, w⟩ => ⟨io, h, F, sg, sr, rs, ?_⟩
  cases e : fl sg h with
  | bad => unfold xIRng2 at w; rw [e] at w; exact w
  | exc c fs h1 => unfold xIRng2 at w; rw [e] at w; exact w
  | ok vs h1 =>
    intro io1 F1 H1 xs st1 sr1 vrs
    have z : (∃ i j, vs = [.int i, .int j] ∧ small62 i = true ∧ small62 j = true) ∨ xIRng2 fl sg h = .bad := by
      unfold xIRng2
      rw [e]
      split
      · rename_i vs' i j h' heq
        cases heq
        by_cases q : (small62 i && small62 j) = true
        · rw [Bool.and_eq_true] at q; exact .inl ⟨i, j, rfl, q.1, q.2⟩
        · right; simp [q]
      · right; rfl
      · rename_i q; cases q
      · right; rfl
    rcases z with ⟨i, j, rfl, h1', h2'⟩ | z
    · unfold xIRng2 at w
      rw [e] at w
      simp only [h1', h2', Bool.and_self, if_true] at w
      cases vrs with
      | cons r1 rr =>
        cases rr with
        | cons r2 rr =>
          cases rr
          cases r1
          cases r2
          obtain ⟨a1, a2⟩ := small62_ok h1'
          obtain ⟨b1, b2⟩ := small62_ok h2'
          exact ⟨i, j, rfl, ⟨a1, a2, b1, b2⟩, w io1 F1 H1 _ st1 sr1 (src_rng i (j - i).toNat)⟩
    · rw [z] at w; exact w.elim
end
end Py

namespace Py
open PySem PySem.Spec PyProof.Rows L2

/-! ### a def as a function -/
abbrev Fx := Hh → List Val → Res
def fnOf (np nN : Nat) (body : Sx) : Fx := fun h as => if as.length = np then (match body (as.map some ++ List.replicate (nN - np) none) h with
  | .ret v h' => .ok v h'
  | .next _ h' => .ok .non h'
  | .exc c fs _ h' => .exc c fs h'
  | _ => .bad) else .bad
def spF (T : Tb) (K : PySem.W.Frag) (f : Fx) : Sp := fun vs H Q E => ∃ io h F as, SR T K io h F H ∧ VRs T K io h.length F as vs ∧ Wants T K io h.length F H E Q (f h as)
theorem rst_start {T : Tb} {K : PySem.W.Frag} {io : Nat → Addr} {n : Nat} {F : Hp} {as : List Val} {vs : List V} (r : VRs T K io n F as vs) (m : Nat) : RSt T K io n F (as.map some ++ List.replicate m none) (vs.map some ++ List.replicate m none) := by
  have hl := r.length
  refine ⟨by simp [hl], fun i v e => ?_⟩
  by_cases hi : i < as.length
  · rw [List.getElem?_append_left (by simpa using hi), List.getElem?_map] at e
    have ev : as[i]? = some v := by
      cases q : as[i]? with
      | none => rw [q] at e; simp at e
      | some u => rw [q] at e; simp at e; rw [e]
    obtain ⟨x, ex, rx⟩ := r.get ev
    exact ⟨x, by rw [List.getElem?_append_left (by simp; omega), List.getElem?_map, ex]; rfl, rx⟩
  · rw [List.getElem?_append_right (by simp; omega)] at e
    rw [List.getElem?_replicate] at e
    split at e <;> simp at e
theorem fn_ok {P : Program} {w : World} {K : PySem.W.Frag} {mg : Str → Option Value} {base : Heap} {x qual : Str} {params : Arguments} {body : List Stmt} {scope : Scope} {dvs : List V} {kws : List (Str × V)} {f : Addr} {fd : FuncData} {T : Tb} {N ps : List Str} {k : Nat} {fb : Sx}
    (FD : FunD K x qual params body scope dvs kws f fd) (S : FnScope N ps scope)
    (hb : ∀ (cdv : Value) (A : Around) (outer : List Env) (s : Shared) (H : Hp) (E : XK), Room k (A.deeper (envOfC qual scope s.heap.objs.size f cdv)) →
      JSs T (cxOf (CX P w) P w K mg base N qual scope f cdv A outer s H E) (fun c d _ H => E c d H) body fb) :
    FnOk P w K mg base (CX P w) (k + 1) f fd ps (spF T K (fnOf ps.length N.length fb)) := by
  refine FD.ok S (fun vs H Q E ⟨io, h, F, as, sr, vrs, w⟩ => ?_) fun cdv A outer s H vs Q E hr ⟨io, h, F, as, sr, vrs, w⟩ => ⟨_, hb cdv A outer s H E hr, ?_⟩
  · unfold fnOf at w
    by_cases hl : as.length = ps.length
    · rw [← vrs.length]; exact hl
    · rw [if_neg hl] at w; exact w.elim
  · unfold fnOf at w
    by_cases hl : as.length = ps.length
    · rw [if_pos hl] at w
      have e : L2.start N vs = vs.map some ++ List.replicate (N.length - ps.length) none := by unfold L2.start; rw [← vrs.length, hl]
      rw [e]
      refine ⟨io, h, F, _, sr, rst_start vrs _, ?_⟩
      cases q : fb (as.map some ++ List.replicate (N.length - ps.length) none) h with
      | next sg h1 => rw [q] at w; exact fun io' F' H' σ' st sr' rs' => w io' F' H' _ st sr' .non
      | ret v h1 => rw [q] at w; exact w
      | brk sg h1 => rw [q] at w; exact w.elim
      | cont sg h1 => rw [q] at w; exact w.elim
      | exc c fs sg h1 => rw [q] at w; exact fun io' F' H' σ' d st sr' rs' xr => w io' F' H' d st sr' xr
      | bad => rw [q] at w; exact w.elim
    · rw [if_neg hl] at w; exact w.elim

/-! ### freezing: what a call has made never changes any more -/
def frz (T : Tb) (h : Hh) : Nat → Val → Option Val
  | 0, _ => none
  | n + 1, v => match v with
    | .ref k => (match h[k]? with
      | some (.lst vs) => (vs.mapM (frz T h n)).map .lst
      | some (.ins c vs) => if vs.length = (T.fn c).length then (vs.mapM (frz T h n)).map (.obj c) else none
      | none => none)
    | .tup vs => (vs.mapM (frz T h n)).map .tup
    | .lst vs => (vs.mapM (frz T h n)).map .lst
    | .obj c vs => (vs.mapM (frz T h n)).map (.obj c)
    | v => some v
def frzTop (T : Tb) (h : Hh) (v : Val) : Option Val := match h with
  | [] => some v
  | _ => frz T h 30 v
def frzTops (T : Tb) (h : Hh) (vs : List Val) : Option (List Val) := match h with
  | [] => some vs
  | _ => vs.mapM (frz T h 30)
section
variable {T : Tb} {K : PySem.W.Frag} {io io' : Nat → Addr} {n m : Nat} {F F' F2 H H' : Hp} {h h' : Hh}
theorem mapM_VRs {g : Val → Option Val} (hg : ∀ v v' x, g v = some v' → VR T K io n F v x → VR T K io' m F2 v' x) : ∀ {vs vs' : List Val} {xs : List V}, vs.mapM g = some vs' → VRs T K io n F vs xs → VRs T K io' m F2 vs' xs
  | [], vs', xs, e, r => by
    simp at e; subst e
    cases r; exact .nil
  | v :: vs, vs', xs, e, r => by
    rw [List.mapM_cons] at e
    cases q : g v with
    | none => rw [q] at e; simp at e
    | some v' =>
      rw [q] at e
      cases q2 : vs.mapM g with
      | none => rw [q2] at e; simp at e
      | some us =>
        rw [q2] at e
        simp at e
        subst e
        cases r with
        | cons a b => exact .cons (hg v v' _ q a) (mapM_VRs hg q2 b)
theorem map_some {α β : Type} {o : Option α} {f : α → β} {b : β} (e : o.map f = some b) : ∃ a, o = some a ∧ f a = b := by
  cases o with
  | none => cases e
  | some a => exact ⟨a, rfl, Option.some.inj e⟩
theorem frz_ok (sr : SR T K io h F H) (hF : ∀ b o, F b = some o → F2 b = some o) (ht : ∀ k, k < h.length → F2 (io k) = H (io k)) (ho : ∀ k dx, k < h.length → H dx = some (.own (io k)) → F2 dx = some (.own (io k))) :
    ∀ (fu : Nat) (v v' : Val) (x : V), frz T h fu v = some v' → VR T K io h.length F v x → VR T K io' 0 F2 v' x
  | 0, _, _, _, e, _ => by cases e
  | fu + 1, v, v', x, e, r => by
    have ih := frz_ok sr hF ht ho fu
    unfold frz at e
    cases r with
    | non => cases e; exact .non
    | bl b => cases e; exact .bl b
    | int i => cases e; exact .int i
    | str s => cases e; exact .str s
    | glo g => cases e; exact .glo g
    | @tup vs a xs q rr =>
      obtain ⟨us, e1, rfl⟩ := map_some e
      exact .tup (sqT_mono hF q) (mapM_VRs ih e1 rr)
    | @lst vs a xs q rr =>
      obtain ⟨us, e1, rfl⟩ := map_some e
      exact .lst (sqL_mono hF q) (mapM_VRs ih e1 rr)
    | @obj c vs a dx xs q qd rr hl =>
      obtain ⟨us, e1, rfl⟩ := map_some e
      exact .obj (hF _ _ q) (hF _ _ qd) (mapM_VRs ih e1 rr) hl
    | ref k hk =>
      dsimp only at e
      cases ek : h[k]? with
      | none => rw [ek] at e; cases e
      | some ob =>
        rw [ek] at e
        have o := sr.obj k ob ek
        cases ob with
        | lst vs =>
          obtain ⟨xs, ea, rr⟩ := o
          obtain ⟨us, e1, rfl⟩ := map_some e
          exact .lst (SqL.of (by rw [ht k hk]; exact ea)) (mapM_VRs ih e1 rr)
        | ins c vs =>
          obtain ⟨dx, xs, ea, ed, rr, hl⟩ := o
          dsimp only at e
          by_cases hz : vs.length = (T.fn c).length
          · rw [if_pos hz] at e
            obtain ⟨us, e1, rfl⟩ := map_some e
            refine .obj (dx := dx) (xs := xs) (by rw [ht k hk, ea, hz, List.take_length]) (ho k dx hk ed) (mapM_VRs ih e1 rr) (by rw [← rr.length]; exact hz)
          · rw [if_neg hz] at e; cases e
theorem VR.ofEmpty {v : Val} {x : V} (r : VR T K io n F v x) (hn : n = 0) : VR T K io' m F v x := r.mono (by omega) (fun k hk => absurd hk (by omega)) (fun _ _ e => e)
theorem VRs.ofEmpty {v : List Val} {x : List V} (r : VRs T K io n F v x) (hn : n = 0) : VRs T K io' m F v x := r.mono (by omega) (fun k hk => absurd hk (by omega)) (fun _ _ e => e)
open Classical in
/-- all that the callee leaves, frozen -/
noncomputable def F2of (io' : Nat → Addr) (n' : Nat) (F' H' : Hp) : Hp := fun b => match F' b with
  | some o => some o
  | none => if (∃ k, k < n' ∧ io' k = b) ∨ (∃ k, k < n' ∧ H' b = some (.own (io' k))) then H' b else none
theorem F2of_sub {n' : Nat} : ∀ b o, F' b = some o → F2of io' n' F' H' b = some o := fun b o e => by unfold F2of; rw [e]
theorem F2of_in {n' : Nat} (s : ∀ b o, F' b = some o → H' b = some o) : ∀ b o, F2of io' n' F' H' b = some o → H' b = some o := fun b o e => by
  unfold F2of at e
  cases q : F' b with
  | some u => rw [q] at e; cases e; exact s b _ q
  | none =>
    rw [q] at e
    dsimp only at e
    split at e
    · exact e
    · cases e
theorem F2of_at (sr : SR T K io' h' F' H') {k : Nat} (hk : k < h'.length) : F2of io' h'.length F' H' (io' k) = H' (io' k) := by
  unfold F2of
  rw [sr.dis k hk]
  dsimp only
  rw [if_pos (.inl ⟨k, hk, rfl⟩)]
theorem F2of_own (sr : SR T K io' h' F' H') {k : Nat} {dx : Addr} (hk : k < h'.length) (e : H' dx = some (.own (io' k))) : F2of io' h'.length F' H' dx = some (.own (io' k)) := by
  unfold F2of
  cases q : F' dx with
  | some u => have := sr.sub dx u q; rw [e] at this; cases this; rfl
  | none =>
    dsimp only
    rw [if_pos (.inr ⟨k, hk, e⟩)]
    exact e
/-- behind a callee that started from n0 tracked objects at io0 (a part of the caller's): all else that is the caller's stands -/
theorem F2of_fresh {io0 : Nat → Addr} {n0 : Nat} (sr : SR T K io' h' F' H') (st : Step io0 n0 F H io' h'.length F' H') : ∀ b o, F2of io' h'.length F' H' b = some o → (∀ k, k < n0 → io0 k ≠ b) → F b = some o ∨ H b = none ∨ ∃ y, o = .own y := fun b o e hb => by
  unfold F2of at e
  cases q : F' b with
  | some u => rw [q] at e; cases e; exact st.fresh b _ q
  | none =>
    rw [q] at e
    dsimp only at e
    split at e
    · rename_i z
      rcases z with ⟨k, hk, rfl⟩ | ⟨k, hk, z⟩
      · by_cases hk0 : k < n0
        · exact absurd (st.eq k hk0).symm (hb k hk0)
        · exact .inr (.inl (st.new k (by omega) hk))
      · rw [z] at e; cases e; exact .inr (.inr ⟨_, rfl⟩)
    · cases e
theorem OR.notOwn {a : Addr} {o : Obj} (r : OR T K io n F H a o) : ∀ y, H a ≠ some (.own y) := fun y e => by
  cases o with
  | lst vs => obtain ⟨xs, q, _⟩ := r; rw [q] at e; cases e
  | ins c vs => obtain ⟨dx, xs, q, _⟩ := r; rw [q] at e; cases e
end

/-! ### a call whose arguments bear no reference -/
mutual
def pureV : Val → Bool
  | .ref _ => false
  | .tup vs => pureVs vs
  | .lst vs => pureVs vs
  | .obj _ vs => pureVs vs
  | _ => true
def pureVs : List Val → Bool
  | [] => true
  | v :: vs => pureV v && pureVs vs
end
section
variable {T : Tb} {K : PySem.W.Frag} {io io' : Nat → Addr} {n m : Nat} {F : Hp}
mutual
theorem VR.pure : ∀ {v : Val} {x : V}, VR T K io n F v x → pureV v = true → VR T K io' m F v x
  | _, _, .non, _ => .non
  | _, _, .bl b, _ => .bl b
  | _, _, .int i, _ => .int i
  | _, _, .str s, _ => .str s
  | _, _, .ref k h, e => by simp [pureV] at e
  | _, _, .tup h r, e => .tup h (VRs.pure r (by simpa [pureV] using e))
  | _, _, .lst h r, e => .lst h (VRs.pure r (by simpa [pureV] using e))
  | _, _, .obj h hd r hl, e => .obj h hd (VRs.pure r (by simpa [pureV] using e)) hl
  | _, _, .glo g, _ => .glo g
theorem VRs.pure : ∀ {v : List Val} {x : List V}, VRs T K io n F v x → pureVs v = true → VRs T K io' m F v x
  | _, _, .nil, _ => .nil
  | _, _, .cons h t, e => by
    simp [pureVs] at e
    exact .cons (VR.pure h e.1) (VRs.pure t e.2)
end
end
def callP (T : Tb) (f : Fx) (as : List Val) (h : Hh) : Res := if (h.isEmpty || pureVs as) = true then (match f [] as with
  | .ok v h' => .ofO (frzTop T h' v) h
  | .exc c fs h' => (match frzTops T h' fs with
    | some fs' => .exc c fs' h
    | none => .bad)
  | .bad => .bad) else .bad
section
variable {T : Tb} {K : PySem.W.Frag} {io io' : Nat → Addr} {n m : Nat} {F F' H H' : Hp} {h h' : Hh} {W : XK} {Q : VK}
/-- the caller's state behind a callee that knew of none of its objects -/
theorem sr_back (sr : SR T K io h F H) (st : Step io 0 F H io' h'.length F' H') (sr' : SR T K io' h' F' H') : SR T K io h (F2of io' h'.length F' H') H' ∧ Step io h.length F H io h.length (F2of io' h'.length F' H') H' := by
  have hH : ∀ b o, H b = some o → H' b = some o := fun b o e => st.frame b o e fun k hk => absurd hk (Nat.not_lt_zero _)
  have hF : ∀ b o, F b = some o → F2of io' h'.length F' H' b = some o := fun b o e => F2of_sub b o (st.phi b o e)
  have fr := F2of_fresh (io0 := io) (n0 := 0) sr' st
  refine ⟨⟨F2of_in sr'.sub, fun k hk => ?_, sr.inj, fun k o e => (sr.obj k o e).mono (Nat.le_refl _) (fun _ _ => rfl) hF hH⟩, ⟨Nat.le_refl _, fun _ _ => rfl, hF, fun b o e _ => hH b o e, fun k a b => absurd b (Nat.not_lt.mpr a), fun b o e => fr b o e fun k hk => absurd hk (Nat.not_lt_zero _)⟩⟩
  cases q : F2of io' h'.length F' H' (io k) with
  | none => rfl
  | some o =>
    exfalso
    obtain ⟨u, hu⟩ := sr.there hk
    rcases fr (io k) o q fun k hk => absurd hk (Nat.not_lt_zero _) with z | z | ⟨y, z⟩
    · rw [sr.dis k hk] at z; cases z
    · rw [hu] at z; cases z
    · subst z
      have e3 := F2of_in sr'.sub _ _ q
      have e2 : h[k]? = some h[k] := by simp [hk]
      rw [hH _ _ hu] at e3
      exact (sr.obj k _ e2).notOwn y (hu.trans e3)
theorem frzTop_ok (sr : SR T K io' h' F' H') {v v' : Val} {x : V} (e : frzTop T h' v = some v') (r : VR T K io' h'.length F' v x) : VR T K io n (F2of io' h'.length F' H') v' x := by
  cases h' with
  | nil =>
    cases e
    exact r.mono (Nat.zero_le _) (fun k hk => absurd hk (Nat.not_lt_zero _)) F2of_sub
  | cons o t =>
    exact (frz_ok (io' := io) sr F2of_sub (fun k hk => F2of_at sr hk) (fun k dx hk e => F2of_own sr hk e) 30 v v' x e r).ofEmpty rfl
theorem frzTops_ok (sr : SR T K io' h' F' H') {v v' : List Val} {x : List V} (e : frzTops T h' v = some v') (r : VRs T K io' h'.length F' v x) : VRs T K io n (F2of io' h'.length F' H') v' x := by
  cases h' with
  | nil =>
    cases e
    exact r.mono (Nat.zero_le _) (fun k hk => absurd hk (Nat.not_lt_zero _)) F2of_sub
  | cons o t =>
    exact (mapM_VRs (io' := io) (m := 0) (frz_ok (io' := io) sr F2of_sub (fun k hk => F2of_at sr hk) (fun k dx hk e => F2of_own sr hk e) 30) e r).ofEmpty rfl
theorem XR.change {F2 : Hp} {c : Nat} {fs fs' : List Val} {d : Option Addr} (x : XR T K io n F H c fs d) (hf : fs = [] → fs' = []) (hr : ∀ xs, VRs T K io n F fs xs → VRs T K io' m F2 fs' xs) : XR T K io' m F2 H c fs' d := by
  unfold XR at x ⊢
  cases hfn : T.fn c with
  | nil => rw [hfn] at x; exact ⟨x.1, hf x.2⟩
  | cons f r =>
    rw [hfn] at x
    obtain ⟨dd, xs, e1, e2, r, l⟩ := x
    exact ⟨dd, xs, e1, e2, hr xs r, l⟩
theorem frzTops_nil {vs : List Val} (e : frzTops T h [] = some vs) : vs = [] := by
  cases h with
  | nil => cases e; rfl
  | cons o t => simpa [frzTops] using e.symm
theorem callP_ok {f : Fx} {as : List Val} {vs : List V} (sr : SR T K io h F H) (r : VRs T K io h.length F as vs) (w : Wants T K io h.length F H W Q (callP T f as h)) : spF T K f vs H Q W := by
  unfold callP at w
  by_cases hp : (h.isEmpty || pureVs as) = true
  · rw [if_pos hp] at w
    have r0 : VRs T K io ([] : Hh).length F as vs := by
      rcases Bool.or_eq_true_iff.mp hp with z | z
      · have : h = [] := List.isEmpty_iff.mp z
        subst this; exact r
      · exact r.pure z
    refine ⟨io, [], F, as, ⟨sr.sub, fun k hk => absurd hk (Nat.not_lt_zero _), fun j k hj => absurd hj (Nat.not_lt_zero _), fun k o e => by simp at e⟩, r0, ?_⟩
    cases e : f [] as with
    | bad => rw [e] at w; exact w
    | ok v h' =>
      rw [e] at w
      obtain ⟨z, ez, w1⟩ := wants_ofO w
      intro io1 F1 H1 x st sr1 vr
      obtain ⟨a, b⟩ := sr_back sr st sr1
      exact w1 io _ H1 x b a (frzTop_ok sr1 ez vr)
    | exc c fs h' =>
      rw [e] at w
      intro io1 F1 H1 d st sr1 xr
      dsimp only at w
      cases ez : frzTops T h' fs with
      | none => rw [ez] at w; exact w.elim
      | some fs' =>
        rw [ez] at w
        obtain ⟨a, b⟩ := sr_back sr st sr1
        exact w io _ H1 d b a (xr.change (fun z => by subst z; exact frzTops_nil ez) fun xs r => frzTops_ok sr1 ez r)
  · rw [if_neg hp] at w; exact w.elim
/-- with the caller's whole heap -/
theorem callA_ok {f : Fx} {as : List Val} {vs : List V} (sr : SR T K io h F H) (r : VRs T K io h.length F as vs) (w : Wants T K io h.length F H W Q (f h as)) : spF T K f vs H Q W := ⟨io, h, F, as, sr, r, w⟩
end

/-! ### calls by name -/
/-- what is known of a def that is called: its promise, its place, its defaults -/
structure Fn (T : Tb) (X : Cx) (x : Str) (ps : List Str) (k : Nat) (f : Fx) : Prop where
  ex : ∃ (a : Addr) (fd : FuncData), FnOk X.prog X.w X.K X.mg X.base (CX X.prog X.w) k a fd ps (spF T X.K f) ∧ X.mg x = some (.ref a) ∧ PySem.W.keepIn X.K (.ref a) = true ∧ ∃ (dv : List V) (ds : List Value), True
section
variable {T : Tb} {X : Cx} {W : WX} {e : Expr} {es : List Expr} {fl : Lx} {pos : Pos} {ps : List Str} {k : Nat} {f : Fx} {x : Str} {a : Addr} {fd : FuncData} {dvs : List V} {ds : List Value}
def xCallP (T : Tb) (f : Fx) (dfl : List Val) (l : Lx) : Ex := fun sg h => (l sg h).bind fun as h1 => callP T f (as ++ dfl) h1
def xCallA (f : Fx) (dfl : List Val) (l : Lx) : Ex := fun sg h => (l sg h).bind fun as h1 => f h1 (as ++ dfl)
/-- the defaults, as values that hold anywhere -/
def Dfl (T : Tb) (K : PySem.W.Frag) (dfl : List Val) (dvs : List V) : Prop := ∀ io n F, VRs T K io n F dfl dvs
theorem Dfl.nil {K : PySem.W.Frag} : Dfl T K [] [] := fun _ _ _ => .nil
theorem je_callP (G : FnOk X.prog X.w X.K X.mg X.base (CX X.prog X.w) k a fd ps (spF T X.K f)) (hr : Room k X.A) (hm : X.mg x = some (.ref a)) (hk : PySem.W.keepIn X.K (.ref a) = true) {dfl : List Val} (hD : Dfl T X.K dfl dvs) (hb : Binds X.K fd ps ds) (hd : Vals dvs ds) (tk : Takes X W)
    (ha : JA T X W (e :: es) fl) {p : Pos} (hg : Gl X x := by rfl) (hdb : (x == ("__debug__" : Str)) = false := by decide) (he : starEach (e :: es) X.env = (false, eval e X.env) :: starEach es X.env := by rfl) (hpl : (backTo pos (starEach es X.env)).any (·.1) = false := by rfl) :
    JE T X W (.Call (.Name x p) (e :: es) [] pos) (xCallP T f dfl fl) :=
  pe_imp (pe_callSD (E := fun σ c d H => W c d σ H) G hr hg hm hk hb hd (fun σ => passAt tk σ) ha hdb he hpl) fun σ H Q ⟨io, h, F, sg, sr, rs, w⟩ =>
    ⟨io, h, F, sg, sr, rs, Wants.bindOfL w fun vs h1 io1 F1 H1 xs st sr1 vr w1 => callP_ok sr1 (vr.append (hD _ _ _)) w1⟩
theorem je_callA (G : FnOk X.prog X.w X.K X.mg X.base (CX X.prog X.w) k a fd ps (spF T X.K f)) (hr : Room k X.A) (hm : X.mg x = some (.ref a)) (hk : PySem.W.keepIn X.K (.ref a) = true) {dfl : List Val} (hD : Dfl T X.K dfl dvs) (hb : Binds X.K fd ps ds) (hd : Vals dvs ds) (tk : Takes X W)
    (ha : JA T X W (e :: es) fl) {p : Pos} (hg : Gl X x := by rfl) (hdb : (x == ("__debug__" : Str)) = false := by decide) (he : starEach (e :: es) X.env = (false, eval e X.env) :: starEach es X.env := by rfl) (hpl : (backTo pos (starEach es X.env)).any (·.1) = false := by rfl) :
    JE T X W (.Call (.Name x p) (e :: es) [] pos) (xCallA f dfl fl) :=
  pe_imp (pe_callSD (E := fun σ c d H => W c d σ H) G hr hg hm hk hb hd (fun σ => passAt tk σ) ha hdb he hpl) fun σ H Q ⟨io, h, F, sg, sr, rs, w⟩ =>
    ⟨io, h, F, sg, sr, rs, Wants.bindOfL w fun vs h1 io1 F1 H1 xs st sr1 vr w1 => callA_ok sr1 (vr.append (hD _ _ _)) w1⟩
end
end Py

namespace Py
open PySem PySem.Spec PyProof.Rows L2

/-! ### targets of a comprehension: which slots are written -/
def WantsGw (T : Tb) (K : PySem.W.Frag) (io : Nat → Addr) (n : Nat) (F H : Hp) (σ : L2.St) (ws : List Nat) (Q : L2.St → Hp → Prop) : ResG → Prop
  | .ok sg' h' => ∀ io' F' H' σ', Step io n F H io' h'.length F' H' → SR T K io' h' F' H' → RSt T K io' h'.length F' sg' σ' → (∀ j, j ∉ ws → σ'[j]? = σ[j]?) → σ'.length = σ.length → Q σ' H'
  | .bad => False
def tGw (T : Tb) (K : PySem.W.Frag) (ws : List Nat) (g : Gx) : TG := fun x σ H Q => ∃ io h F sg v, SR T K io h F H ∧ RSt T K io h.length F sg σ ∧ VR T K io h.length F v x ∧ WantsGw T K io h.length F H σ ws Q (g v sg h)
def tGsw (T : Tb) (K : PySem.W.Frag) (ws : List Nat) (g : Gs) : TGs := fun xs σ H Q => ∃ io h F sg vs, SR T K io h F H ∧ RSt T K io h.length F sg σ ∧ VRs T K io h.length F vs xs ∧ WantsGw T K io h.length F H σ ws Q (g vs sg h)
abbrev JGw (T : Tb) (X : Cx) (ws : List Nat) (e : Expr) (g : Gx) : Prop := PG X e (tGw T X.K ws g)
abbrev JGsw (T : Tb) (X : Cx) (ws : List Nat) (es : List Expr) (g : Gs) : Prop := PGs X es (tGsw T X.K ws g)
section
variable {T : Tb} {X : Cx} {W : WX} {a b c e : Expr} {fa fb fc fe : Ex} {pos : Pos}
theorem WantsGw.rebase {K : PySem.W.Frag} {io io1 : Nat → Addr} {n : Nat} {F F1 H H1 : Hp} {h1 : Hh} {σ : L2.St} {ws : List Nat} {Q : L2.St → Hp → Prop} {r : ResG} (w : WantsGw T K io n F H σ ws Q r) (a : Step io n F H io1 h1.length F1 H1) (s : SR T K io1 h1 F1 H1) : WantsGw T K io1 h1.length F1 H1 σ ws Q r := by
  cases r with
  | ok v h' => exact fun io' F' H' x st sr vr hj hl => w io' F' H' x (a.trans s st) sr vr hj hl
  | bad => exact w
theorem jgw_name (i : Nat) {x : Str} (hN : X.N.Nodup) (hi : X.N[i]? = some x := by rfl) (hx : Loc X.env.scope x := by first | exact .inl rfl | exact .inr rfl) (hf : X.fn x = true ∨ X.env.scope.names.lookup x = some .local := by first | exact .inl rfl | exact .inr rfl | assumption) : JGw T X [i] (.Name x pos) (gN i) :=
  pg_imp (pg_name hN hi hx hf) fun x σ H Q ⟨io, h, F, sg, v, sr, rs, vr, w⟩ => w io F H _ .refl sr (rs.set i vr) (fun j hj => by rw [List.getElem?_set_ne (fun z => hj (by simp [z]))]) (by simp)
theorem jgsw_nil : JGsw T X [] [] gsNil := by
  refine ⟨fun pins s σ H xs us Q I r h => pgs_nil.run pins s σ H xs us Q I r ?_⟩
  obtain ⟨io, hh, F, sg, vs, sr, rs, vr, w⟩ := h
  cases vr with
  | nil => exact ⟨rfl, w io F H σ .refl sr rs (fun _ _ => rfl) rfl⟩
  | cons a b => exact w.elim
theorem jgsw_cons {tg : Expr} {tgs : List Expr} {g : Gx} {r : Gs} {w1 w2 : List Nat} (h1 : JGw T X w1 tg g) (h2 : JGsw T X w2 tgs r) (hs : (assignEach (tg :: tgs) X.env).map (·.2) = assign tg X.env :: (assignEach tgs X.env).map (·.2) := by rfl) : JGsw T X (w1 ++ w2) (tg :: tgs) (gsCons g r) := by
  refine ⟨fun pins s σ H xs us Q I rl h => (pgs_cons h1 h2 hs).run pins s σ H xs us Q I rl ?_⟩
  obtain ⟨io, hh, F, sg, vs, sr, rs, vr, w⟩ := h
  cases vr with
  | nil => exact w.elim
  | @cons v x vs' xs' a b =>
    refine ⟨x, xs', rfl, ⟨io, hh, F, sg, v, sr, rs, a, ?_⟩⟩
    have w' : WantsGw T X.K io hh.length F H σ (w1 ++ w2) Q (match g v sg hh with
      | .ok sg1 h1 => r vs' sg1 h1
      | .bad => .bad) := w
    cases e : g v sg hh with
    | ok sg1 h1 =>
      rw [e] at w'
      intro io' F' H' σ' st sr' rs' hj hl
      refine ⟨io', h1, F', sg1, vs', sr', rs', b.step st, ?_⟩
      have w2' := WantsGw.rebase w' st sr'
      dsimp only at w2'
      cases er : r vs' sg1 h1 with
      | ok sg2 h2 =>
        rw [er] at w2'
        exact fun io2 F2 H2 σ2 st2 sr2 rs2 hj2 hl2 => w2' io2 F2 H2 σ2 st2 sr2 rs2 (fun j hjj => by
          rw [List.mem_append, not_or] at hjj
          rw [hj2 j hjj.2, hj j hjj.1]) (hl2.trans hl)
      | bad => rw [er] at w2'; exact w2'
    | bad => rw [e] at w'; exact w'
theorem jgw_tup {tgs : List Expr} {k : Nat} {r : Gs} {n : Nat} {ws : List Nat} (hc : X.calm = true) (h : JGsw T X ws tgs r) (hn : (assignEach tgs X.env).length = n := by rfl) (hst : (assignEach tgs X.env).findIdx? (·.1) = none := by rfl) : JGw T X ws (.Tuple tgs k pos) (gTu n r) := by
  refine pg_imp (pg_tup hc h hn hst) fun x σ H Q ⟨io, hh, F, sg, v, sr, rs, vr, w⟩ => ?_
  cases vr with
  | @tup vs a xs q r' =>
    have w' : WantsGw T X.K io hh.length F H σ ws Q (if vs.length = n then r vs sg hh else .bad) := w
    by_cases hl : vs.length = n
    · rw [if_pos hl] at w'
      exact ⟨a, xs, rfl, sqT_mono sr.sub q, by rw [← r'.length]; exact hl, io, hh, F, sg, vs, sr, rs, r', w'⟩
    · rw [if_neg hl] at w'; exact w'.elim
  | _ => exact w.elim

/-! ### list comprehensions -/
abbrev Wno : WX := fun _ _ _ _ => False
def wipeG (sg : Sg) : List Nat → Sg
  | [] => sg
  | v :: vs => (wipeG sg vs).set v none
theorem wipeG_ok {K : PySem.W.Frag} {io : Nat → Addr} {n : Nat} {F : Hp} {sg : Sg} {σ : L2.St} (r : RSt T K io n F sg σ) : ∀ vs : List Nat, RSt T K io n F (wipeG sg vs) (wipe σ vs)
  | [] => r
  | v :: vs => by
    have ih := wipeG_ok r vs
    refine ⟨by simp [wipeG, wipe, ih.len], fun i u e => ?_⟩
    unfold wipeG at e
    by_cases hv : v = i
    · subst hv
      by_cases hl : v < (wipeG sg vs).length
      · rw [List.getElem?_set_self hl] at e; cases e
      · rw [List.getElem?_eq_none (by simpa using hl)] at e; cases e
    · rw [List.getElem?_set_ne hv] at e
      obtain ⟨x, e1, e2⟩ := ih.at_ i u e
      exact ⟨x, by unfold wipe; rw [List.getElem?_set_ne hv]; exact e1, e2⟩
theorem wipe_at {σ : L2.St} {i : Nat} : ∀ {vs : List Nat}, i ∉ vs → (wipe σ vs)[i]? = σ[i]?
  | [], _ => rfl
  | v :: vs, h => by
    unfold wipe
    rw [List.getElem?_set_ne (fun z => h (by simp [z])), wipe_at (fun z => h (List.mem_cons_of_mem _ z))]
theorem wipe_in {σ : L2.St} {i : Nat} : ∀ {vs : List Nat}, i ∈ vs → i < σ.length → (wipe σ vs)[i]? = some none
  | v :: vs, h, hl => by
    unfold wipe
    by_cases hv : v = i
    · subst hv; rw [List.getElem?_set_self (by rw [wipe_length]; exact hl)]
    · rw [List.getElem?_set_ne hv, wipe_in ((List.mem_cons.mp h).resolve_left (fun z => hv z.symm)) hl]
theorem wipe_eq {σ σ' : L2.St} {vs ws : List Nat} (hw : ∀ j, j ∈ ws → j ∈ vs) (hj : ∀ j, j ∉ ws → σ'[j]? = (wipe σ vs)[j]?) (hl : σ'.length = (wipe σ vs).length) : wipe σ' vs = wipe σ vs := by
  apply List.ext_getElem?
  intro j
  by_cases h : j ∈ vs
  · by_cases hs : j < σ.length
    · rw [wipe_in h hs, wipe_in h (by rw [hl, wipe_length]; exact hs)]
    · rw [List.getElem?_eq_none (by rw [wipe_length, hl, wipe_length]; omega), List.getElem?_eq_none (by rw [wipe_length]; omega)]
  · rw [wipe_at h, hj j (fun z => h (hw j z))]
def compItems (g : Gx) (t e : Ex) (sg : Sg) : List Val → List Val → Hh → ResL
  | [], acc, h => .ok acc h
  | v :: r, acc, h => match g v sg h with
    | .ok sg1 h1 => (match t sg1 h1 with
      | .ok (.bl true) h2 => (match e sg1 h2 with
        | .ok y h3 => compItems g t e sg r (acc ++ [y]) h3
        | _ => .bad)
      | .ok (.bl false) h2 => compItems g t e sg r acc h2
      | _ => .bad)
    | .bad => .bad
def compRef (g : Gx) (t e : Ex) (sg : Sg) (k : Nat) : Nat → Nat → List Val → Hh → ResL
  | 0, _, _, _ => .bad
  | m + 1, i, acc, h => match h[k]? with
    | some (.lst xs) => (match xs[i]? with
      | none => .ok acc h
      | some v => match g v sg h with
        | .ok sg1 h1 => (match t sg1 h1 with
          | .ok (.bl true) h2 => (match e sg1 h2 with
            | .ok y h3 => compRef g t e sg k m (i + 1) (acc ++ [y]) h3
            | _ => .bad)
          | .ok (.bl false) h2 => compRef g t e sg k m (i + 1) acc h2
          | _ => .bad)
        | .bad => .bad)
    | _ => .bad
def xCompL (own : List Nat) (fi : Ix) (g : Gx) (t e : Ex) : Lx := fun sg h => match fi sg h with
  | .ok (.items vs) h1 => if vs.length ≤ 1000000 then compItems g t e (wipeG sg own) vs [] h1 else .bad
  | .ok (.ref k) h1 => compRef g t e (wipeG sg own) k 1000000 0 [] h1
  | .exc c fs h1 => .exc c fs h1
  | .bad => .bad
def xComp (own : List Nat) (fi : Ix) (g : Gx) (t e : Ex) : Ex := fun sg h => (xCompL own fi g t e sg h).bind fun vs h1 => .ok (.ref h1.length) (h1 ++ [.lst vs])
def xCompF (own : List Nat) (fi : Ix) (g : Gx) (t e : Ex) : Ex := fun sg h => (xCompL own fi g t e sg h).bind fun vs h1 => .ok (.lst vs) h1
/-- the tests of a comprehension -/
abbrev JTs (T : Tb) (X : Cx) (W : WX) (es : List Expr) (f : Ex) : Prop := PTs X es (tB1 T X.K W f)
theorem jts_nil : JTs T X W [] (xC (.bl true)) := ⟨fun pins s σ H Q I ⟨io, h, F, sg, sr, rs, w⟩ => pts_nil.run pins s σ H Q I (w io F H .refl sr)⟩
theorem jts_one (h : JT T X W c fc) : JTs T X W [c] fc := pts_one h
/-- what is wanted of the new list at D -/
def WantsD (T : Tb) (K : PySem.W.Frag) (io1 : Nat → Addr) (n1 : Nat) (F1 H1 : Hp) (D : Addr) (Q : VK) : ResL → Prop
  | .ok acc h' => ∀ io' F' H' xs, Step io1 n1 F1 H1 io' h'.length F' H' → SR T K io' h' F' H' → H' D = some (.lst xs) → VRs T K io' h'.length F' acc xs → F' D = none → (∀ k, k < h'.length → io' k ≠ D) → Q (.ref D) H'
  | _ => False
structure CInv (T : Tb) (K : PySem.W.Frag) (io1 : Nat → Addr) (n1 : Nat) (F1 H1 : Hp) (D : Addr) (io : Nat → Addr) (h : Hh) (F H : Hp) : Prop where
  sr : SR T K io h F H
  st : Step io1 n1 F1 H1 io h.length F H
  fd : F D = none
  nd : ∀ k, k < h.length → io k ≠ D
theorem CInv.go {K : PySem.W.Frag} {io1 io io' : Nat → Addr} {n1 : Nat} {F1 H1 F H F' H' : Hp} {D : Addr} {h h' : Hh} {xs : List V} (c : CInv T K io1 n1 F1 H1 D io h F H) (hD : H D = some (.lst xs)) (st : Step io h.length F H io' h'.length F' H') (sr : SR T K io' h' F' H') :
    CInv T K io1 n1 F1 H1 D io' h' F' H' ∧ H' D = some (.lst xs) := by
  have e := st.frame D _ hD c.nd
  refine ⟨⟨sr, c.st.trans c.sr st, ?_, fun k hk z => ?_⟩, e⟩
  · cases q : F' D with
    | none => rfl
    | some o =>
      exfalso
      rcases st.fresh D o q with z | z | ⟨y, z⟩
      · rw [c.fd] at z; cases z
      · rw [hD] at z; cases z
      · subst z
        have := sr.sub D _ q
        rw [e] at this; cases this
  · by_cases hk' : k < h.length
    · exact c.nd k hk' ((st.eq k hk').symm.trans z)
    · have := st.new k (by omega) hk
      rw [z, hD] at this; cases this
theorem CInv.app {K : PySem.W.Frag} {io1 io : Nat → Addr} {n1 : Nat} {F1 H1 F H : Hp} {D : Addr} {h : Hh} {xs : List V} (hD1 : H1 D = none) (c : CInv T K io1 n1 F1 H1 D io h F H) (hD : H D = some (.lst xs)) (ys : List V) : CInv T K io1 n1 F1 H1 D io h F (upd H D (.lst ys)) := by
  refine ⟨⟨fun b o e => ?_, c.sr.dis, c.sr.inj, fun k o e => ?_⟩, ⟨c.st.le, c.st.eq, c.st.phi, fun b o e hb => ?_, c.st.new, c.st.fresh⟩, c.fd, c.nd⟩
  · have : b ≠ D := fun z => by rw [z, c.fd] at e; cases e
    rw [upd_ne this]; exact c.sr.sub b o e
  · have hk : k < h.length := (List.getElem?_eq_some_iff.mp e).1
    have r := c.sr.obj k o e
    cases o with
    | lst vs => obtain ⟨zs, e1, r⟩ := r; exact ⟨zs, by rw [upd_ne (c.nd k hk)]; exact e1, r⟩
    | ins cc vs =>
      obtain ⟨dx, zs, e1, d, r, l⟩ := r
      exact ⟨dx, zs, by rw [upd_ne (c.nd k hk)]; exact e1, by rw [upd_ne (fun z => by rw [z, hD] at d; cases d)]; exact d, r, l⟩
  · rw [upd_ne (ne_of_none e hD1)]; exact c.st.frame b o e hb
/-- one turn -/
theorem comp_turn {K : PySem.W.Frag} {io1 io : Nat → Addr} {n1 : Nat} {F1 H1 F H : Hp} {D : Addr} {h : Hh} {xs : List V} {acc : List Val} {sg : Sg} {σ : L2.St} {own ws : List Nat} {g : Gx} {t el : Ex} {Q : VK} {J : It} {i : Nat} {v : Val} {rest : List Val → Hh → ResL} {Nx : Hp → Prop}
    (hw : ∀ j, j ∈ ws → j ∈ own) (hD1 : H1 D = none) (c : CInv T K io1 n1 F1 H1 D io h F H) (hD : H D = some (.lst xs)) (va : VRs T K io h.length F acc xs) (rs : RSt T K io h.length F sg (wipe σ own)) (hz : acc.length < 1000000)
    (y : YldOk T K J i (some v) io h F H)
    (w : WantsD T K io1 n1 F1 H1 D Q (match g v sg h with
      | .ok sg1 h1 => (match t sg1 h1 with
        | .ok (.bl true) h2 => (match el sg1 h2 with
          | .ok y h3 => rest (acc ++ [y]) h3
          | _ => .bad)
        | .ok (.bl false) h2 => rest acc h2
        | _ => .bad)
      | .bad => .bad))
    (hN : ∀ acc' h' io' F' H' xs', acc'.length ≤ acc.length + 1 → CInv T K io1 n1 F1 H1 D io' h' F' H' → H' D = some (.lst xs') → VRs T K io' h'.length F' acc' xs' → RSt T K io' h'.length F' sg (wipe σ own) → WantsD T K io1 n1 F1 H1 D Q (rest acc' h') → Nx H') :
    ∀ x H', J.yld i H x H' → tGw T K ws g x (wipe σ own) H' fun σ2 H2 => wipe σ2 own = wipe σ own ∧ tB1 T K Wno t σ2 H2 fun b H3 =>
      if b = true then tE T K Wno el σ2 H3 fun y H4 => ∃ acc, H4 D = some (.lst acc) ∧ acc.length < sizeLine ∧ Nx (upd H4 D (.lst (acc ++ [y]))) else Nx H3 := by
  intro x H' hy
  obtain ⟨F', st, sr', vr⟩ := y.2 x H' hy
  obtain ⟨c1, hD'⟩ := c.go hD st sr'
  refine ⟨io, h, F', sg, v, sr', rs.step st, vr, ?_⟩
  cases eg : g v sg h with
  | bad => rw [eg] at w; exact w.elim
  | ok sg1 h1 =>
    rw [eg] at w
    intro io2 F2 H2 σ2 st2 sr2 rs2 hj hl
    obtain ⟨c2, hD2⟩ := c1.go hD' st2 sr2
    refine ⟨wipe_eq hw hj hl, io2, h1, F2, sg1, sr2, rs2, ?_⟩
    dsimp only at w
    cases et : t sg1 h1 with
    | bad => rw [et] at w; exact w.elim
    | exc cc fs hh => rw [et] at w; exact w.elim
    | ok tv h2 =>
      rw [et] at w
      cases tv with
      | bl tb =>
        intro io3 F3 H3 st3 sr3
        obtain ⟨c3, hD3⟩ := c2.go hD2 st3 sr3
        have st03 := ((st.trans sr' st2).trans sr2 st3)
        cases tb with
        | false =>
          rw [if_neg Bool.false_ne_true]
          exact hN acc h2 io3 F3 H3 xs (Nat.le_succ _) c3 hD3 (va.step st03) (rs.step st03) w
        | true =>
          rw [if_pos rfl]
          refine ⟨io3, h2, F3, sg1, sr3, rs2.step st3, ?_⟩
          dsimp only at w
          cases ee : el sg1 h2 with
          | bad => rw [ee] at w; exact w.elim
          | exc cc fs hh => rw [ee] at w; exact w.elim
          | ok yv h3 =>
            rw [ee] at w
            intro io4 F4 H4 y4 st4 sr4 vr4
            obtain ⟨c4, hD4⟩ := c3.go hD3 st4 sr4
            have st04 := st03.trans sr3 st4
            have va4 := va.step st04
            refine ⟨xs, hD4, by rw [← va.length, sizeLine_eq]; omega, ?_⟩
            exact hN (acc ++ [yv]) h3 io4 F4 _ (xs ++ [y4]) (by simp) (c4.app hD1 hD4 _) upd_same (va4.append (.cons vr4 .nil)) (rs.step st04) w
      | _ => exact w.elim
theorem comp_core {tg iter elt : Expr} {ifs : List Expr} {fi : Ix} {g : Gx} {t el : Ex} {own ws : List Nat} (hw : ∀ j, j ∈ ws → j ∈ own) {σ : L2.St} {H : Hp} {Q : VK} {io : Nat → Addr} {h : Hh} {F : Hp} {sg : Sg} (sr : SR T X.K io h F H) (rs : RSt T X.K io h.length F sg σ)
    {R : VK} (w : match xCompL own fi g t el sg h with
      | .ok acc h' => ∀ D io' F' H' xs, H D = none → Step io h.length F H io' h'.length F' H' → SR T X.K io' h' F' H' → H' D = some (.lst xs) → VRs T X.K io' h'.length F' acc xs → F' D = none → (∀ k, k < h'.length → io' k ≠ D) → R (.ref D) H'
      | .exc c fs h' => WExc T X.K io h.length F H c fs h' (fun c d H' => W c d σ H')
      | .bad => False) :
    tLc (tI T X.K W fi) (tGw T X.K ws g) (tB1 T X.K Wno t) (tE T X.K Wno el) own σ H R := by
  refine ⟨io, h, F, sg, sr, rs, ?_⟩
  unfold xCompL at w
  cases e : fi sg h with
  | bad => rw [e] at w; exact w
  | exc c fs h1 => rw [e] at w; exact w
  | ok s h1 =>
    rw [e] at w
    intro io1 F1 H1 J st1 sr1 so D hD
    have hD0 : H D = none := by
      cases q : H D with
      | none => rfl
      | some o =>
        exfalso
        by_cases hc : ∀ k, k < h.length → io k ≠ D
        · rw [st1.frame D o q hc] at hD; cases hD
        · apply hc
          intro k hk z
          obtain ⟨u, hu⟩ := sr1.there (k := k) (Nat.lt_of_lt_of_le hk st1.le)
          rw [st1.eq k hk, z, hD] at hu; cases hu
    have c0 : CInv T X.K io1 h1.length F1 H1 D io1 h1 F1 (upd H1 D (.lst [])) :=
      ⟨sr1.garb hD _, sr1.garbStep hD _, sr1.none_of hD, fun k hk z => by obtain ⟨u, hu⟩ := sr1.there hk; rw [z, hD] at hu; cases hu⟩
    have rs1 := (wipeG_ok rs own).step st1
    have wd : ∀ r : ResL, (match r with
      | .ok acc h' => ∀ D io' F' H' xs, H D = none → Step io h.length F H io' h'.length F' H' → SR T X.K io' h' F' H' → H' D = some (.lst xs) → VRs T X.K io' h'.length F' acc xs → F' D = none → (∀ k, k < h'.length → io' k ≠ D) → R (.ref D) H'
      | .exc c fs h' => WExc T X.K io h.length F H c fs h' (fun c d H' => W c d σ H')
      | .bad => False) → (∀ c fs h', r ≠ .exc c fs h') → WantsD T X.K io1 h1.length F1 H1 D R r := fun r wr hne => by
      cases r with
      | bad => exact wr
      | exc c fs h' => exact absurd rfl (hne c fs h')
      | ok acc h' => exact fun io' F' H' xs st sr' hd va fd nd => wr D io' F' H' xs hD0 (st1.trans sr1 st) sr' hd va fd nd
    cases s with
    | items vs =>
      dsimp only at w
      by_cases hvl : vs.length ≤ 1000000
      · rw [if_pos hvl] at w
        have nex : ∀ (vs acc : List Val) (h : Hh) c fs h', compItems g t el (wipeG sg own) vs acc h ≠ .exc c fs h' := by
          intro vs
          induction vs with
          | nil => intro acc h c fs h' q; cases q
          | cons v r ih =>
            intro acc h c fs h'
            unfold compItems
            split
            · split
              · split
                · exact ih _ _ c fs h'
                · exact fun q => nomatch q
              · exact ih _ _ c fs h'
              · exact fun q => nomatch q
            · exact fun q => nomatch q
        have w1 := wd _ w (nex vs [] h1)
        refine ⟨fun i m H2 => m = vs.length - i ∧ i ≤ vs.length ∧ ∃ io2 h2 F2 acc xs, acc.length ≤ i ∧ CInv T X.K io1 h1.length F1 H1 D io2 h2 F2 H2 ∧ H2 D = some (.lst xs) ∧ VRs T X.K io2 h2.length F2 acc xs ∧ RSt T X.K io2 h2.length F2 (wipeG sg own) (wipe σ own) ∧ WantsD T X.K io1 h1.length F1 H1 D R (compItems g t el (wipeG sg own) (vs.drop i) acc h2),
          ⟨vs.length, by simp, Nat.zero_le _, io1, h1, F1, [], [], Nat.le_refl _, c0, upd_same, .nil, rs1, by simpa using w1⟩, ?_⟩
        rintro i m H2 ⟨rfl, hi, io2, h2, F2, acc, xs, hacc, c2, hD2, va, rs2, w2⟩
        have y := so i io2 h2 F2 H2 c2.sr c2.st.le c2.st.eq c2.st.phi hi
        by_cases hlt : i < vs.length
        · have ev : vs[i]? = some vs[i] := by simp [hlt]
          rw [ev] at y
          rw [List.drop_eq_getElem_cons hlt] at w2
          unfold compItems at w2
          refine .inr ⟨y.1, fun H3 => ∃ io2 h2 F2 acc xs, acc.length ≤ i + 1 ∧ CInv T X.K io1 h1.length F1 H1 D io2 h2 F2 H3 ∧ H3 D = some (.lst xs) ∧ VRs T X.K io2 h2.length F2 acc xs ∧ RSt T X.K io2 h2.length F2 (wipeG sg own) (wipe σ own) ∧ WantsD T X.K io1 h1.length F1 H1 D R (compItems g t el (wipeG sg own) (vs.drop (i + 1)) acc h2),
            fun H' n' => ⟨vs.length - (i + 1), by omega, rfl, hlt, n'⟩, ?_⟩
          refine comp_turn (rest := fun acc h => compItems g t el (wipeG sg own) (vs.drop (i + 1)) acc h) hw hD c2 hD2 va rs2 (by omega) y w2 fun acc' h' io' F' H' xs' hl c' hd' va' rs' w' => ⟨io', h', F', acc', xs', by omega, c', hd', va', rs', w'⟩
        · have : i = vs.length := by omega
          subst this
          rw [List.getElem?_eq_none (Nat.le_refl _)] at y
          rw [List.drop_length] at w2
          exact .inl ⟨y, w2 io2 F2 H2 xs c2.st c2.sr hD2 va c2.fd c2.nd⟩
      · rw [if_neg hvl] at w; exact w.elim
    | ref k =>
      dsimp only at w
      have nex : ∀ (m i : Nat) (acc : List Val) (h : Hh) c fs h', compRef g t el (wipeG sg own) k m i acc h ≠ .exc c fs h' := by
        intro m
        induction m with
        | zero => intro i acc h c fs h' q; cases q
        | succ m ih =>
          intro i acc h c fs h'
          unfold compRef
          split
          · split
            · exact fun q => nomatch q
            · split
              · split
                · split
                  · exact ih _ _ _ c fs h'
                  · exact fun q => nomatch q
                · exact ih _ _ _ c fs h'
                · exact fun q => nomatch q
              · exact fun q => nomatch q
          · exact fun q => nomatch q
      have w1 := wd _ w (nex 1000000 0 [] h1)
      refine ⟨fun i m H2 => m + i = 1000000 ∧ ∃ io2 h2 F2 acc xs, acc.length ≤ i ∧ CInv T X.K io1 h1.length F1 H1 D io2 h2 F2 H2 ∧ H2 D = some (.lst xs) ∧ VRs T X.K io2 h2.length F2 acc xs ∧ RSt T X.K io2 h2.length F2 (wipeG sg own) (wipe σ own) ∧ WantsD T X.K io1 h1.length F1 H1 D R (compRef g t el (wipeG sg own) k m i acc h2),
        ⟨1000000, rfl, io1, h1, F1, [], [], Nat.le_refl _, c0, upd_same, .nil, rs1, w1⟩, ?_⟩
      rintro i m H2 ⟨hm, io2, h2, F2, acc, xs, hacc, c2, hD2, va, rs2, w2⟩
      cases m with
      | zero => exact w2.elim
      | succ m =>
        unfold compRef at w2
        cases ek : h2[k]? with
        | none => rw [ek] at w2; exact w2.elim
        | some ob =>
          rw [ek] at w2
          cases ob with
          | ins cc vs => exact w2.elim
          | lst ys =>
            have y := so.2 i io2 h2 F2 H2 ys c2.sr c2.st.le c2.st.eq c2.st.phi ek
            dsimp only at w2
            cases ev : ys[i]? with
            | none => rw [ev] at w2 y; exact .inl ⟨y, w2 io2 F2 H2 xs c2.st c2.sr hD2 va c2.fd c2.nd⟩
            | some v =>
              rw [ev] at w2 y
              dsimp only at w2
              refine .inr ⟨y.1, fun H3 => ∃ io2 h2 F2 acc xs, acc.length ≤ i + 1 ∧ CInv T X.K io1 h1.length F1 H1 D io2 h2 F2 H3 ∧ H3 D = some (.lst xs) ∧ VRs T X.K io2 h2.length F2 acc xs ∧ RSt T X.K io2 h2.length F2 (wipeG sg own) (wipe σ own) ∧ WantsD T X.K io1 h1.length F1 H1 D R (compRef g t el (wipeG sg own) k m (i + 1) acc h2),
                fun H' n' => ⟨m, Nat.lt_succ_self _, by omega, n'⟩, ?_⟩
              refine comp_turn (rest := fun acc h => compRef g t el (wipeG sg own) k m (i + 1) acc h) hw hD c2 hD2 va rs2 (by omega) y w2 fun acc' h' io' F' H' xs' hl c' hd' va' rs' w' => ⟨io', h', F', acc', xs', by omega, c', hd', va', rs', w'⟩
/-- the list at D as a new mutable object; as one that never changes -/
theorem CInv.push {K : PySem.W.Frag} {io1 io : Nat → Addr} {n1 : Nat} {F1 H1 F H : Hp} {D : Addr} {h : Hh} {xs : List V} {acc : List Val} (hD1 : H1 D = none) (st : Step io1 n1 F1 H1 io h.length F H) (sr : SR T K io h F H) (hD : H D = some (.lst xs)) (va : VRs T K io h.length F acc xs) (fd : F D = none) (nd : ∀ k, k < h.length → io k ≠ D) :
    Step io1 n1 F1 H1 (ioPush io h.length D) (h ++ [Obj.lst acc]).length F H ∧ SR T K (ioPush io h.length D) (h ++ [Obj.lst acc]) F H ∧ VR T K (ioPush io h.length D) (h ++ [Obj.lst acc]).length F (.ref h.length) (.ref D) := by
  have len : (h ++ [Obj.lst acc]).length = h.length + 1 := by simp
  refine ⟨⟨by rw [len]; exact Nat.le_succ_of_le st.le, fun k hk => (ioPush_lt io D (Nat.lt_of_lt_of_le hk st.le)).trans (st.eq k hk), st.phi, st.frame, fun k a b => ?_, st.fresh⟩, ⟨sr.sub, fun k hk => ?_, fun j k hj hk e => ?_, fun k o e => ?_⟩, ?_⟩
  · rw [len] at b
    by_cases q : k = h.length
    · subst q; rw [ioPush_at]; exact hD1
    · rw [ioPush_lt io D (by omega)]; exact st.new k a (by omega)
  · rw [len] at hk
    by_cases q : k = h.length
    · subst q; rw [ioPush_at]; exact fd
    · rw [ioPush_lt io D (by omega)]; exact sr.dis k (by omega)
  · rw [len] at hj hk
    by_cases qj : j = h.length
    · by_cases qk : k = h.length
      · rw [qj, qk]
      · rw [qj, ioPush_at, ioPush_lt io D (by omega)] at e; exact absurd e.symm (nd k (by omega))
    · by_cases qk : k = h.length
      · rw [qk, ioPush_at, ioPush_lt io D (by omega)] at e; exact absurd e (nd j (by omega))
      · rw [ioPush_lt io D (by omega), ioPush_lt io D (by omega)] at e; exact sr.inj j k (by omega) (by omega) e
  · rw [len]
    by_cases q : k < h.length
    · rw [List.getElem?_append_left q] at e
      rw [ioPush_lt io D q]
      exact (sr.obj k o e).mono (Nat.le_succ _) (fun j hj => ioPush_lt io D hj) (fun _ _ e => e) (fun _ _ e => e)
    · rw [List.getElem?_append_right (by omega)] at e
      by_cases q2 : k = h.length
      · subst q2
        simp at e
        subst e
        rw [ioPush_at]
        exact ⟨xs, hD, va.mono (Nat.le_succ _) (fun j hj => ioPush_lt io D hj) (fun _ _ e => e)⟩
      · rw [List.getElem?_eq_none (by simp; omega)] at e; cases e
  · have vp : VR T K (ioPush io h.length D) (h ++ [Obj.lst acc]).length F (.ref h.length) (.ref (ioPush io h.length D h.length)) := .ref _ (by simp)
    rw [ioPush_at] at vp
    exact vp
theorem CInv.froze {K : PySem.W.Frag} {io1 io : Nat → Addr} {n1 : Nat} {F1 H1 F H : Hp} {D : Addr} {h : Hh} {o : HO} (hD1 : H1 D = none) (st : Step io1 n1 F1 H1 io h.length F H) (sr : SR T K io h F H) (hD : H D = some o) (fd : F D = none) (nd : ∀ k, k < h.length → io k ≠ D) :
    Step io1 n1 F1 H1 io h.length (upd F D o) H ∧ SR T K io h (upd F D o) H ∧ (∀ b u, F b = some u → upd F D o b = some u) := by
  have mn := upd_sub (o := o) F fd
  refine ⟨⟨st.le, st.eq, fun b u e => mn b u (st.phi b u e), st.frame, st.new, fun b u e => ?_⟩, ⟨fun b u e => ?_, fun k hk => ?_, sr.inj, fun k ob e => (sr.obj k ob e).mono (Nat.le_refl _) (fun _ _ => rfl) mn (fun _ _ e => e)⟩, mn⟩
  · by_cases hb : b = D
    · subst hb; exact .inr (.inl hD1)
    · rw [upd_ne hb] at e; exact st.fresh b u e
  · by_cases hb : b = D
    · subst hb; rw [upd_same] at e; cases e; exact hD
    · rw [upd_ne hb] at e; exact sr.sub b u e
  · rw [upd_ne (nd k hk)]; exact sr.dis k hk
theorem je_lc {elt tg iter : Expr} {ifs : List Expr} {scope : Scope} (own : List (Str × Nat)) {fi : Ix} {g : Gx} {t el : Ex} {ws : List Nat} (hc : X.calm = true) (hN : X.N.Nodup) (hi : JI T X W tg iter fi) (ok : BlkOk X.N X.env.scope scope own) (hw : ∀ j, j ∈ ws → j ∈ own.map (·.2))
    (hg : ∀ (s : Shared) (H : Hp) (C : Addr) (cl : List (Str × Addr)) (fp : List Addr), JGw T (X.blk s H scope (compEnvC scope cl C X.env) fp) ws tg g) (ht : ∀ (s : Shared) (H : Hp) (C : Addr) (cl : List (Str × Addr)) (fp : List Addr), JTs T (X.blk s H scope (compEnvC scope cl C X.env) fp) Wno ifs t)
    (he : ∀ (s : Shared) (H : Hp) (C : Addr) (cl : List (Str × Addr)) (fp : List Addr), JE T (X.blk s H scope (compEnvC scope cl C X.env) fp) Wno elt el) (hs : ∀ x, foldedSetIterable iter X.env x = pure x := by intro _; rfl) :
    JE T X W (.ListComp elt [⟨tg, iter, ifs, 0⟩] scope pos) (xComp (own.map (·.2)) fi g t el) := by
  refine pe_imp (pe_lc hc hN hi ok hg ht he hs) fun σ H Q ⟨io, h, F, sg, sr, rs, w⟩ => comp_core (tg := tg) (iter := iter) (elt := elt) (ifs := ifs) (Q := Q) hw sr rs ?_
  unfold xComp at w
  cases e : xCompL (own.map (·.2)) fi g t el sg h with
  | bad => rw [e] at w; exact w
  | exc c fs h' => rw [e] at w; exact w
  | ok acc h' =>
    rw [e] at w
    intro D io' F' H' xs hD st sr' hd va fd nd
    obtain ⟨s1, s2, s3⟩ := CInv.push hD st sr' hd va fd nd
    exact w _ F' H' _ s1 s2 s3
theorem je_lcF {elt tg iter : Expr} {ifs : List Expr} {scope : Scope} (own : List (Str × Nat)) {fi : Ix} {g : Gx} {t el : Ex} {ws : List Nat} (hc : X.calm = true) (hN : X.N.Nodup) (hi : JI T X W tg iter fi) (ok : BlkOk X.N X.env.scope scope own) (hw : ∀ j, j ∈ ws → j ∈ own.map (·.2))
    (hg : ∀ (s : Shared) (H : Hp) (C : Addr) (cl : List (Str × Addr)) (fp : List Addr), JGw T (X.blk s H scope (compEnvC scope cl C X.env) fp) ws tg g) (ht : ∀ (s : Shared) (H : Hp) (C : Addr) (cl : List (Str × Addr)) (fp : List Addr), JTs T (X.blk s H scope (compEnvC scope cl C X.env) fp) Wno ifs t)
    (he : ∀ (s : Shared) (H : Hp) (C : Addr) (cl : List (Str × Addr)) (fp : List Addr), JE T (X.blk s H scope (compEnvC scope cl C X.env) fp) Wno elt el) (hs : ∀ x, foldedSetIterable iter X.env x = pure x := by intro _; rfl) :
    JE T X W (.ListComp elt [⟨tg, iter, ifs, 0⟩] scope pos) (xCompF (own.map (·.2)) fi g t el) := by
  refine pe_imp (pe_lc hc hN hi ok hg ht he hs) fun σ H Q ⟨io, h, F, sg, sr, rs, w⟩ => comp_core (tg := tg) (iter := iter) (elt := elt) (ifs := ifs) (Q := Q) hw sr rs ?_
  unfold xCompF at w
  cases e : xCompL (own.map (·.2)) fi g t el sg h with
  | bad => rw [e] at w; exact w
  | exc c fs h' => rw [e] at w; exact w
  | ok acc h' =>
    rw [e] at w
    intro D io' F' H' xs hD st sr' hd va fd nd
    obtain ⟨s1, s2, mn⟩ := CInv.froze hD st sr' hd fd nd
    exact w _ _ H' _ s1 s2 (.lst (SqL.of upd_same) (va.mono (Nat.le_refl _) (fun _ _ => rfl) mn))
end
end Py

namespace Py
open PySem PySem.Spec PyProof.Rows L2

/-! ### what is known of a class of the text -/
structure Cf (T : Tb) (K : PySem.W.Frag) (c : Nat) : Prop where
  cls : Cls K (He.ga K (T.cn c))
  nd : (T.fn c).Nodup
  no : ∀ f, f ∈ T.fn c → NoAttr K (He.ga K (T.cn c)) f
  few : (T.fn c).length < 1000
theorem zip_lookup {f : Str} {v : V} : ∀ {ns : List Str} {xs : List V} {i : Nat}, ns.Nodup → ns[i]? = some f → xs[i]? = some v → (ns.zip xs).lookup f = some v
  | [], _, _, _, h, _ => by simp at h
  | _ :: _, [], _, _, _, h => by simp at h
  | n :: ns, x :: xs, 0, nd, h1, h2 => by
    simp at h1 h2
    subst h1 h2
    simp [List.zip_cons_cons, List.lookup]
  | n :: ns, x :: xs, i + 1, nd, h1, h2 => by
    have h1' : ns[i]? = some f := by simpa using h1
    have h2' : xs[i]? = some v := by simpa using h2
    have hne : f ≠ n := fun z => by
      subst z
      exact (List.nodup_cons.mp nd).1 (List.mem_of_getElem? h1')
    have hb : (f == n) = false := beq_eq_false_iff_ne.mpr hne
    simp only [List.zip_cons_cons, List.lookup, hb]
    exact zip_lookup (List.nodup_cons.mp nd).2 h1' h2'
theorem zip_none {f : Str} : ∀ {ns : List Str} {xs : List V}, f ∉ ns → (ns.zip xs).lookup f = none
  | [], _, _ => rfl
  | _ :: _, [], _ => rfl
  | n :: ns, x :: xs, h => by
    have hb : (f == n) = false := beq_eq_false_iff_ne.mpr fun z => h (by simp [z])
    simp only [List.zip_cons_cons, List.lookup, hb]
    exact zip_none fun z => h (List.mem_cons_of_mem _ z)
theorem putF_zip_new {f : Str} {y : V} : ∀ {ns : List Str} {xs : List V}, xs.length = ns.length → f ∉ ns → putF f y (ns.zip xs) = (ns ++ [f]).zip (xs ++ [y])
  | [], [], _, _ => rfl
  | n :: ns, x :: xs, hl, h => by
    have hne : n ≠ f := fun z => h (by simp [z])
    have ih := putF_zip_new (f := f) (y := y) (ns := ns) (xs := xs) (by simpa using hl) fun z => h (List.mem_cons_of_mem _ z)
    show (if n = f then _ else (n, x) :: putF f y (ns.zip xs)) = _
    rw [if_neg hne, ih]
    rfl
  | [], _ :: _, hl, _ => by simp at hl
  | _ :: _, [], hl, _ => by simp at hl
theorem putF_zip_old {f : Str} {y : V} : ∀ {ns : List Str} {xs : List V} {i : Nat}, ns.Nodup → ns[i]? = some f → i < xs.length → putF f y (ns.zip xs) = ns.zip (xs.set i y)
  | [], _, _, _, h, _ => by simp at h
  | _ :: _, [], _, _, _, h => by simp at h
  | n :: ns, x :: xs, 0, nd, h1, h2 => by
    simp at h1
    subst h1
    show (if n = n then (n, y) :: ns.zip xs else _) = _
    rw [if_pos rfl]; rfl
  | n :: ns, x :: xs, i + 1, nd, h1, h2 => by
    have h1' : ns[i]? = some f := by simpa using h1
    have hne : n ≠ f := fun z => by
      subst z
      exact (List.nodup_cons.mp nd).1 (List.mem_of_getElem? h1')
    have ih := putF_zip_old (y := y) (List.nodup_cons.mp nd).2 h1' (show i < xs.length by simpa using h2)
    show (if n = f then _ else (n, x) :: putF f y (ns.zip xs)) = _
    rw [if_neg hne, ih]; rfl

/-! ### attributes -/
def AttOk (T : Tb) (K : PySem.W.Frag) (f : Str) (l : List (Nat × Nat)) : Prop := ∀ c i, l.lookup c = some i → (T.fn c)[i]? = some f ∧ Cf T K c
theorem AttOk.nil {T : Tb} {K : PySem.W.Frag} {f : Str} : AttOk T K f [] := fun c i e => by cases e
theorem AttOk.cons {T : Tb} {K : PySem.W.Frag} {f : Str} {l : List (Nat × Nat)} {c i : Nat} (h : (T.fn c)[i]? = some f) (k : Cf T K c) (r : AttOk T K f l) : AttOk T K f ((c, i) :: l) := fun c' i' e => by
  by_cases q : c' = c
  · subst q; simp [List.lookup] at e; subst e; exact ⟨h, k⟩
  · have hb : (c' == c) = false := beq_eq_false_iff_ne.mpr q
    simp only [List.lookup, hb] at e
    exact r c' i' e
def gAttr (l : List (Nat × Nat)) : Hh → Val → Option Val := fun h v => match v with
  | .obj c fs => (match l.lookup c with
    | some i => fs[i]?
    | none => none)
  | .ref k => (match h[k]? with
    | some (.ins c fs) => (match l.lookup c with
      | some i => fs[i]?
      | none => none)
    | _ => none)
  | _ => none
section
variable {T : Tb} {X : Cx} {W : WX} {a b c e o : Expr} {fa fb fc fe fo : Ex} {pos pos' apos : Pos} {f : Str}
theorem je_attr {l : List (Nat × Nat)} (he : JE T X W e fe) (hl : AttOk T X.K f l) (hb : attributeBase e f X.env (eval e X.env) = eval e X.env := by rfl) : JE T X W (.Attribute e f pos) (xUn (gAttr l) fe) := by
  refine pe_imp (pe_fld he hb) fun σ H Q ⟨io, h, F, sg, sr, rs, w⟩ => ⟨io, h, F, sg, sr, rs, Wants.bind w fun v h1 io1 F1 H1 x st sr1 vr w1 => ?_⟩
  obtain ⟨z, ez, w2⟩ := wants_ofO w1
  unfold gAttr at ez
  cases vr with
  | @obj cc vs aa dx xs q qd r hlen =>
    dsimp only at ez
    cases el : l.lookup cc with
    | none => rw [el] at ez; cases ez
    | some i =>
      rw [el] at ez
      obtain ⟨hf, k⟩ := hl cc i el
      obtain ⟨x', ex, rx⟩ := r.get ez
      exact ⟨aa, _, dx, _, x', rfl, sr1.sub _ _ q, k.cls, k.no f (List.mem_of_getElem? hf), zip_lookup k.nd hf ex, w2 io1 F1 H1 x' .refl sr1 rx⟩
  | ref k hk =>
    dsimp only at ez
    cases ek : h1[k]? with
    | none => rw [ek] at ez; cases ez
    | some ob =>
      rw [ek] at ez
      cases ob with
      | lst vs => cases ez
      | ins cc vs =>
        dsimp only at ez
        cases el : l.lookup cc with
        | none => rw [el] at ez; cases ez
        | some i =>
          rw [el] at ez
          obtain ⟨hf, kk⟩ := hl cc i el
          obtain ⟨dx, xs, ea, ed, r, hlen⟩ := sr1.obj k _ ek
          obtain ⟨x', ex, rx⟩ := r.get ez
          have hi : i < vs.length := (List.getElem?_eq_some_iff.mp ez).1
          have hf' : ((T.fn cc).take vs.length)[i]? = some f := by rw [List.getElem?_take_of_lt hi]; exact hf
          exact ⟨io1 k, _, dx, _, x', rfl, ea, kk.cls, kk.no f (List.mem_of_getElem? hf), zip_lookup (kk.nd.sublist (List.take_sublist _ _)) hf' ex, w2 io1 F1 H1 x' .refl sr1 rx⟩
  | _ => cases ez
/-- self.f = value, self a mutable object -/
def xSetAttr (l : List (Nat × Nat)) (v o : Ex) : Sx := fun sg h => (v sg h).bindS sg fun y h1 => (o sg h1).bindS sg fun ov h2 => match ov with
  | .ref k => (match h2[k]? with
    | some (.ins c fs) => (match l.lookup c with
      | some i => if i < fs.length then .next sg (h2.set k (.ins c (fs.set i y))) else if i = fs.length then .next sg (h2.set k (.ins c (fs ++ [y]))) else .bad
      | none => .bad)
    | _ => .bad)
  | _ => .bad
theorem take_succ_at {ns : List Str} {f : Str} {i : Nat} (h : ns[i]? = some f) : ns.take (i + 1) = ns.take i ++ [f] := by
  rw [List.take_add_one, h]; rfl
theorem js_setattr {l : List (Nat × Nat)} (hl : AttOk T X.K f l) (hv : JE T X W e fe) (ho : JE T X W o fo) (hs : swapsWith e (some (.Attribute o f pos')) pos.line X.env = pure false := by rfl) : JS T X W (.Assign [.Attribute o f pos'] e pos) (xSetAttr l fe fo) := by
  refine ps_imp (ps_fld ho hv hs) fun D σ H ⟨io, h, F, sg, sr, rs, w⟩ => ⟨io, h, F, sg, sr, rs, WantsS.ofRes rs w fun y h1 io1 F1 H1 yx st sr1 vy w1 => ⟨io1, h1, F1, sg, sr1, rs.step st, WantsS.ofRes (rs.step st) w1 fun ov h2 io2 F2 H2 ox st2 sr2 vo w2 => ?_⟩⟩
  cases vo with
  | ref k hk =>
    dsimp only at w2
    cases ek : h2[k]? with
    | none => rw [ek] at w2; exact w2.elim
    | some ob =>
      rw [ek] at w2
      cases ob with
      | lst vs => exact w2.elim
      | ins cc vs =>
        dsimp only at w2
        cases el : l.lookup cc with
        | none => rw [el] at w2; exact w2.elim
        | some i =>
          rw [el] at w2
          dsimp only at w2
          obtain ⟨hf, kk⟩ := hl cc i el
          obtain ⟨dx, xs, ea, ed, r, hlen⟩ := sr2.obj k _ ek
          have xl := r.length
          have hno : ∀ z, H2 (io2 k) ≠ some (.own z) := fun z q => by rw [ea] at q; cases q
          have nod : dx ≠ io2 k := fun z => by rw [z, ea] at ed; cases ed
          have hsm : (((T.fn cc).take vs.length).zip xs).length < 1000 := by
            have := kk.few
            rw [List.length_zip, List.length_take]
            omega
          have vy2 := vy.step st2
          have rs2 := (rs.step st).step st2
          have tk : ∀ (ys : List Val) (zs : List V), VRs T X.K io2 h2.length F2 ys zs → ys.length ≤ (T.fn cc).length → (((T.fn cc).take vs.length).zip xs).length < 1000 → putF f yx (((T.fn cc).take vs.length).zip xs) = ((T.fn cc).take ys.length).zip zs → WantsS T X.K io2 h2.length F2 H2 W D (.next sg (h2.set k (.ins cc ys))) → 
              ∃ a C dx' fs, V.ref (io2 k) = .ref a ∧ H2 a = some (.ins C dx' fs) ∧ Cls X.K C ∧ NoAttr X.K C f ∧ fs.length < 1000 ∧ D.nx σ (upd H2 a (.ins C dx' (putF f yx fs))) := by
            intro ys zs ry hy hsm hp wn
            refine ⟨io2 k, _, dx, _, rfl, ea, kk.cls, kk.no f (List.mem_of_getElem? hf), hsm, ?_⟩
            have st3 : Step io2 h2.length F2 H2 io2 (h2.set k (.ins cc ys)).length F2 (upd H2 (io2 k) (.ins (He.ga X.K (T.cn cc)) dx (putF f yx (((T.fn cc).take vs.length).zip xs)))) := sr2.writeStep hk
            refine wn io2 F2 _ σ st3 (sr2.write hk hno ⟨dx, zs, by rw [upd_same, hp], by rw [upd_ne nod]; exact ed, ry, hy⟩) ?_
            have := rs2.step st3
            exact this
          by_cases hi : i < vs.length
          · rw [if_pos hi] at w2
            have hf' : ((T.fn cc).take vs.length)[i]? = some f := by rw [List.getElem?_take_of_lt hi]; exact hf
            exact tk (vs.set i y) (xs.set i yx) (r.set vy2 i) (by simpa using hlen) hsm (by rw [List.length_set]; exact putF_zip_old (kk.nd.sublist (List.take_sublist _ _)) hf' (by omega)) w2
          · rw [if_neg hi] at w2
            by_cases hi2 : i = vs.length
            · rw [if_pos hi2] at w2
              subst hi2
              have hlt : vs.length < (T.fn cc).length := (List.getElem?_eq_some_iff.mp hf).1
              have hnot : f ∉ (T.fn cc).take vs.length := fun hm => by
                obtain ⟨j, hj, ej⟩ := List.mem_iff_getElem.mp hm
                have hj' : j < vs.length := by simp at hj; omega
                have e1 : (T.fn cc)[j]? = some f := by
                  rw [← List.getElem?_take_of_lt hj', List.getElem?_eq_getElem hj, ej]
                have := nodup_ix kk.nd e1 hf
                omega
              exact tk (vs ++ [y]) (xs ++ [yx]) (r.append (.cons vy2 .nil)) (by simp; omega) hsm (by
                rw [putF_zip_new (by rw [List.length_take]; omega) hnot, List.length_append, List.length_singleton, take_succ_at hf]) w2
            · rw [if_neg hi2] at w2; exact w2.elim
  | _ => exact w2.elim
end
end Py

namespace Py
open PySem PySem.Spec PyProof.Rows L2

/-! ### the receiver: an object of the class c, frozen or mutable -/
def isA (c : Nat) (h : Hh) : Val → Bool
  | .obj c' _ => c' == c
  | .ref k => (match h[k]? with
    | some (.ins c' _) => c' == c
    | _ => false)
  | _ => false
section
variable {T : Tb} {K : PySem.W.Frag} {io : Nat → Addr} {F H : Hp} {h : Hh} {v : Val} {x : V} {c : Nat}
theorem isA_ok (sr : SR T K io h F H) (vr : VR T K io h.length F v x) (e : isA c h v = true) (m : Str) (hm : m ∉ T.fn c) : ∃ a dx fs, x = .ref a ∧ H a = some (.ins (He.ga K (T.cn c)) dx fs) ∧ fs.lookup m = none := by
  unfold isA at e
  cases vr with
  | @obj cc vs a dx xs q qd r hl =>
    have : cc = c := beq_iff_eq.mp e
    subst this
    exact ⟨a, dx, _, rfl, sr.sub _ _ q, zip_none hm⟩
  | ref k hk =>
    dsimp only at e
    cases ek : h[k]? with
    | none => rw [ek] at e; cases e
    | some ob =>
      rw [ek] at e
      cases ob with
      | lst vs => cases e
      | ins cc vs =>
        have : cc = c := beq_iff_eq.mp e
        subst this
        obtain ⟨dx, xs, ea, ed, r, hlen⟩ := sr.obj k _ ek
        exact ⟨io k, dx, _, rfl, ea, zip_none fun z => hm (List.mem_of_mem_take z)⟩
  | _ => cases e
end

/-! ### method calls -/
section
variable {T : Tb} {X : Cx} {W : WX} {e o : Expr} {es : List Expr} {fo : Ex} {fl : Lx} {pos apos : Pos} {ps : List Str} {k : Nat} {f : Fx} {m : Str} {c : Nat} {a : Addr} {fd : FuncData} {dvs : List V} {ds : List Value} {CXq : CXT} {sp : Sp} {E : L2.St → XK}
def tMethS (C : Addr) (m : Str) (sp : Sp) (dvs : List V) (E : L2.St → XK) (ta : TE) (t : TA) : TE := fun σ H Q => ta σ H fun x H1 => ∃ a dx fs, x = .ref a ∧ H1 a = some (.ins C dx fs) ∧ fs.lookup m = none ∧ t σ H1 fun vs H2 => sp (x :: (vs ++ dvs)) H2 Q (E σ)
theorem pe_methS {pl : Sem Bool} {C : Addr} {ta : TE} {t : TA} (he : PE X o ta) (cl : Cls X.K C) (hm : Meth X.K C m a) (G : FnOk X.prog X.w X.K X.mg X.base CXq k a fd ps sp) (hr : Room k X.A) (hb : Binds X.K fd ps ds) (hd : Vals dvs ds) (hx : ∀ σ, PassesAt CXq X σ (E σ)) (ha : PA X (e :: es) t)
    (hst : starEach (e :: es) X.env = (false, eval e X.env) :: starEach es X.env) (hpl : (backTo pos (starEach es X.env)).any (·.1) = false)
    (ht : eval (.Call (.Attribute o m apos) (e :: es) [] pos) X.env = (eval o X.env >>= fun ov => standAt apos.atName >>= fun _ => holding [ov] (getMethod ov m pl) >>= fun p => callWith pos p.1 p.2 (backTo pos (starEach (e :: es) X.env)) (backToKw pos (keywordEach [] X.env)))) :
    PE X (.Call (.Attribute o m apos) (e :: es) [] pos) (tMethS C m sp dvs E ta t) := by
  refine ⟨fun pins s σ H Q I hq => PySem.W.methodCall_KW (pl := pl) (thn (he.run pins s σ H _ I hq) ?_) ht⟩
  rintro u s1 ⟨x, H1, I1, rx, q, dx, fs, rfl, ea, l, q1⟩
  cases (show u = Value.ref q from rx)
  exact getmeth_ok I1 ea cl hm l (PySem.W.callWith_K (first := [.ref q]) (h₀ := X.base) I.ok.mod.kin hm.kp (thn (ha.run pos pins s1 σ H1 _ I1 q1) fun us s2 ⟨vs, H2, I2, r, q2⟩ => ⟨I2.kIn, run_fnSD (us := .ref q :: us) (vs := .ref q :: vs) G hr hb hd (hx σ) I2 (.cons rfl r) q2⟩) hst hpl)
theorem pe_methS0 {pl : Sem Bool} {C : Addr} {ta : TE} (he : PE X o ta) (cl : Cls X.K C) (hm : Meth X.K C m a) (G : FnOk X.prog X.w X.K X.mg X.base CXq k a fd ps sp) (hr : Room k X.A) (hb : Binds X.K fd ps ds) (hd : Vals dvs ds) (hx : ∀ σ, PassesAt CXq X σ (E σ))
    (ht : eval (.Call (.Attribute o m apos) [] [] pos) X.env = (eval o X.env >>= fun ov => standAt apos.atName >>= fun _ => holding [ov] (getMethod ov m pl) >>= fun p => callWith pos p.1 p.2 (backTo pos (starEach [] X.env)) (backToKw pos (keywordEach [] X.env)))) :
    PE X (.Call (.Attribute o m apos) [] [] pos) (tMethS C m sp dvs E ta tNil) := by
  refine ⟨fun pins s σ H Q I hq => PySem.W.methodCall_KW (pl := pl) (thn (he.run pins s σ H _ I hq) ?_) ht⟩
  rintro u s1 ⟨x, H1, I1, rx, q, dx, fs, rfl, ea, l, q1⟩
  cases (show u = Value.ref q from rx)
  exact getmeth_ok I1 ea cl hm l (PySem.W.callWith_K0 (first := [.ref q]) I1.kIn hm.kp (run_fnSD (us := [.ref q]) (vs := [.ref q]) G hr hb hd (hx σ) I1 (.cons rfl .nil) q1))
def xMethP (T : Tb) (c : Nat) (f : Fx) (dfl : List Val) (o : Ex) (l : Lx) : Ex := fun sg h => (o sg h).bind fun ov h1 => if isA c h1 ov = true then (l sg h1).bind fun as h2 => callP T f (ov :: (as ++ dfl)) h2 else .bad
def xMethA (c : Nat) (f : Fx) (dfl : List Val) (o : Ex) (l : Lx) : Ex := fun sg h => (o sg h).bind fun ov h1 => if isA c h1 ov = true then (l sg h1).bind fun as h2 => f h2 (ov :: (as ++ dfl)) else .bad
theorem je_methP {pl : Sem Bool} (ho : JE T X W o fo) (cf : Cf T X.K c) (hm : Meth X.K (He.ga X.K (T.cn c)) m a) (hmf : m ∉ T.fn c) (G : FnOk X.prog X.w X.K X.mg X.base (CX X.prog X.w) k a fd ps (spF T X.K f)) (hr : Room k X.A) {dfl : List Val} (hD : Dfl T X.K dfl dvs) (hb : Binds X.K fd ps ds) (hd : Vals dvs ds) (tk : Takes X W) (ha : JA T X W (e :: es) fl)
    (hst : starEach (e :: es) X.env = (false, eval e X.env) :: starEach es X.env := by rfl) (hpl : (backTo pos (starEach es X.env)).any (·.1) = false := by rfl)
    (ht : eval (.Call (.Attribute o m apos) (e :: es) [] pos) X.env = (eval o X.env >>= fun ov => standAt apos.atName >>= fun _ => holding [ov] (getMethod ov m pl) >>= fun p => callWith pos p.1 p.2 (backTo pos (starEach (e :: es) X.env)) (backToKw pos (keywordEach [] X.env))) := by rfl) :
    JE T X W (.Call (.Attribute o m apos) (e :: es) [] pos) (xMethP T c f dfl fo fl) := by
  refine pe_imp (pe_methS (E := fun σ c d H => W c d σ H) (sp := spF T X.K f) ho cf.cls hm G hr hb hd (fun σ => passAt tk σ) ha hst hpl ht) fun σ H Q ⟨io, h, F, sg, sr, rs, w⟩ => ⟨io, h, F, sg, sr, rs, Wants.bind w fun ov h1 io1 F1 H1 x st sr1 vr w1 => ?_⟩
  by_cases hi : isA c h1 ov = true
  · rw [if_pos hi] at w1
    obtain ⟨a, dx, fs, ex, ea, l⟩ := isA_ok sr1 vr hi m hmf
    exact ⟨a, dx, fs, ex, ea, l, io1, h1, F1, sg, sr1, rs.step st, Wants.bindOfL w1 fun vs h2 io2 F2 H2 xs st2 sr2 vrs w2 => callP_ok sr2 (.cons (vr.step st2) (vrs.append (hD _ _ _))) w2⟩
  · rw [if_neg hi] at w1; exact w1.elim
theorem je_methP0 {pl : Sem Bool} (ho : JE T X W o fo) (cf : Cf T X.K c) (hm : Meth X.K (He.ga X.K (T.cn c)) m a) (hmf : m ∉ T.fn c) (G : FnOk X.prog X.w X.K X.mg X.base (CX X.prog X.w) k a fd ps (spF T X.K f)) (hr : Room k X.A) {dfl : List Val} (hD : Dfl T X.K dfl dvs) (hb : Binds X.K fd ps ds) (hd : Vals dvs ds) (tk : Takes X W)
    (ht : eval (.Call (.Attribute o m apos) [] [] pos) X.env = (eval o X.env >>= fun ov => standAt apos.atName >>= fun _ => holding [ov] (getMethod ov m pl) >>= fun p => callWith pos p.1 p.2 (backTo pos (starEach [] X.env)) (backToKw pos (keywordEach [] X.env))) := by rfl) :
    JE T X W (.Call (.Attribute o m apos) [] [] pos) (xMethP T c f dfl fo xNil) := by
  refine pe_imp (pe_methS0 (E := fun σ c d H => W c d σ H) (sp := spF T X.K f) ho cf.cls hm G hr hb hd (fun σ => passAt tk σ) ht) fun σ H Q ⟨io, h, F, sg, sr, rs, w⟩ => ⟨io, h, F, sg, sr, rs, Wants.bind w fun ov h1 io1 F1 H1 x st sr1 vr w1 => ?_⟩
  by_cases hi : isA c h1 ov = true
  · rw [if_pos hi] at w1
    obtain ⟨a, dx, fs, ex, ea, l⟩ := isA_ok sr1 vr hi m hmf
    exact ⟨a, dx, fs, ex, ea, l, callP_ok sr1 (.cons vr (hD _ _ _)) w1⟩
  · rw [if_neg hi] at w1; exact w1.elim

/-! ### a new object of an own class: made, then never changed -/
def makeP (T : Tb) (c : Nat) (f : Fx) (as : List Val) (h : Hh) : Res := if (h.isEmpty || pureVs as) = true then (match f [.ins c []] (.ref 0 :: as) with
  | .ok _ h' => .ofO (frz T h' 30 (.ref 0)) h
  | .exc c fs h' => (match frzTops T h' fs with
    | some fs' => .exc c fs' h
    | none => .bad)
  | .bad => .bad) else .bad
def spMk (T : Tb) (K : PySem.W.Frag) (c : Nat) (sp : Sp) (vs : List V) (H : Hp) (Q : VK) (W : XK) : Prop := ∀ x dx, H x = none → H dx = none → dx ≠ x →
  sp (.ref x :: vs) (upd (upd H dx (.own x)) x (.ins (He.ga K (T.cn c)) dx [])) (fun v H2 => v = .non ∧ Q (.ref x) H2) W
theorem makeP_ok {K : PySem.W.Frag} {io : Nat → Addr} {F H : Hp} {h : Hh} {W : XK} {Q : VK} {f : Fx} {as : List Val} {vs : List V} (hf : ∀ as h v h', f h as = .ok v h' → v = .non) (sr : SR T K io h F H) (r : VRs T K io h.length F as vs) (w : Wants T K io h.length F H W Q (makeP T c f as h)) : spMk T K c (spF T K f) vs H Q W := by
  intro x dx hx hdx hne
  unfold makeP at w
  by_cases hp : (h.isEmpty || pureVs as) = true
  · rw [if_pos hp] at w
    have r0 : VRs T K io 0 F as vs := by
      rcases Bool.or_eq_true_iff.mp hp with z | z
      · have : h = [] := List.isEmpty_iff.mp z
        subst this; exact r
      · exact r.pure z
    have hx2 : upd H dx (.own x) x = none := by rw [upd_ne (Ne.symm hne)]; exact hx
    have hH : ∀ b u, H b = some u → upd (upd H dx (.own x)) x (.ins (He.ga K (T.cn c)) dx []) b = some u := fun b u e => upd_sub _ hx2 b u (upd_sub H hdx b u e)
    have fx : F x = none := sr.none_of hx
    let io0 : Nat → Addr := fun _ => x
    have s0 : SR T K io0 [.ins c []] F (upd (upd H dx (.own x)) x (.ins (He.ga K (T.cn c)) dx [])) := by
      refine ⟨fun b o e => hH b o (sr.sub b o e), fun k hk => fx, fun j k hj hk _ => ?_, fun k o e => ?_⟩
      · have h1 : j < 1 := hj
        have h2 : k < 1 := hk
        omega
      · have hk : k = 0 := by
          have := (List.getElem?_eq_some_iff.mp e).1
          have h1 : k < 1 := this
          omega
        subst hk
        cases (Option.some.inj e : Obj.ins c [] = o)
        exact ⟨dx, [], by rw [show io0 0 = x from rfl, upd_same]; rfl, by rw [upd_ne hne, upd_same], .nil, Nat.zero_le _⟩
    refine ⟨io0, [.ins c []], F, .ref 0 :: as, s0, .cons (.ref 0 (Nat.lt_succ_self 0)) (r0.mono (Nat.zero_le _) (fun k hk => absurd hk (Nat.not_lt_zero _)) (fun _ _ e => e)), ?_⟩
    -- the state behind the callee, from ahead of the new object
    have back : ∀ {io' : Nat → Addr} {h' : Hh} {F' H' : Hp}, Step io0 ([Obj.ins c []] : Hh).length F (upd (upd H dx (.own x)) x (.ins (He.ga K (T.cn c)) dx [])) io' h'.length F' H' → SR T K io' h' F' H' → Step io 0 F H io' h'.length F' H' := fun {io' h' F' H'} st sr' => by
      refine ⟨Nat.zero_le _, fun k hk => absurd hk (Nat.not_lt_zero _), st.phi, fun b o e _ => st.frame b o (hH b o e) fun k hk z => ?_, fun k _ hk => ?_, fun b o e => ?_⟩
      · have : x = b := z
        rw [this, e] at hx; cases hx
      · by_cases h0 : k < 1
        · rw [st.eq k h0]; exact hx
        · have z := st.new k (by show 1 ≤ k; omega) hk
          cases q : H (io' k) with
          | none => rfl
          | some u => rw [hH _ _ q] at z; cases z
      · rcases st.fresh b o e with z | z | z
        · exact .inl z
        · refine .inr (.inl ?_)
          cases q : H b with
          | none => rfl
          | some u => rw [hH _ _ q] at z; cases z
        · exact .inr (.inr z)
    cases e : f [.ins c []] (.ref 0 :: as) with
    | bad => rw [e] at w; exact w
    | ok v h' =>
      rw [e] at w
      obtain ⟨z, ez, w1⟩ := wants_ofO w
      intro io1 F1 H1 x1 st sr1 vr
      have hv := hf _ _ _ _ e
      subst hv
      cases vr
      refine ⟨rfl, ?_⟩
      have st0 := back st sr1
      obtain ⟨a1, b1⟩ := sr_back sr st0 sr1
      have hlen : 0 < h'.length := Nat.lt_of_lt_of_le (Nat.lt_succ_self 0) st.le
      have v0 : VR T K io1 h'.length F1 (.ref 0) (.ref (io1 0)) := .ref 0 hlen
      have e0 : io1 0 = x := st.eq 0 (Nat.lt_succ_self 0)
      rw [e0] at v0
      refine w1 io _ H1 (.ref x) b1 a1 ?_
      exact (frz_ok (io' := io) sr1 F2of_sub (fun k hk => F2of_at sr1 hk) (fun k d hk e => F2of_own sr1 hk e) 30 (.ref 0) z (.ref x) ez v0).ofEmpty rfl
    | exc cc fs h' =>
      rw [e] at w
      intro io1 F1 H1 d st sr1 xr
      dsimp only at w
      cases ez : frzTops T h' fs with
      | none => rw [ez] at w; exact w.elim
      | some fs' =>
        rw [ez] at w
        obtain ⟨a1, b1⟩ := sr_back sr (back st sr1) sr1
        exact w io _ H1 d b1 a1 (xr.change (fun z => by subst z; exact frzTops_nil ez) fun xs r => frzTops_ok sr1 ez r)
  · rw [if_neg hp] at w; exact w.elim
/-- C(..), what it raises wished for at the slots -/
theorem run_makeS {C : Addr} {pins : List (Addr × PySem.Obj)} {σ : L2.St} {H : Hp} {s : Shared} {Q : VK} {us : List Value} {vs : List V} {Eσ : XK} (M : Mk X.K C a) (G : FnOk X.prog X.w X.K X.mg X.base CXq k a fd ps sp) (hr : Room (k + 1) X.A) (hb : Binds X.K fd ps ds) (hd : Vals dvs ds)
    (hx : PassesAt CXq X σ Eσ) (I : L2.Inv X pins σ H s) (r : Vals vs us)
    (h : ∀ x dx, H x = none → H dx = none → dx ≠ x → sp (.ref x :: (vs ++ dvs)) (upd (upd H dx (.own x)) x (.ins C dx [])) (fun v H2 => v = .non ∧ Q (.ref x) H2) Eσ) :
    wpAny (model X.prog X.w) X.A (call (.ref C) us) (EP X pins σ Q) X.xe s := by
  have f0 : H s.heap.objs.size = none := I.hok.fresh (Nat.le_refl _)
  have f1 : H (s.heap.objs.size + 1) = none := I.hok.fresh (Nat.le_succ _)
  have hq := h _ _ f1 f0 (Nat.ne_of_lt (Nat.lt_succ_self _))
  have I2 : L2.Inv X pins σ _ _ := L2.Inv.made (C := C) I
  have rr : Vals (V.ref (s.heap.objs.size + 1) :: (vs ++ dvs)) (Value.ref (s.heap.objs.size + 1) :: (us ++ ds)) := Paired.cons rfl (Vals.append r hd)
  have hl : (Value.ref (s.heap.objs.size + 1) :: us ++ ds).length = ps.length := by
    have e1 := Vals.length rr
    rw [G.len _ _ _ _ hq] at e1
    exact Eq.symm e1
  refine wpAny_call (make_map (f := a) I.kIn M.makes M.init (beq_iff_eq.mp M.fn) ?_)
  refine codeAny_mono (G.run _ X.stack _ _ _ _ _ _ Eσ (hr.make C us []) (I2.env0.make C us []) (hb _ (Value.ref (s.heap.objs.size + 1) :: us) I2.kIn hl) rr hq) ?_
  intro rs s' hq'
  match rs, hq' with
  | .error er, hq' => exact hx pins _ _ er s' I2 hq'
  | .ok (.ret u), hq' =>
    obtain ⟨v, H', I3, rv, ev, q3⟩ := I2.after hq'
    rw [ev] at rv
    exact ⟨rv, ⟨V.ref (s.heap.objs.size + 1), H', I3, rfl, q3⟩⟩
  | .ok .next, hq' => exact False.elim hq'
  | .ok .brk, hq' => exact False.elim hq'
  | .ok .cont, hq' => exact False.elim hq'
def tMakeS (C : Addr) (sp : Sp) (dvs : List V) (E : L2.St → XK) (t : TA) : TE := fun σ H Q => t σ H fun vs H1 => ∀ x dx, H1 x = none → H1 dx = none → dx ≠ x →
  sp (.ref x :: (vs ++ dvs)) (upd (upd H1 dx (.own x)) x (.ins C dx [])) (fun v H2 => v = .non ∧ Q (.ref x) H2) (E σ)
variable {x : Str} {p : Pos}
theorem pe_makeS {C : Addr} {t : TA} (M : Mk X.K C a) (G : FnOk X.prog X.w X.K X.mg X.base CXq k a fd ps sp) (hr : Room (k + 1) X.A) (hg : Gl X x) (hm : X.mg x = some (.ref C)) (hb : Binds X.K fd ps ds) (hd : Vals dvs ds) (hx : ∀ σ, PassesAt CXq X σ (E σ)) (ha : PA X (e :: es) t) (hdb : (x == ("__debug__" : Str)) = false)
    (he : starEach (e :: es) X.env = (false, eval e X.env) :: starEach es X.env) (hpl : (backTo pos (starEach es X.env)).any (·.1) = false) : PE X (.Call (.Name x p) (e :: es) [] pos) (tMakeS C sp dvs E t) :=
  ⟨fun pins s σ H Q I h => wpAny_Call_Name_kw (ld_glob I hg hm (PySem.W.callWith_K (h₀ := X.base) I.ok.mod.kin M.kp (thn (ha.run pos pins s σ H _ I h) fun us s1 ⟨vs, H1, I1, r, q⟩ => ⟨I1.kIn, run_makeS M G hr hb hd (hx σ) I1 r q⟩) he hpl) hdb)⟩
theorem pe_makeS0 {C : Addr} (M : Mk X.K C a) (G : FnOk X.prog X.w X.K X.mg X.base CXq k a fd ps sp) (hr : Room (k + 1) X.A) (hg : Gl X x) (hm : X.mg x = some (.ref C)) (hb : Binds X.K fd ps ds) (hd : Vals dvs ds) (hx : ∀ σ, PassesAt CXq X σ (E σ)) (hdb : (x == ("__debug__" : Str)) = false) : PE X (.Call (.Name x p) [] [] pos) (tMakeS C sp dvs E tNil) :=
  ⟨fun pins s σ H Q I h => wpAny_Call_Name_kw (ld_glob I hg hm (PySem.W.callWith_K0 I.kIn M.kp (run_makeS (us := []) M G hr hb hd (hx σ) I .nil h)) hdb)⟩
def xMakeP (T : Tb) (c : Nat) (f : Fx) (dfl : List Val) (l : Lx) : Ex := fun sg h => (l sg h).bind fun as h1 => makeP T c f (as ++ dfl) h1
theorem je_makeP (hf : ∀ as h v h', f h as = .ok v h' → v = .non) (M : Mk X.K (He.ga X.K (T.cn c)) a) (G : FnOk X.prog X.w X.K X.mg X.base (CX X.prog X.w) k a fd ps (spF T X.K f)) (hr : Room (k + 1) X.A) (hm : X.mg x = some (.ref (He.ga X.K (T.cn c)))) {dfl : List Val} (hD : Dfl T X.K dfl dvs) (hb : Binds X.K fd ps ds) (hd : Vals dvs ds) (tk : Takes X W) (ha : JA T X W (e :: es) fl)
    (hg : Gl X x := by rfl) (hdb : (x == ("__debug__" : Str)) = false := by decide) (he : starEach (e :: es) X.env = (false, eval e X.env) :: starEach es X.env := by rfl) (hpl : (backTo pos (starEach es X.env)).any (·.1) = false := by rfl) :
    JE T X W (.Call (.Name x p) (e :: es) [] pos) (xMakeP T c f dfl fl) := by
  refine pe_imp (pe_makeS (E := fun σ c d H => W c d σ H) (sp := spF T X.K f) M G hr hg hm hb hd (fun σ => passAt tk σ) ha hdb he hpl) fun σ H Q ⟨io, h, F, sg, sr, rs, w⟩ => ⟨io, h, F, sg, sr, rs, Wants.bindOfL w fun vs h1 io1 F1 H1 xs st sr1 vrs w1 => ?_⟩
  exact makeP_ok (c := c) hf sr1 (vrs.append (hD _ _ _)) w1
theorem je_makeP0 (hf : ∀ as h v h', f h as = .ok v h' → v = .non) (M : Mk X.K (He.ga X.K (T.cn c)) a) (G : FnOk X.prog X.w X.K X.mg X.base (CX X.prog X.w) k a fd ps (spF T X.K f)) (hr : Room (k + 1) X.A) (hm : X.mg x = some (.ref (He.ga X.K (T.cn c)))) {dfl : List Val} (hD : Dfl T X.K dfl dvs) (hb : Binds X.K fd ps ds) (hd : Vals dvs ds) (tk : Takes X W)
    (hg : Gl X x := by rfl) (hdb : (x == ("__debug__" : Str)) = false := by decide) :
    JE T X W (.Call (.Name x p) [] [] pos) (xMakeP T c f dfl xNil) := by
  refine pe_imp (pe_makeS0 (E := fun σ c d H => W c d σ H) (sp := spF T X.K f) M G hr hg hm hb hd (fun σ => passAt tk σ) hdb) fun σ H Q ⟨io, h, F, sg, sr, rs, w⟩ => ?_
  exact makeP_ok (c := c) hf sr (hD _ _ _) w
end
end Py

namespace Py
open PySem PySem.Spec PyProof.Rows L2

/-! ### plain operators -/
section
variable {T : Tb} {K : PySem.W.Frag}
def gI (f : Int → Int → Val) : G2 := fun _ v u => match v, u with
  | .int i, .int j => some (f i j)
  | _, _ => none
theorem lift_I0 {f : Int → Int → V} {g : Int → Int → Val} (hg : ∀ i j io n F, VR T K io n F (g i j) (f i j)) : Lift2 T K (rI0 f) (gI g) := by
  intro io h F H v u x y z Q sr vr ur e q
  unfold gI at e
  cases vr with
  | int i =>
    cases ur with
    | int j => cases e; exact ⟨i, j, rfl, rfl, q F H _ .refl sr (hg i j _ _ _)⟩
    | _ => cases e
  | _ => cases e
def gIc (c : Int → Int → Bool) (f : Int → Int → Val) : G2 := fun _ v u => match v, u with
  | .int i, .int j => if c i j = true then some (f i j) else none
  | _, _ => none
theorem lift_I {C : Int → Int → Prop} {f : Int → Int → V} {c : Int → Int → Bool} {g : Int → Int → Val} (hc : ∀ i j, c i j = true → C i j) (hg : ∀ i j io n F, VR T K io n F (g i j) (f i j)) : Lift2 T K (rI C f) (gIc c g) := by
  intro io h F H v u x y z Q sr vr ur e q
  unfold gIc at e
  cases vr with
  | int i =>
    cases ur with
    | int j =>
      dsimp only at e
      by_cases h1 : c i j = true
      · rw [if_pos h1] at e; cases e; exact ⟨i, j, rfl, rfl, hc i j h1, q F H _ .refl sr (hg i j _ _ _)⟩
      · rw [if_neg h1] at e; cases e
    | _ => cases e
  | _ => cases e
abbrev gAdd : G2 := gI fun i j => .int (i + j)
abbrev gSub : G2 := gI fun i j => .int (i - j)
def okMul (i j : Int) : Bool := (decide (-18446744073709551616 < i) && decide (i < 18446744073709551616)) || (decide (-18446744073709551616 < j) && decide (j < 18446744073709551616))
abbrev gMul : G2 := gIc okMul fun i j => .int (i * j)
abbrev gFdiv : G2 := gIc (fun _ j => decide (0 < j) && decide (j < 1073741824)) fun i j => .int (i / j)
abbrev gMod : G2 := gIc (fun _ j => decide (0 < j)) fun i j => .int (i % j)
abbrev gPow : G2 := gIc (fun i j => decide (0 ≤ j) && decide (j ≤ 1000) && decide (i.natAbs < 18446744073709551616)) fun i j => .int (i ^ j.toNat)
abbrev gLt : G2 := gI fun i j => .bl (decide (i < j))
abbrev gLe : G2 := gI fun i j => .bl (decide (i ≤ j))
abbrev gGt : G2 := gI fun i j => .bl (decide (j < i))
abbrev gGe : G2 := gI fun i j => .bl (decide (j ≤ i))
theorem lift_add : Lift2 T K (rI0 fun i j => .int (i + j)) gAdd := lift_I0 fun i j _ _ _ => .int _
theorem lift_sub : Lift2 T K (rI0 fun i j => .int (i - j)) gSub := lift_I0 fun i j _ _ _ => .int _
theorem lift_mul : Lift2 T K (rI CMul fun i j => .int (i * j)) gMul := lift_I (fun i j h => by
  unfold okMul at h
  simp only [Bool.or_eq_true, Bool.and_eq_true, decide_eq_true_eq] at h
  have e : (2 : Int) ^ 64 = 18446744073709551616 := by decide
  unfold CMul
  omega) fun i j _ _ _ => .int _
theorem lift_fdiv : Lift2 T K (rI CDiv fun i j => .int (i / j)) gFdiv := lift_I (fun i j h => by
  simp only [Bool.and_eq_true, decide_eq_true_eq] at h
  exact h) fun i j _ _ _ => .int _
theorem lift_mod : Lift2 T K (rI (fun _ j => 0 < j) fun i j => .int (i % j)) gMod := lift_I (fun i j h => of_decide_eq_true h) fun i j _ _ _ => .int _
theorem lift_pow : Lift2 T K (rI CPow fun i j => .int (i ^ j.toNat)) gPow := lift_I (fun i j h => by
  simp only [Bool.and_eq_true, decide_eq_true_eq] at h
  have e : (2 : Nat) ^ 64 = 18446744073709551616 := by decide
  unfold CPow
  omega) fun i j _ _ _ => .int _
variable {X : Cx}
theorem op_lt' : OpR X (compareOp .Lt) (rI0 fun i j => .bl (decide (i < j))) := opB0 fun _ _ _ _ _ _ _ q => lt_int q
theorem op_le' : OpR X (compareOp .LtE) (rI0 fun i j => .bl (decide (i ≤ j))) := opB0 fun _ _ _ _ _ _ _ q => le_int q
theorem op_gt' : OpR X (compareOp .Gt) (rI0 fun i j => .bl (decide (j < i))) := opB0 fun _ _ _ _ _ _ _ q => gt_int q
theorem op_ge' : OpR X (compareOp .GtE) (rI0 fun i j => .bl (decide (j ≤ i))) := opB0 fun _ _ _ _ _ _ _ q => ge_int q
theorem lift_lt : Lift2 T K (rI0 fun i j => .bl (decide (i < j))) gLt := lift_I0 fun i j _ _ _ => .bl _
theorem lift_le : Lift2 T K (rI0 fun i j => .bl (decide (i ≤ j))) gLe := lift_I0 fun i j _ _ _ => .bl _
theorem lift_gt : Lift2 T K (rI0 fun i j => .bl (decide (j < i))) gGt := lift_I0 fun i j _ _ _ => .bl _
theorem lift_ge : Lift2 T K (rI0 fun i j => .bl (decide (j ≤ i))) gGe := lift_I0 fun i j _ _ _ => .bl _
end

/-! ### == and != of data -/
def okStr (s : List Nat) : Bool := s.all fun c => decide (c < 1114112)
/-- a value as data -/
def dat (h : Hh) : Nat → Val → Option PyData
  | 0, _ => none
  | n + 1, v => match v with
    | .non => some .none
    | .bl b => some (.bool b)
    | .int i => some (.int i)
    | .str s => if okStr s = true then some (.str ⟨s.toArray⟩) else none
    | .tup vs => (vs.mapM (dat h n)).map .tuple
    | .lst vs => (vs.mapM (dat h n)).map .list
    | .ref k => (match h[k]? with
      | some (.lst vs) => (vs.mapM (dat h n)).map .list
      | _ => none)
    | _ => none
section
variable {T : Tb} {K : PySem.W.Frag} {io : Nat → Addr} {F H : Hp} {h : Hh}
theorem mapM_Dp {g : Val → Option PyData} {n : Nat} (hg : ∀ v d x, g v = some d → VR T K io h.length F v x → Dp K H x d ∧ PyData.canLay0 d = true ∧ d.depth ≤ n) : ∀ {vs : List Val} {ds : List PyData} {xs : List V}, vs.mapM g = some ds → VRs T K io h.length F vs xs → DpAll K H xs ds ∧ PyData.canLayAll0 ds = true ∧ PyData.depthAll ds ≤ n
  | [], ds, xs, e, r => by
    simp at e; subst e
    cases r; exact ⟨.nil, rfl, Nat.zero_le _⟩
  | v :: vs, ds, xs, e, r => by
    rw [List.mapM_cons] at e
    cases q : g v with
    | none => rw [q] at e; simp at e
    | some d =>
      rw [q] at e
      cases q2 : vs.mapM g with
      | none => rw [q2] at e; simp at e
      | some us =>
        rw [q2] at e
        simp at e
        subst e
        cases r with
        | cons a b =>
          obtain ⟨a1, a2, a3⟩ := hg v d _ q a
          obtain ⟨b1, b2, b3⟩ := mapM_Dp hg q2 b
          exact ⟨.cons a1 b1, by simp [PyData.canLayAll0, a2, b2], by simp [PyData.depthAll]; omega⟩
theorem dat_ok (sr : SR T K io h F H) : ∀ (n : Nat) (v : Val) (d : PyData) (x : V), dat h n v = some d → VR T K io h.length F v x → Dp K H x d ∧ PyData.canLay0 d = true ∧ d.depth ≤ n
  | 0, _, _, _, e, _ => by cases e
  | n + 1, v, d, x, e, r => by
    have ih := dat_ok sr n
    unfold dat at e
    cases r with
    | non => cases e; exact ⟨.non, rfl, Nat.zero_le _⟩
    | bl b => cases e; exact ⟨.bl b, rfl, Nat.zero_le _⟩
    | int i => cases e; exact ⟨.int i, rfl, Nat.zero_le _⟩
    | str s =>
      dsimp only at e
      by_cases hs : okStr s = true
      · rw [if_pos hs] at e
        cases e
        refine ⟨.str _, ?_, Nat.zero_le _⟩
        simp only [PyData.canLay0, PyData.strOk, List.all_toArray]
        unfold okStr at hs
        exact hs
      · rw [if_neg hs] at e; cases e
    | glo g => cases e
    | @obj c vs a dx xs q qd rr hl => cases e
    | @tup vs a xs q rr =>
      obtain ⟨ds, e1, rfl⟩ := map_some e
      obtain ⟨b1, b2, b3⟩ := mapM_Dp ih e1 rr
      exact ⟨.tup (sqT_mono sr.sub q) b1, b2, Nat.succ_le_succ b3⟩
    | @lst vs a xs q rr =>
      obtain ⟨ds, e1, rfl⟩ := map_some e
      obtain ⟨b1, b2, b3⟩ := mapM_Dp ih e1 rr
      exact ⟨.lst (sqL_mono sr.sub q) b1, b2, Nat.succ_le_succ b3⟩
    | ref k hk =>
      dsimp only at e
      cases ek : h[k]? with
      | none => rw [ek] at e; cases e
      | some ob =>
        rw [ek] at e
        cases ob with
        | ins c vs => cases e
        | lst vs =>
          obtain ⟨xs, ea, rr⟩ := sr.obj k _ ek
          obtain ⟨ds, e1, rfl⟩ := map_some e
          obtain ⟨b1, b2, b3⟩ := mapM_Dp ih e1 rr
          exact ⟨.lst (SqL.of ea) b1, b2, Nat.succ_le_succ b3⟩
theorem shaped_of {d : PyData} {n : Nat} (hn : n ≤ 60) (h1 : PyData.canLay0 d = true) (h2 : d.depth ≤ n) : SeqAt.shaped d = true := by
  unfold SeqAt.shaped
  rw [h1, Bool.true_and]
  exact decide_eq_true (by omega)
def eqD (h : Hh) (v u : Val) : Option Bool := match dat h 30 v, dat h 30 u with
  | some d, some e => some (PyData.eqv d e)
  | _, _ => none
def gEq : G2 := fun h v u => (eqD h v u).map .bl
def gNe : G2 := fun h v u => (eqD h v u).map fun b => .bl (!b)
theorem eqD_ok (sr : SR T K io h F H) {v u : Val} {x y : V} {b : Bool} (vr : VR T K io h.length F v x) (ur : VR T K io h.length F u y) (e : eqD h v u = some b) : ∃ d e, Dp K H x d ∧ Dp K H y e ∧ SeqAt.shaped d = true ∧ SeqAt.shaped e = true ∧ PyData.eqv d e = b := by
  unfold eqD at e
  cases e1 : dat h 30 v with
  | none => rw [e1] at e; cases e
  | some d =>
    rw [e1] at e
    cases e2 : dat h 30 u with
    | none => rw [e2] at e; cases e
    | some d2 =>
      rw [e2] at e
      obtain ⟨a1, a2, a3⟩ := dat_ok sr 30 v d x e1 vr
      obtain ⟨b1, b2, b3⟩ := dat_ok sr 30 u d2 y e2 ur
      exact ⟨d, d2, a1, b1, shaped_of (by omega) a2 a3, shaped_of (by omega) b2 b3, Option.some.inj e⟩
theorem lift_eqD : Lift2 T K (rEqD K) gEq := by
  intro io h F H v u x y z Q sr vr ur e q
  obtain ⟨b, eb, rfl⟩ := map_some e
  obtain ⟨d, d2, a1, a2, a3, a4, a5⟩ := eqD_ok sr vr ur eb
  exact ⟨d, d2, a1, a2, a3, a4, by rw [a5]; exact q F H _ .refl sr (.bl b)⟩
theorem lift_neD : Lift2 T K (rNeD K) gNe := by
  intro io h F H v u x y z Q sr vr ur e q
  obtain ⟨b, eb, rfl⟩ := map_some e
  obtain ⟨d, d2, a1, a2, a3, a4, a5⟩ := eqD_ok sr vr ur eb
  exact ⟨d, d2, a1, a2, a3, a4, by rw [a5]; exact q F H _ .refl sr (.bl _)⟩
end

/-! ### sequences: the items of a value -/
def lstOf (h : Hh) : Val → Option (List Val)
  | .lst vs => some vs
  | .ref k => (match h[k]? with
    | some (.lst vs) => some vs
    | _ => none)
  | _ => none
def tupOf : Val → Option (List Val)
  | .tup vs => some vs
  | _ => none
section
variable {T : Tb} {K : PySem.W.Frag} {io : Nat → Addr} {F H : Hp} {h : Hh} {v : Val} {x : V} {vs : List Val}
theorem lstOf_ok (sr : SR T K io h F H) (r : VR T K io h.length F v x) (e : lstOf h v = some vs) : ∃ a xs, x = .ref a ∧ SqL K H a xs ∧ VRs T K io h.length F vs xs := by
  unfold lstOf at e
  cases r with
  | @lst vs' a xs q rr => cases e; exact ⟨a, xs, rfl, sqL_mono sr.sub q, rr⟩
  | ref k hk =>
    dsimp only at e
    cases ek : h[k]? with
    | none => rw [ek] at e; cases e
    | some ob =>
      rw [ek] at e
      cases ob with
      | ins c vs => cases e
      | lst vs =>
        cases e
        obtain ⟨xs, ea, rr⟩ := sr.obj k _ ek
        exact ⟨io k, xs, rfl, SqL.of ea, rr⟩
  | _ => cases e
theorem tupOf_ok (sr : SR T K io h F H) (r : VR T K io h.length F v x) (e : tupOf v = some vs) : ∃ a xs, x = .ref a ∧ SqT K H a xs ∧ VRs T K io h.length F vs xs := by
  unfold tupOf at e
  cases r with
  | @tup vs' a xs q rr => cases e; exact ⟨a, xs, rfl, sqT_mono sr.sub q, rr⟩
  | _ => cases e
end
/-- an index of any sign -/
def atV (vs : List Val) (i : Int) : Option Val := if 0 ≤ i then vs[i.toNat]? else if 0 ≤ i + vs.length then vs[(i + vs.length).toNat]? else none
theorem atV_ok {T : Tb} {K : PySem.W.Frag} {io : Nat → Addr} {n : Nat} {F : Hp} {vs : List Val} {xs : List V} {i : Int} {z : Val} (r : VRs T K io n F vs xs) (e : atV vs i = some z) : ∃ y, atI xs i = some y ∧ VR T K io n F z y := by
  have hl := r.length
  unfold atV at e
  unfold atI ixN
  by_cases h0 : 0 ≤ i
  · rw [if_pos h0] at e
    have hi : i.toNat < vs.length := (List.getElem?_eq_some_iff.mp e).1
    rw [if_pos h0, if_pos (by omega)]
    obtain ⟨y, e1, r1⟩ := r.get e
    exact ⟨y, e1, r1⟩
  · rw [if_neg h0] at e
    by_cases h1 : 0 ≤ i + vs.length
    · rw [if_pos h1] at e
      rw [if_neg h0, if_pos (by omega)]
      obtain ⟨y, e1, r1⟩ := r.get e
      refine ⟨y, ?_, r1⟩
      show xs[(i + xs.length).toNat]? = some y
      rw [← hl]; exact e1
    · rw [if_neg h1] at e; cases e
def gIx : G2 := fun h v u => match u with
  | .int i => (match v with
    | .tup vs => atV vs i
    | .str s => if s.length ≤ 1000000 then (if 0 ≤ i then (s[i.toNat]?).map fun c => .str [c] else if 0 ≤ i + s.length then (s[(i + s.length).toNat]?).map fun c => .str [c] else none) else none
    | v => (match lstOf h v with
      | some vs => atV vs i
      | none => none))
  | _ => none
section
variable {T : Tb} {K : PySem.W.Frag}
theorem lift_ix : Lift2 T K (rIx K) gIx := by
  intro io h F H v u x y z Q sr vr ur e q
  unfold gIx at e
  cases ur with
  | int i =>
    have viaL : (match lstOf h v with
      | some vs => atV vs i
      | none => none) = some z → rIx K x (.int i) H Q := fun e => by
      cases el : lstOf h v with
      | none => rw [el] at e; cases e
      | some vs =>
        rw [el] at e
        obtain ⟨a, xs, rfl, sq, rr⟩ := lstOf_ok sr vr el
        obtain ⟨y, e1, r1⟩ := atV_ok rr e
        exact .inl ⟨a, xs, i, y, rfl, rfl, sq, e1, q F H _ .refl sr r1⟩
    cases vr with
    | @tup vs a xs sq rr =>
      obtain ⟨y, e1, r1⟩ := atV_ok rr e
      exact .inr (.inl ⟨a, xs, i, y, rfl, rfl, sqT_mono sr.sub sq, e1, q F H _ .refl sr r1⟩)
    | str s =>
      dsimp only at e
      by_cases hz : s.length ≤ 1000000
      · rw [if_pos hz] at e
        refine .inr (.inr ?_)
        have fin : ∀ c, atI s i = some c → z = .str [c] → rIxS (.str ⟨s.toArray⟩) (.int i) H Q := fun c hc hz' => by
          subst hz'
          exact ⟨⟨s.toArray⟩, i, c, rfl, rfl, by show s.toArray.size ≤ sizeLine; simpa using sizeOk hz, by simpa using hc, q F H _ .refl sr (.str [c])⟩
        by_cases h0 : 0 ≤ i
        · rw [if_pos h0] at e
          obtain ⟨c, ec, rfl⟩ := map_some e
          refine fin c ?_ rfl
          have hi := (List.getElem?_eq_some_iff.mp ec).1
          unfold atI ixN
          rw [if_pos h0, if_pos (by omega)]
          exact ec
        · rw [if_neg h0] at e
          by_cases h1 : 0 ≤ i + s.length
          · rw [if_pos h1] at e
            obtain ⟨c, ec, rfl⟩ := map_some e
            refine fin c ?_ rfl
            unfold atI ixN
            rw [if_neg h0, if_pos (by omega)]
            exact ec
          · rw [if_neg h1] at e; cases e
      · rw [if_neg hz] at e; cases e
    | ref k hk => exact viaL e
    | @lst vs a xs sq rr => exact viaL e
    | non => exact viaL e
    | bl b => exact viaL e
    | int j => exact viaL e
    | obj a b c d => exact viaL e
    | glo g => exact viaL e
  | _ => cases e
end
section
variable {T : Tb} {X : Cx} {W : WX} {a b e o : Expr} {es : List Expr} {fa fb fe fo : Ex} {fl : Lx} {pos apos cpos p : Pos} {r : R2} {g : G2}
theorem je_ix (ha : JE T X W a fa) (hb : JE T X W b fb) (hs : PlainIx b := by exact fun _ _ => rfl) : JE T X W (.Subscript a b pos) (xOp gIx fa fb) :=
  pe_imp (pe_ix ix_seq ha hb hs) fun _ _ _ => tOp_of lift_ix

/-! ### built-in functions -/
abbrev GC := Hh → List Val → Option (Val × Hh)
def LiftC (T : Tb) (K : PySem.W.Frag) (r : List V → Hp → VK → Prop) (g : GC) : Prop :=
  ∀ io h F H vs xs z h' Q, SR T K io h F H → VRs T K io h.length F vs xs → g h vs = some (z, h') →
    (∀ io' F' H' x', Step io h.length F H io' h'.length F' H' → SR T K io' h' F' H' → VR T K io' h'.length F' z x' → Q x' H') → r xs H Q
def Res.ofP (o : Option (Val × Hh)) : Res := match o with
  | some (v, h) => .ok v h
  | none => .bad
def xCB (g : GC) (l : Lx) : Ex := fun sg h => (l sg h).bind fun vs h1 => .ofP (g h1 vs)
theorem wants_ofP {K : PySem.W.Frag} {io : Nat → Addr} {n : Nat} {F H : Hp} {W : XK} {Q : VK} {o : Option (Val × Hh)} (w : Wants T K io n F H W Q (.ofP o)) : ∃ z h', o = some (z, h') ∧ Wants T K io n F H W Q (.ok z h') := by
  cases o with
  | none => exact w.elim
  | some z => obtain ⟨z, h'⟩ := z; exact ⟨z, h', rfl, w⟩
theorem tCB_of {r : List V → Hp → VK → Prop} {g : GC} (hl : LiftC T X.K r g) {σ : L2.St} {H : Hp} {Q : VK} : tE T X.K W (xCB g fl) σ H Q → tCB r (tL T X.K W fl) σ H Q := by
  rintro ⟨io, h, F, sg, sr, rs, w⟩
  refine ⟨io, h, F, sg, sr, rs, Wants.bindOfL w fun vs h1 io1 F1 H1 xs st sr1 vrs w1 => ?_⟩
  obtain ⟨z, h', e, w2⟩ := wants_ofP w1
  exact hl io1 h1 F1 H1 vs xs z h' Q sr1 vrs e w2
theorem je_callB {x : Str} {id : String} {r : List V → Hp → VK → Prop} {g : GC} (hc : CallR X (.builtin id) r) (hl : LiftC T X.K r g) (hm : X.mg x = none) (ha : JA T X W (e :: es) fl) (hv : bootBuiltins x = some (.builtin id) := by decide +kernel) (hg : Gl X x := by rfl) (hn : x ≠ "__name__" := by decide) (hdb : (x == ("__debug__" : Str)) = false := by decide)
    (he : starEach (e :: es) X.env = (false, eval e X.env) :: starEach es X.env := by rfl) (hpl : (backTo pos (starEach es X.env)).any (·.1) = false := by rfl) : JE T X W (.Call (.Name x p) (e :: es) [] pos) (xCB g fl) :=
  pe_imp (pe_callB hc hg hm hv ha hn hdb he hpl) fun _ _ _ => tCB_of hl
theorem je_callTy {x : Str} {id : String} {r : List V → Hp → VK → Prop} {g : GC} (hc : CallR X (.type id) r) (hl : LiftC T X.K r g) (hm : X.mg x = none) (ha : JA T X W (e :: es) fl) (hv : bootBuiltins x = some (.type id) := by decide +kernel) (hg : Gl X x := by rfl) (hn : x ≠ "__name__" := by decide) (hdb : (x == ("__debug__" : Str)) = false := by decide)
    (he : starEach (e :: es) X.env = (false, eval e X.env) :: starEach es X.env := by rfl) (hpl : (backTo pos (starEach es X.env)).any (·.1) = false := by rfl) : JE T X W (.Call (.Name x p) (e :: es) [] pos) (xCB g fl) :=
  pe_imp (pe_callTy hc hg hm hv ha hn hdb he hpl) fun _ _ _ => tCB_of hl

/-! len, abs, max, min, int, all, any, tuple, list -/
def gLen : GC := fun h vs => match vs with
  | [.str s] => if s.length ≤ 1000000 then some (.int s.length, h) else none
  | [.tup xs] => some (.int xs.length, h)
  | [v] => (lstOf h v).map fun xs => (.int xs.length, h)
  | _ => none
theorem lift_len {K : PySem.W.Frag} : LiftC T K (fun xs H Q => ∃ x n, xs = [x] ∧ LenV K x H n ∧ Q (.int n) H) gLen := by
  intro io h F H vs xs z h' Q sr rr e q
  have one : ∃ v x, vs = [v] ∧ xs = [x] ∧ VR T K io h.length F v x := by
    cases rr with
    | nil => cases e
    | @cons v x vs xs r t =>
      cases t with
      | nil => exact ⟨v, x, rfl, rfl, r⟩
      | cons r2 t2 => cases v <;> cases e
  obtain ⟨v, x, rfl, rfl, r⟩ := one
  have viaL : (lstOf h v).map (fun xs => (Val.int xs.length, h)) = some (z, h') → ∃ x1 n, [x] = [x1] ∧ LenV K x1 H n ∧ Q (.int n) H := fun e => by
    obtain ⟨ys, el, e2⟩ := map_some e
    cases e2
    obtain ⟨a, xs, rfl, sq, rr⟩ := lstOf_ok sr r el
    exact ⟨_, xs.length, rfl, .inl ⟨xs, sq, rfl⟩, by rw [← rr.length]; exact q io F H _ .refl sr (.int _)⟩
  cases r with
  | str s =>
    simp only [gLen] at e
    by_cases hz : s.length ≤ 1000000
    · rw [if_pos hz] at e
      cases e
      exact ⟨_, s.length, rfl, ⟨by show s.toArray.size ≤ sizeLine; simpa using sizeOk hz, by show s.length = s.toArray.size; simp⟩, q io F H _ .refl sr (.int _)⟩
    · rw [if_neg hz] at e; cases e
  | @tup ys a xs sq r9 =>
    cases e
    exact ⟨_, xs.length, rfl, .inr ⟨xs, sqT_mono sr.sub sq, rfl⟩, by rw [← r9.length]; exact q io F H _ .refl sr (.int _)⟩
  | ref k hk => exact viaL e
  | lst sq rr => exact viaL e
  | non => exact viaL e
  | bl b => exact viaL e
  | int j => exact viaL e
  | obj a b c d => exact viaL e
  | glo g => exact viaL e
def gAbs : GC := fun h vs => match vs with
  | [.int i] => some (.int (if i < 0 then -i else i), h)
  | _ => none
theorem vrs_int1 {K : PySem.W.Frag} {io : Nat → Addr} {n : Nat} {F : Hp} {i : Int} {xs : List V} (r : VRs T K io n F [.int i] xs) : xs = [.int i] := by
  cases r with
  | cons a b => cases a; cases b; rfl
theorem vrs_int2 {K : PySem.W.Frag} {io : Nat → Addr} {n : Nat} {F : Hp} {i j : Int} {xs : List V} (r : VRs T K io n F [.int i, .int j] xs) : xs = [.int i, .int j] := by
  cases r with
  | cons a b => cases a; cases b with
    | cons a b => cases a; cases b; rfl
theorem lift_abs {K : PySem.W.Frag} : LiftC T K (fun xs H Q => ∃ i, xs = [.int i] ∧ Q (.int (if i < 0 then -i else i)) H) gAbs := by
  intro io h F H vs xs z h' Q sr rr e q
  unfold gAbs at e
  split at e
  · cases e
    rw [vrs_int1 rr]
    exact ⟨_, rfl, q io F H _ .refl sr (.int _)⟩
  · cases e
def gMax2 : GC := fun h vs => match vs with
  | [.int i, .int j] => some (.int (if j > i then j else i), h)
  | _ => none
def gMin2 : GC := fun h vs => match vs with
  | [.int i, .int j] => some (.int (if j < i then j else i), h)
  | _ => none
theorem lift_max2 {K : PySem.W.Frag} : LiftC T K (fun xs H Q => ∃ i j, xs = [.int i, .int j] ∧ Q (.int (if j > i then j else i)) H) gMax2 := by
  intro io h F H vs xs z h' Q sr rr e q
  unfold gMax2 at e
  split at e
  · cases e
    rw [vrs_int2 rr]
    exact ⟨_, _, rfl, q io F H _ .refl sr (.int _)⟩
  · cases e
theorem lift_min2 {K : PySem.W.Frag} : LiftC T K (fun xs H Q => ∃ i j, xs = [.int i, .int j] ∧ Q (.int (if j < i then j else i)) H) gMin2 := by
  intro io h F H vs xs z h' Q sr rr e q
  unfold gMin2 at e
  split at e
  · cases e
    rw [vrs_int2 rr]
    exact ⟨_, _, rfl, q io F H _ .refl sr (.int _)⟩
  · cases e
def gInt1 : GC := fun h vs => match vs with
  | [.int i] => some (.int i, h)
  | [.bl b] => some (.int (if b then 1 else 0), h)
  | _ => none
theorem lift_int1 {K : PySem.W.Frag} : LiftC T K (fun xs H Q => (∃ i, xs = [.int i] ∧ Q (.int i) H) ∨ ∃ k, xs = [.bl k] ∧ Q (.int (if k then 1 else 0)) H) gInt1 := by
  intro io h F H vs xs z h' Q sr rr e q
  unfold gInt1 at e
  split at e
  · cases e
    rw [vrs_int1 rr]
    exact .inl ⟨_, rfl, q io F H _ .refl sr (.int _)⟩
  · cases e
    cases rr with
    | cons a b =>
      cases a
      cases b
      exact .inr ⟨_, rfl, q io F H _ .refl sr (.int _)⟩
  · cases e
/-- a list of bools -/
def bools : List Val → Option (List Bool)
  | [] => some []
  | .bl b :: r => (bools r).map (b :: ·)
  | _ :: _ => none
theorem bools_ok {K : PySem.W.Frag} {io : Nat → Addr} {n : Nat} {F : Hp} : ∀ {vs : List Val} {xs : List V} {bs : List Bool}, VRs T K io n F vs xs → bools vs = some bs → xs = bs.map V.bl
  | [], xs, bs, r, e => by cases r; cases e; rfl
  | v :: vs, xs, bs, r, e => by
    cases r with
    | cons a b =>
      cases a with
      | bl q =>
        obtain ⟨cs, e1, rfl⟩ := map_some (show (bools vs).map (q :: ·) = some bs from e)
        rw [bools_ok b e1]; rfl
      | _ => cases e
def gAll : GC := fun h vs => match vs with
  | [v] => (match lstOf h v with
    | some ys => (bools ys).map fun bs => (.bl (bs.all id), h)
    | none => none)
  | _ => none
def gAny : GC := fun h vs => match vs with
  | [v] => (match lstOf h v with
    | some ys => (bools ys).map fun bs => (.bl (bs.any id), h)
    | none => none)
  | _ => none
theorem lift_all {K : PySem.W.Frag} : LiftC T K (rAll K) gAll := by
  intro io h F H vs xs z h' Q sr rr e q
  unfold gAll at e
  split at e
  · rename_i v
    cases rr with
    | @cons _ x _ _ r t =>
      cases t
      cases el : lstOf h v with
      | none => rw [el] at e; cases e
      | some ys =>
        rw [el] at e
        obtain ⟨bs, e1, e2⟩ := map_some e
        cases e2
        obtain ⟨a, xs, rfl, sq, r2⟩ := lstOf_ok sr r el
        rw [bools_ok r2 e1] at sq
        exact ⟨a, bs, rfl, sq, q io F H _ .refl sr (.bl _)⟩
  · cases e
theorem lift_any {K : PySem.W.Frag} : LiftC T K (rAny K) gAny := by
  intro io h F H vs xs z h' Q sr rr e q
  unfold gAny at e
  split at e
  · rename_i v
    cases rr with
    | @cons _ x _ _ r t =>
      cases t
      cases el : lstOf h v with
      | none => rw [el] at e; cases e
      | some ys =>
        rw [el] at e
        obtain ⟨bs, e1, e2⟩ := map_some e
        cases e2
        obtain ⟨a, xs, rfl, sq, r2⟩ := lstOf_ok sr r el
        rw [bools_ok r2 e1] at sq
        exact ⟨a, bs, rfl, sq, q io F H _ .refl sr (.bl _)⟩
  · cases e
def gTuple : GC := fun h vs => match vs with
  | [.tup xs] => some (.tup xs, h)
  | [v] => (match lstOf h v with
    | some ys => some (.tup ys, h)
    | none => none)
  | _ => none
theorem lift_tuple {K : PySem.W.Frag} : LiftC T K (fun xs H Q => ∃ p ys, xs = [.ref p] ∧ ((SqL K H p ys ∧ ∀ l, H l = none → Q (.ref l) (upd H l (.tup ys))) ∨ (SqT K H p ys ∧ Q (.ref p) H))) gTuple := by
  intro io h F H vs xs z h' Q sr rr e q
  have one : ∃ v x, vs = [v] ∧ xs = [x] ∧ VR T K io h.length F v x := by
    cases rr with
    | nil => cases e
    | @cons v x vs xs r t =>
      cases t with
      | nil => exact ⟨v, x, rfl, rfl, r⟩
      | cons r2 t2 => cases v <;> cases e
  obtain ⟨v, x, rfl, rfl, r⟩ := one
  have viaL : (match lstOf h v with
    | some ys => some (Val.tup ys, h)
    | none => none) = some (z, h') → ∃ p ys, [x] = [V.ref p] ∧ ((SqL K H p ys ∧ ∀ l, H l = none → Q (.ref l) (upd H l (.tup ys))) ∨ (SqT K H p ys ∧ Q (.ref p) H)) := fun e => by
    cases el : lstOf h v with
    | none => rw [el] at e; cases e
    | some ys =>
      rw [el] at e
      cases e
      obtain ⟨a, xs, rfl, sq, r2⟩ := lstOf_ok sr r el
      exact ⟨a, xs, rfl, .inl ⟨sq, fun l hl => q io _ _ _ (sr.allocStep hl _) (sr.alloc hl _) (.tup (SqT.of upd_same) (r2.step (sr.allocStep hl (.tup xs))))⟩⟩
  cases r with
  | @tup ys a xs sq r2 => cases e; exact ⟨a, xs, rfl, .inr ⟨sqT_mono sr.sub sq, q io F H _ .refl sr (.tup sq r2)⟩⟩
  | ref k hk => exact viaL e
  | lst sq r2 => exact viaL e
  | str s => exact viaL e
  | non => exact viaL e
  | bl b => exact viaL e
  | int j => exact viaL e
  | obj a b c d => exact viaL e
  | glo g => exact viaL e
/-- list(x): a new mutable list -/
def gList : GC := fun h vs => match vs with
  | [.tup xs] => some (.ref h.length, h ++ [.lst xs])
  | [v] => (match lstOf h v with
    | some ys => some (.ref h.length, h ++ [.lst ys])
    | none => none)
  | _ => none
theorem push_new {K : PySem.W.Frag} {io : Nat → Addr} {F H : Hp} {h : Hh} {l : Addr} {ys : List Val} {xs : List V} (sr : SR T K io h F H) (r : VRs T K io h.length F ys xs) (hl : H l = none) :
    Step io h.length F H (ioPush io h.length l) (h ++ [Obj.lst ys]).length F (upd H l (.lst xs)) ∧ SR T K (ioPush io h.length l) (h ++ [Obj.lst ys]) F (upd H l (.lst xs)) ∧ VR T K (ioPush io h.length l) (h ++ [Obj.lst ys]).length F (.ref h.length) (.ref l) := by
  have hH : ∀ b u, H b = some u → upd H l (.lst xs) b = some u := upd_sub H hl
  refine ⟨sr.pushStep hl hH, sr.push hl hH ⟨xs, upd_same, r.mono (Nat.le_succ _) (fun k hk => ioPush_lt io l hk) (fun _ _ e => e)⟩, ?_⟩
  have vp : VR T K (ioPush io h.length l) (h ++ [Obj.lst ys]).length F (.ref h.length) (.ref (ioPush io h.length l h.length)) := .ref _ (by simp)
  rw [ioPush_at] at vp
  exact vp
theorem lift_list {K : PySem.W.Frag} : LiftC T K (fun xs H Q => ∃ p ys, xs = [.ref p] ∧ (SqL K H p ys ∨ SqT K H p ys) ∧ ∀ l, H l = none → Q (.ref l) (upd H l (.lst ys))) gList := by
  intro io h F H vs xs z h' Q sr rr e q
  have one : ∃ v x, vs = [v] ∧ xs = [x] ∧ VR T K io h.length F v x := by
    cases rr with
    | nil => cases e
    | @cons v x vs xs r t =>
      cases t with
      | nil => exact ⟨v, x, rfl, rfl, r⟩
      | cons r2 t2 => cases v <;> cases e
  obtain ⟨v, x, rfl, rfl, r⟩ := one
  have viaL : (match lstOf h v with
    | some ys => some (Val.ref h.length, h ++ [Obj.lst ys])
    | none => none) = some (z, h') → ∃ p ys, [x] = [V.ref p] ∧ (SqL K H p ys ∨ SqT K H p ys) ∧ ∀ l, H l = none → Q (.ref l) (upd H l (.lst ys)) := fun e => by
    cases el : lstOf h v with
    | none => rw [el] at e; cases e
    | some ys =>
      rw [el] at e
      cases e
      obtain ⟨a, xs, rfl, sq, r2⟩ := lstOf_ok sr r el
      exact ⟨a, xs, rfl, .inl sq, fun l hl => let ⟨s1, s2, s3⟩ := push_new sr r2 hl; q _ _ _ _ s1 s2 s3⟩
  cases r with
  | @tup ys a xs sq r2 => cases e; exact ⟨a, xs, rfl, .inr (sqT_mono sr.sub sq), fun l hl => let ⟨s1, s2, s3⟩ := push_new sr r2 hl; q _ _ _ _ s1 s2 s3⟩
  | ref k hk => exact viaL e
  | lst sq r2 => exact viaL e
  | str s => exact viaL e
  | non => exact viaL e
  | bl b => exact viaL e
  | int j => exact viaL e
  | obj a b c d => exact viaL e
  | glo g => exact viaL e

/-! ### methods of built-in types -/
abbrev GM := Hh → Val → List Val → Option (Val × Hh)
def LiftM (T : Tb) (K : PySem.W.Frag) (r : V → List V → Hp → VK → Prop) (g : GM) : Prop :=
  ∀ io h F H v x vs xs z h' Q, SR T K io h F H → VR T K io h.length F v x → VRs T K io h.length F vs xs → g h v vs = some (z, h') →
    (∀ io' F' H' x', Step io h.length F H io' h'.length F' H' → SR T K io' h' F' H' → VR T K io' h'.length F' z x' → Q x' H') → r x xs H Q
def isTy (ty : String) (h : Hh) (v : Val) : Bool := match v with
  | .str _ => decide (ty = "str")
  | v => decide (ty = "list") && (lstOf h v).isSome
theorem isTy_ok {K : PySem.W.Frag} {io : Nat → Addr} {F H : Hp} {h : Hh} {v : Val} {x : V} {ty : String} (sr : SR T K io h F H) (r : VR T K io h.length F v x) (e : isTy ty h v = true) : tyV K ty x H := by
  have viaL : (decide (ty = "list") && (lstOf h v).isSome) = true → tyV K ty x H := fun e => by
    rw [Bool.and_eq_true] at e
    obtain ⟨ys, el⟩ := Option.isSome_iff_exists.mp e.2
    obtain ⟨a, xs, rfl, sq, r2⟩ := lstOf_ok sr r el
    exact .inl ⟨of_decide_eq_true e.1, xs, sq⟩
  unfold isTy at e
  cases r with
  | str s => exact (of_decide_eq_true e : ty = "str")
  | ref k hk => exact viaL e
  | lst sq r2 => exact viaL e
  | tup sq r2 => exact viaL e
  | non => exact viaL e
  | bl b => exact viaL e
  | int j => exact viaL e
  | obj a b c d => exact viaL e
  | glo g => exact viaL e
def xBM (ty : String) (g : GM) (o : Ex) (l : Lx) : Ex := fun sg h => (o sg h).bind fun ov h1 => if isTy ty h1 ov = true then (l sg h1).bind fun vs h2 => .ofP (g h2 ov vs) else .bad
def xBM0 (ty : String) (g : GM) (o : Ex) : Ex := fun sg h => (o sg h).bind fun ov h1 => if isTy ty h1 ov = true then .ofP (g h1 ov []) else .bad
theorem je_bm {ty id : String} {name : Str} {r : V → List V → Hp → VK → Prop} {g : GM} (pa : PlainAttrs ty) (slot : Slot ty name id) (hty : typeOf (.builtin id) = pure (.type "method_descriptor")) (hm : MtR X id r) (hl : LiftM T X.K r g) (ho : JE T X W o fo) (ha : JA T X W (e :: es) fl)
    (hbase : attributeBase o name X.env (eval o X.env) = eval o X.env := by rfl)
    (hfew : ((backTo cpos (starEach (e :: es) X.env)).all (fun x => !x.1) && (backToKw cpos (keywordEach [] X.env)).all (fun x => x.1.isSome)
      && decide ((e :: es).length + ([] : List Keyword).length + (if ([] : List Keyword).isEmpty then 0 else 1) < 30)) = true := by rfl)
    (hline : (apos.endLine == cpos.line) = true := by rfl) (hs : starEach (e :: es) X.env = (false, eval e X.env) :: starEach es X.env := by rfl) (hplain : (backTo cpos (starEach es X.env)).any (·.1) = false := by rfl) :
    JE T X W (.Call (.Attribute o name apos) (e :: es) [] cpos) (xBM ty g fo fl) := by
  refine pe_imp (pe_bm pa slot hty hm ho ha hbase hfew hline hs hplain) fun σ H Q ⟨io, h, F, sg, sr, rs, w⟩ => ⟨io, h, F, sg, sr, rs, Wants.bind w fun ov h1 io1 F1 H1 x st sr1 vr w1 => ?_⟩
  by_cases ht : isTy ty h1 ov = true
  · rw [if_pos ht] at w1
    refine ⟨isTy_ok sr1 vr ht, io1, h1, F1, sg, sr1, rs.step st, Wants.bindOfL w1 fun vs h2 io2 F2 H2 xs st2 sr2 vrs w2 => ?_⟩
    obtain ⟨z, h', e, w3⟩ := wants_ofP w2
    exact hl io2 h2 F2 H2 ov x vs xs z h' Q sr2 (vr.step st2) vrs e w3
  · rw [if_neg ht] at w1; exact w1.elim
theorem je_bm0 {ty id : String} {name : Str} {r : V → List V → Hp → VK → Prop} {g : GM} (pa : PlainAttrs ty) (slot : Slot ty name id) (hty : typeOf (.builtin id) = pure (.type "method_descriptor")) (hm : MtR X id r) (hl : LiftM T X.K r g) (ho : JE T X W o fo)
    (hbase : attributeBase o name X.env (eval o X.env) = eval o X.env := by rfl) (hline : (apos.endLine == cpos.line) = true := by rfl) : JE T X W (.Call (.Attribute o name apos) [] [] cpos) (xBM0 ty g fo) := by
  refine pe_imp (pe_bm0 pa slot hty hm ho hbase hline) fun σ H Q ⟨io, h, F, sg, sr, rs, w⟩ => ⟨io, h, F, sg, sr, rs, Wants.bind w fun ov h1 io1 F1 H1 x st sr1 vr w1 => ?_⟩
  by_cases ht : isTy ty h1 ov = true
  · rw [if_pos ht] at w1
    obtain ⟨z, h', e, w3⟩ := wants_ofP w1
    exact ⟨isTy_ok sr1 vr ht, hl io1 h1 F1 H1 ov x [] [] z h' Q sr1 vr .nil e w3⟩
  · rw [if_neg ht] at w1; exact w1.elim
/-- a mutable list -/
def mutOf (h : Hh) : Val → Option (Nat × List Val)
  | .ref k => (match h[k]? with
    | some (.lst vs) => some (k, vs)
    | _ => none)
  | _ => none
theorem mutOf_ok {K : PySem.W.Frag} {io : Nat → Addr} {F H : Hp} {h : Hh} {v : Val} {x : V} {k : Nat} {vs : List Val} (sr : SR T K io h F H) (r : VR T K io h.length F v x) (e : mutOf h v = some (k, vs)) : ∃ xs, x = .ref (io k) ∧ k < h.length ∧ H (io k) = some (.lst xs) ∧ VRs T K io h.length F vs xs ∧
    ∀ ys zs, VRs T K io h.length F ys zs → Step io h.length F H io (h.set k (.lst ys)).length F (upd H (io k) (.lst zs)) ∧ SR T K io (h.set k (.lst ys)) F (upd H (io k) (.lst zs)) := by
  unfold mutOf at e
  cases r with
  | ref k' hk =>
    dsimp only at e
    cases ek : h[k']? with
    | none => rw [ek] at e; cases e
    | some ob =>
      rw [ek] at e
      cases ob with
      | ins c vs => cases e
      | lst us =>
        cases e
        obtain ⟨xs, ea, rr⟩ := sr.obj k _ ek
        exact ⟨xs, rfl, hk, ea, rr, fun ys zs r2 => ⟨sr.writeStep hk, sr.write hk (fun y q => by rw [ea] at q; cases q) ⟨zs, upd_same, r2⟩⟩⟩
  | _ => cases e
def gAppend : GM := fun h v vs => match vs with
  | [y] => (match mutOf h v with
    | some (k, us) => if us.length < 1000000 then some (.non, h.set k (.lst (us ++ [y]))) else none
    | none => none)
  | _ => none
theorem lift_append {K : PySem.W.Frag} : LiftM T K rAppend gAppend := by
  intro io h F H v x vs xs z h' Q sr vr rr e q
  unfold gAppend at e
  split at e
  · rename_i y
    cases rr with
    | @cons _ yx _ _ ry t =>
      cases t
      cases em : mutOf h v with
      | none => rw [em] at e; cases e
      | some p =>
        obtain ⟨k, us⟩ := p
        rw [em] at e
        dsimp only at e
        by_cases hz : us.length < 1000000
        · rw [if_pos hz] at e
          cases e
          obtain ⟨xs, rfl, hk, ea, rr, go⟩ := mutOf_ok sr vr em
          obtain ⟨s1, s2⟩ := go (us ++ [y]) (xs ++ [yx]) (rr.append (.cons ry .nil))
          exact ⟨io k, xs, yx, rfl, rfl, ea, by rw [← rr.length, sizeLine_eq]; omega, q io F _ _ s1 s2 .non⟩
        · rw [if_neg hz] at e; cases e
  · cases e
def gPop : GM := fun h v vs => match vs with
  | [] => (match mutOf h v with
    | some (k, us) => (us[us.length - 1]?).map fun y => (y, h.set k (.lst us.dropLast))
    | none => none)
  | _ => none
theorem VRs.dropLast {K : PySem.W.Frag} {io : Nat → Addr} {n : Nat} {F : Hp} {vs : List Val} {xs : List V} (r : VRs T K io n F vs xs) : VRs T K io n F vs.dropLast xs.dropLast := by
  rw [List.dropLast_eq_take, List.dropLast_eq_take, r.length]
  exact r.take _
theorem lift_pop {K : PySem.W.Frag} : LiftM T K rPop gPop := by
  intro io h F H v x vs xs z h' Q sr vr rr e q
  unfold gPop at e
  split at e
  · cases rr
    cases em : mutOf h v with
    | none => rw [em] at e; cases e
    | some p =>
      obtain ⟨k, us⟩ := p
      rw [em] at e
      obtain ⟨y, ey, e2⟩ := map_some e
      cases e2
      obtain ⟨xs, rfl, hk, ea, rr, go⟩ := mutOf_ok sr vr em
      obtain ⟨s1, s2⟩ := go us.dropLast xs.dropLast rr.dropLast
      obtain ⟨yx, ex, ry⟩ := rr.get ey
      rw [rr.length] at ex
      exact ⟨io k, xs, yx, rfl, rfl, ea, ex, q io F _ _ s1 s2 (by simpa using ry.step s1)⟩
  · cases e
/-- xs[i] = v -/
def gSetIx (o i : Ex) : Gx := fun v sg h => match o sg h with
  | .ok ov h1 => (match i sg h1 with
    | .ok (.int j) h2 => (match mutOf h2 ov with
      | some (k, us) => if 0 ≤ j ∧ j < us.length then .ok sg (h2.set k (.lst (us.set j.toNat v))) else .bad
      | none => .bad)
    | _ => .bad)
  | _ => .bad
theorem jg_ix {i : Expr} {fi : Ex} (ho : JE T X Wno o fo) (hi : JE T X Wno i fi)
    (ha : ∀ v, assign (.Subscript o i pos) X.env v = (do
      let ov ← holding [v] (eval o X.env)
      let iv ← holding [v, ov] (eval i X.env)
      standAt pos
      holding [v, ov, iv] (setItem ov iv v)
      release [v, ov, iv] []) := by intro _; rfl) : JG T X (.Subscript o i pos) (gSetIx fo fi) := by
  refine pg_imp (pg_sub ho hi set_list ha) fun y σ H Q ⟨io, h, F, sg, v, sr, rs, vr, w⟩ => ⟨io, h, F, sg, sr, rs, ?_⟩
  unfold gSetIx at w
  cases eo : fo sg h with
  | bad => rw [eo] at w; exact w
  | exc c fs h1 => rw [eo] at w; exact w.elim
  | ok ov h1 =>
    rw [eo] at w
    intro io1 F1 H1 ox st1 sr1 vo
    refine ⟨io1, h1, F1, sg, sr1, rs.step st1, ?_⟩
    dsimp only at w
    cases ei : fi sg h1 with
    | bad => rw [ei] at w; exact w
    | exc c fs h1 => rw [ei] at w; exact w.elim
    | ok iv h2 =>
      rw [ei] at w
      intro io2 F2 H2 ix st2 sr2 vi
      cases vi with
      | int j =>
        dsimp only at w
        cases em : mutOf h2 ov with
        | none => rw [em] at w; exact w.elim
        | some p =>
          obtain ⟨k, us⟩ := p
          rw [em] at w
          dsimp only at w
          by_cases hj : 0 ≤ j ∧ j < us.length
          · rw [if_pos hj] at w
            obtain ⟨xs, rfl, hk, ea, rr, go⟩ := mutOf_ok sr2 (vo.step st2) em
            have st02 := st1.trans sr1 st2
            obtain ⟨s1, s2⟩ := go (us.set j.toNat v) (xs.set j.toNat y) (rr.set (vr.step st02) _)
            refine ⟨io2 k, xs, j, j.toNat, rfl, rfl, ea, ?_, w io2 F2 _ σ (st02.trans sr2 s1) s2 ((rs.step st02).step s1)⟩
            unfold ixN
            rw [if_pos hj.1, if_pos (by rw [← rr.length]; exact hj.2)]
          · rw [if_neg hj] at w; exact w.elim
      | _ => exact w.elim
end
end Py

namespace Py
open PySem PySem.Spec PyProof.Rows L2

/-! ### isinstance with a built-in class -/
inductive Kd where
  | non | bool | int | str | tuple | list
  deriving DecidableEq
def Kd.name : Kd → String
  | .non => "NoneType"
  | .bool => "bool"
  | .int => "int"
  | .str => "str"
  | .tuple => "tuple"
  | .list => "list"
def kdOf (h : Hh) : Val → Option Kd
  | .non => some .non
  | .bl _ => some .bool
  | .int _ => some .int
  | .str _ => some .str
  | .tup _ => some .tuple
  | v => (lstOf h v).map fun _ => .list
def kdIs (a b : Kd) : Bool := decide (a = b) || (decide (a = .bool) && decide (b = .int))
theorem kdIs_ok (K : PySem.W.Frag) (a b : Kd) : PySem.W.kitOne K (.type a.name) (.type b.name) = some (kdIs a b) := by
  apply kit_ty
  cases a <;> cases b <;> decide +kernel
section
variable {T : Tb} {K : PySem.W.Frag} {io : Nat → Addr} {F H : Hp} {h : Hh} {v : Val} {x : V} {k : Kd}
theorem tyx_lst {a : Addr} {xs : List V} (q : SqL K H a xs) : TyX K H (.ref a) (.type "list") := by
  rcases q with (q | ⟨o, q⟩) | ⟨o, its, n, e, c, _⟩
  · exact .base (.lst q)
  · exact .base (.frz q)
  · exact .kList e c
theorem tyx_tup {a : Addr} {xs : List V} (q : SqT K H a xs) : TyX K H (.ref a) (.type "tuple") := by
  rcases q with (q | ⟨o, q⟩) | ⟨o, its, n, e, c, _⟩
  · exact .base (.tup q)
  · exact .fTuple q
  · exact .kTuple e c
theorem kdOf_ok (sr : SR T K io h F H) (r : VR T K io h.length F v x) (e : kdOf h v = some k) : TyX K H x (.type k.name) := by
  have viaL : (lstOf h v).map (fun _ => Kd.list) = some k → TyX K H x (.type k.name) := fun e => by
    obtain ⟨ys, el, rfl⟩ := map_some e
    obtain ⟨a, xs, rfl, sq, r2⟩ := lstOf_ok sr r el
    exact tyx_lst sq
  unfold kdOf at e
  cases r with
  | non => cases e; exact .base .non
  | bl b => cases e; exact .base (.bl b)
  | int i => cases e; exact .base (.int i)
  | str s => cases e; exact .base (.str _)
  | tup sq r2 => cases e; exact tyx_tup (sqT_mono sr.sub sq)
  | ref k hk => exact viaL e
  | lst sq r2 => exact viaL e
  | obj a b c d => exact viaL e
  | glo g => exact viaL e
end
section
variable {T : Tb} {X : Cx} {W : WX} {a b c e o : Expr} {es : List Expr} {fa fb fe fo : Ex} {fl : Lx} {pos apos cpos p p1 p2 p3 : Pos}
def gIsi (b : Kd) : Hh → Val → Option Val := fun h v => (kdOf h v).map fun k => .bl (kdIs k b)
def gIsi2 (b c : Kd) : Hh → Val → Option Val := fun h v => (kdOf h v).map fun k => .bl (kdIs k b || kdIs k c)
theorem je_isi (b : Kd) (he : JE T X W e fe) (hm : X.mg "isinstance" = none) {cn : Str} (hmc : X.mg cn = none) (hvc : bootBuiltins cn = some (.type b.name) := by decide +kernel) (hgc : Gl X cn := by rfl) (hg : Gl X "isinstance" := by rfl) (hn : cn ≠ "__name__" := by decide) (hd : (cn == ("__debug__" : Str)) = false := by decide)
    (hs : starEach [e, .Name cn p2] X.env = (false, eval e X.env) :: starEach [.Name cn p2] X.env := by rfl) (hs2 : starEach [.Name cn p2] X.env = (false, eval (.Name cn p2) X.env) :: starEach [] X.env := by rfl) (hpl : (backTo pos (starEach [.Name cn p2] X.env)).any (·.1) = false := by rfl) :
    JE T X W (.Call (.Name "isinstance" p1) [e, .Name cn p2] [] pos) (xUn (gIsi b) fe) := by
  refine pe_imp (pe_callB call_isi hg hm (by decide +kernel) (pa_cons he (pa_cons (pe_bltn (v := .ty b.name) hgc hmc hvc rfl hn hd) pa_nil hs2) hs) (by decide) (by decide) hs hpl) fun σ H Q ⟨io, h, F, sg, sr, rs, w⟩ => ⟨io, h, F, sg, sr, rs, Wants.bind w fun v h1 io1 F1 H1 x st sr1 vr w1 => ?_⟩
  obtain ⟨z, ez, w2⟩ := wants_ofO w1
  obtain ⟨k, ek, rfl⟩ := map_some ez
  exact ⟨x, .ty b.name, .type k.name, .type b.name, kdIs k b, rfl, .ty _, kdOf_ok sr1 vr ek, kdIs_ok _ k b, w2 io1 F1 H1 _ .refl sr1 (.bl _)⟩
theorem je_isi2 (b c : Kd) (he : JE T X W e fe) (hm : X.mg "isinstance" = none) {cb cc : Str} {kt : Nat} (hmb : X.mg cb = none) (hmc : X.mg cc = none) (hvb : bootBuiltins cb = some (.type b.name) := by decide +kernel) (hvc : bootBuiltins cc = some (.type c.name) := by decide +kernel) (hgb : Gl X cb := by rfl) (hgc : Gl X cc := by rfl) (hg : Gl X "isinstance" := by rfl)
    (hn : cb ≠ "__name__" := by decide) (hd : (cb == ("__debug__" : Str)) = false := by decide) (hn' : cc ≠ "__name__" := by decide) (hd' : (cc == ("__debug__" : Str)) = false := by decide)
    (hs : starEach [e, .Tuple [.Name cb p2, .Name cc p3] kt p] X.env = (false, eval e X.env) :: starEach [.Tuple [.Name cb p2, .Name cc p3] kt p] X.env := by rfl) (hs2 : starEach [.Tuple [.Name cb p2, .Name cc p3] kt p] X.env = (false, eval (.Tuple [.Name cb p2, .Name cc p3] kt p) X.env) :: starEach [] X.env := by rfl)
    (hs3 : starEach [.Name cb p2, .Name cc p3] X.env = (false, eval (.Name cb p2) X.env) :: starEach [.Name cc p3] X.env := by rfl) (hs4 : starEach [.Name cc p3] X.env = (false, eval (.Name cc p3) X.env) :: starEach [] X.env := by rfl) (hpl : (backTo pos (starEach [.Tuple [.Name cb p2, .Name cc p3] kt p] X.env)).any (·.1) = false := by rfl) :
    JE T X W (.Call (.Name "isinstance" p1) [e, .Tuple [.Name cb p2, .Name cc p3] kt p] [] pos) (xUn (gIsi2 b c) fe) := by
  refine pe_imp (pe_callB call_isiT hg hm (by decide +kernel) (pa_cons he (pa_cons (pe_tup (pa_cons (pe_bltn (v := .ty b.name) hgb hmb hvb rfl hn hd) (pa_cons (pe_bltn (v := .ty c.name) hgc hmc hvc rfl hn' hd') pa_nil hs4) hs3)) pa_nil hs2) hs) (by decide) (by decide) hs hpl) fun σ H Q ⟨io, h, F, sg, sr, rs, w⟩ => ⟨io, h, F, sg, sr, rs, Wants.bind w fun v h1 io1 F1 H1 x st sr1 vr w1 => ?_⟩
  obtain ⟨z, ez, w2⟩ := wants_ofO w1
  obtain ⟨k, ek, rfl⟩ := map_some ez
  refine ⟨by show 2 ≤ sizeLine; decide, fun tp htp => ?_⟩
  refine ⟨x, tp, [.ty b.name, .ty c.name], .type k.name, [.type b.name, .type c.name], kdIs k b || kdIs k c, rfl, upd_same, .cons (.ty _) (.cons (.ty _) .nil), ?_, ?_, ?_⟩
  · exact kdOf_ok (sr1.alloc htp (.tup [.ty b.name, .ty c.name])) (vr.step (sr1.allocStep htp _)) ek
  · refine kitAny_cons (kdIs_ok _ k b) (fun e1 => kitAny_cons (kdIs_ok _ k c) (fun e2 => ?_) fun e2 => ?_) fun e1 => ?_
    · rw [e1, e2]; rfl
    · rw [e2]; simp
    · rw [e1]; rfl
  · exact w2 io1 _ _ _ (sr1.allocStep htp _) (sr1.alloc htp _) (.bl _)

/-! ### in, not in: flat things -/
def flat : Val → Bool
  | .non => true
  | .bl _ => true
  | .int _ => true
  | .str _ => true
  | _ => false
def eqF : Val → Val → Bool
  | .non, .non => true
  | .bl a, .bl b => a == b
  | .bl a, .int b => (if a then 1 else 0) == b
  | .int a, .bl b => a == (if b then 1 else 0)
  | .int a, .int b => a == b
  | .str a, .str b => a == b
  | _, _ => false
def seqOf (h : Hh) : Val → Option (List Val)
  | .tup vs => some vs
  | v => lstOf h v
def gIn (neg : Bool) : G2 := fun h v u => match seqOf h u with
  | some vs => if (flat v && vs.all flat) = true then some (.bl (if neg then !(vs.any fun y => eqF y v) else vs.any fun y => eqF y v)) else none
  | none => none
theorem seqOf_ok {K : PySem.W.Frag} {io : Nat → Addr} {F H : Hp} {h : Hh} {v : Val} {x : V} {vs : List Val} (sr : SR T K io h F H) (r : VR T K io h.length F v x) (e : seqOf h v = some vs) : ∃ a xs, x = .ref a ∧ (SqL K H a xs ∨ SqT K H a xs) ∧ VRs T K io h.length F vs xs := by
  have viaL : lstOf h v = some vs → ∃ a xs, x = .ref a ∧ (SqL K H a xs ∨ SqT K H a xs) ∧ VRs T K io h.length F vs xs := fun e => by
    obtain ⟨a, xs, e1, sq, r2⟩ := lstOf_ok sr r e
    exact ⟨a, xs, e1, .inl sq, r2⟩
  unfold seqOf at e
  cases r with
  | @tup vs' a xs sq r2 => cases e; exact ⟨a, xs, rfl, .inr (sqT_mono sr.sub sq), r2⟩
  | non => exact viaL e
  | bl b => exact viaL e
  | int i => exact viaL e
  | str s => exact viaL e
  | ref k hk => exact viaL e
  | lst sq r2 => exact viaL e
  | obj a b c d => exact viaL e
  | glo g => exact viaL e
theorem toArray_beq (a b : List Nat) : ((⟨a.toArray⟩ : Str) == ⟨b.toArray⟩) = (a == b) := by
  rw [Bool.eq_iff_iff]
  simp
theorem flat_ok {K : PySem.W.Frag} {io : Nat → Addr} {n : Nat} {F : Hp} {v u : Val} {x y : V} (r : VR T K io n F v x) (q : VR T K io n F u y) (hv : flat v = true) (hu : flat u = true) : flatV x = true ∧ eqV x y = eqF v u := by
  cases r with
  | non => cases q <;> first | exact ⟨rfl, rfl⟩ | cases hu
  | bl b => cases q <;> first | exact ⟨rfl, rfl⟩ | cases hu
  | int i => cases q <;> first | exact ⟨rfl, rfl⟩ | cases hu
  | str s =>
    cases q with
    | str t => exact ⟨rfl, toArray_beq s t⟩
    | _ => first | exact ⟨rfl, rfl⟩ | cases hu
  | _ => cases hv
theorem flat_all {K : PySem.W.Frag} {io : Nat → Addr} {n : Nat} {F : Hp} {v : Val} {x : V} (r : VR T K io n F v x) (hv : flat v = true) : ∀ {vs : List Val} {xs : List V}, VRs T K io n F vs xs → vs.all flat = true → xs.all flatV = true ∧ inV x xs = vs.any fun y => eqF y v
  | _, _, .nil, _ => ⟨rfl, rfl⟩
  | _, _, .cons a t, h => by
    rw [List.all_cons, Bool.and_eq_true] at h
    obtain ⟨h1, h2⟩ := flat_all r hv t h.2
    obtain ⟨f1, f2⟩ := flat_ok a r h.1 hv
    refine ⟨by rw [List.all_cons, f1, h1]; rfl, ?_⟩
    unfold inV at h2 ⊢
    rw [List.any_cons, List.any_cons, f2, h2]
theorem lift_in {K : PySem.W.Frag} (neg : Bool) : Lift2 T K (rIn K neg) (gIn neg) := by
  intro io h F H v u x y z Q sr vr ur e q
  unfold gIn at e
  cases es : seqOf h u with
  | none => rw [es] at e; cases e
  | some vs =>
    rw [es] at e
    dsimp only at e
    by_cases hf : (flat v && vs.all flat) = true
    · rw [if_pos hf] at e
      rw [Bool.and_eq_true] at hf
      cases e
      obtain ⟨a, xs, rfl, sq, r2⟩ := seqOf_ok sr ur es
      obtain ⟨f1, f2⟩ := flat_all vr hf.1 r2 hf.2
      refine ⟨a, xs, rfl, sq, (flat_ok vr vr hf.1 hf.1).1, f1, ?_⟩
      rw [f2]
      exact q F H _ .refl sr (.bl _)
    · rw [if_neg hf] at e; cases e

/-! ### starred items -/
def xStar (a : Ex) (r : Lx) : Lx := fun sg h => (a sg h).bindL fun v h1 => match seqOf h1 v with
  | some us => (r sg h1).bindL fun vs h2 => .ok (us ++ vs) h2
  | none => .bad
theorem ja_star (ha : JE T X W e fe) (hr : JA T X W es fl) (hs : starEach (.Starred e p :: es) X.env = (true, eval e X.env) :: starEach es X.env := by rfl) : JA T X W (.Starred e p :: es) (xStar fe fl) := by
  refine pa_imp (StX.pa_star ha hr hs) fun σ H Q ⟨io, h, F, sg, sr, rs, w⟩ => ⟨io, h, F, sg, sr, rs, WantsL.ofBind w fun v h1 io1 F1 H1 x st sr1 vr w1 => ?_⟩
  cases ev : seqOf h1 v with
  | none => rw [ev] at w1; exact w1.elim
  | some us =>
    rw [ev] at w1
    obtain ⟨a, xs, ex, sq, r2⟩ := seqOf_ok sr1 vr ev
    refine ⟨a, xs, ex, sq.symm, io1, h1, F1, sg, sr1, rs.step st, WantsL.bindL w1 fun vs h2 io2 F2 H2 ys st2 sr2 vrs w2 => ?_⟩
    exact w2 io2 F2 H2 _ .refl sr2 ((r2.step st2).append vrs)

/-! ### name = [ .. for ..] -/
theorem js_setLc (i : Nat) {y : Str} {py spos : Pos} {elt tg iter : Expr} {ifs : List Expr} {scope : Scope} (own : List (Str × Nat)) {fi : Ix} {g : Gx} {t el : Ex} {ws : List Nat} (hc : X.calm = true) (hN : X.N.Nodup) (hi : JI T X W tg iter fi) (ok : BlkOk X.N X.env.scope scope own) (hw : ∀ j, j ∈ ws → j ∈ own.map (·.2))
    (hg : ∀ (s : Shared) (H : Hp) (C : Addr) (cl : List (Str × Addr)) (fp : List Addr), JGw T (X.blk s H scope (compEnvC scope cl C X.env) fp) ws tg g) (ht : ∀ (s : Shared) (H : Hp) (C : Addr) (cl : List (Str × Addr)) (fp : List Addr), JTs T (X.blk s H scope (compEnvC scope cl C X.env) fp) Wno ifs t)
    (he : ∀ (s : Shared) (H : Hp) (C : Addr) (cl : List (Str × Addr)) (fp : List Addr), JE T (X.blk s H scope (compEnvC scope cl C X.env) fp) Wno elt el) (hy : X.N[i]? = some y := by rfl) (hyl : X.env.scope.names.lookup y = some .local := by rfl)
    (hsw : swapsWith (.ListComp elt [⟨tg, iter, ifs, 0⟩] scope pos) (some (.Name y py)) spos.line X.env = pure true := by exact sw_true rfl rfl rfl (by decide +kernel)) (hs : ∀ x, foldedSetIterable iter X.env x = pure x := by intro _; rfl) :
    JS T X W (.Assign [.Name y py] (.ListComp elt [⟨tg, iter, ifs, 0⟩] scope pos) spos) (xSet i (xComp (own.map (·.2)) fi g t el)) := by
  refine ps_imp (ps_setLc hc hN hy hyl hsw hi ok hg ht he hs) fun D σ H ⟨io, h, F, sg, sr, rs, w⟩ => comp_core (tg := tg) (iter := iter) (elt := elt) (ifs := ifs) (Q := fun _ _ => True) hw sr rs ?_
  unfold xSet xComp at w
  cases e : xCompL (own.map (·.2)) fi g t el sg h with
  | bad => rw [e] at w; exact w
  | exc c fs h' => rw [e] at w; exact fun io' F' H' d st sr xr => w io' F' H' σ d st sr (rs.step st) xr
  | ok acc h' =>
    rw [e] at w
    intro D io' F' H' xs hD st sr' hd va fd nd
    obtain ⟨s1, s2, s3⟩ := CInv.push hD st sr' hd va fd nd
    exact w _ F' H' _ s1 s2 ((rs.step s1).set i s3)

/-! ### a call that gets one mutable list: it may change it -/
/-- frozen, but for the object 0 -/
def frzB (T : Tb) (h : Hh) : Nat → Val → Option Val
  | 0, _ => none
  | n + 1, v => match v with
    | .ref k => if k = 0 then none else (match h[k]? with
      | some (.lst vs) => (vs.mapM (frzB T h n)).map .lst
      | some (.ins c vs) => if vs.length = (T.fn c).length then (vs.mapM (frzB T h n)).map (.obj c) else none
      | none => none)
    | .tup vs => (vs.mapM (frzB T h n)).map .tup
    | .lst vs => (vs.mapM (frzB T h n)).map .lst
    | .obj c vs => (vs.mapM (frzB T h n)).map (.obj c)
    | v => some v
theorem frzB_ok {K : PySem.W.Frag} {io io' : Nat → Addr} {F F2 H : Hp} {h : Hh} (sr : SR T K io h F H) (hF : ∀ b o, F b = some o → F2 b = some o) (ht : ∀ k, 0 < k → k < h.length → F2 (io k) = H (io k)) (ho : ∀ k dx, 0 < k → k < h.length → H dx = some (.own (io k)) → F2 dx = some (.own (io k))) :
    ∀ (fu : Nat) (v v' : Val) (x : V), frzB T h fu v = some v' → VR T K io h.length F v x → VR T K io' 0 F2 v' x
  | 0, _, _, _, e, _ => by cases e
  | fu + 1, v, v', x, e, r => by
    have ih := frzB_ok (io' := io') sr hF ht ho fu
    unfold frzB at e
    cases r with
    | non => cases e; exact .non
    | bl b => cases e; exact .bl b
    | int i => cases e; exact .int i
    | str s => cases e; exact .str s
    | glo g => cases e; exact .glo g
    | @tup vs a xs q rr =>
      obtain ⟨us, e1, rfl⟩ := map_some e
      exact .tup (sqT_mono hF q) (mapM_VRs ih e1 rr)
    | @lst vs a xs q rr =>
      obtain ⟨us, e1, rfl⟩ := map_some e
      exact .lst (sqL_mono hF q) (mapM_VRs ih e1 rr)
    | @obj c vs a dx xs q qd rr hl =>
      obtain ⟨us, e1, rfl⟩ := map_some e
      exact .obj (hF _ _ q) (hF _ _ qd) (mapM_VRs ih e1 rr) hl
    | ref k hk =>
      dsimp only at e
      by_cases h0 : k = 0
      · rw [if_pos h0] at e; cases e
      · rw [if_neg h0] at e
        have kp : 0 < k := Nat.pos_of_ne_zero h0
        cases ek : h[k]? with
        | none => rw [ek] at e; cases e
        | some ob =>
          rw [ek] at e
          have o := sr.obj k ob ek
          cases ob with
          | lst vs =>
            obtain ⟨xs, ea, rr⟩ := o
            obtain ⟨us, e1, rfl⟩ := map_some e
            exact .lst (SqL.of (by rw [ht k kp hk]; exact ea)) (mapM_VRs ih e1 rr)
          | ins c vs =>
            obtain ⟨dx, xs, ea, ed, rr, hl⟩ := o
            dsimp only at e
            by_cases hz : vs.length = (T.fn c).length
            · rw [if_pos hz] at e
              obtain ⟨us, e1, rfl⟩ := map_some e
              refine .obj (dx := dx) (xs := xs) (by rw [ht k kp hk, ea, hz, List.take_length]) (ho k dx kp hk ed) (mapM_VRs ih e1 rr) (by rw [← rr.length]; exact hz)
            · rw [if_neg hz] at e; cases e
open Classical in
noncomputable def FBof (io' : Nat → Addr) (n' : Nat) (F' H' : Hp) : Hp := fun b => match F' b with
  | some o => some o
  | none => if (∃ k, 0 < k ∧ k < n' ∧ io' k = b) ∨ (∃ k, 0 < k ∧ k < n' ∧ H' b = some (.own (io' k))) then H' b else none
theorem FBof_sub {io' : Nat → Addr} {F' H' : Hp} {n' : Nat} : ∀ b o, F' b = some o → FBof io' n' F' H' b = some o := fun b o e => by unfold FBof; rw [e]
theorem FBof_cases {io' : Nat → Addr} {F' H' : Hp} {n' : Nat} {b : Addr} {o : HO} (e : FBof io' n' F' H' b = some o) : F' b = some o ∨ (H' b = some o ∧ ((∃ k, 0 < k ∧ k < n' ∧ io' k = b) ∨ ∃ y, o = .own y)) := by
  unfold FBof at e
  cases q : F' b with
  | some u => rw [q] at e; cases e; exact .inl rfl
  | none =>
    rw [q] at e
    dsimp only at e
    split at e
    · rename_i z
      refine .inr ⟨e, ?_⟩
      rcases z with z | ⟨k, _, _, z⟩
      · exact .inl z
      · rw [z] at e; cases e; exact .inr ⟨_, rfl⟩
    · cases e
def callB (T : Tb) (f : Fx) (as : List Val) (h : Hh) : Res := match as with
  | .ref k :: rest => (match h[k]? with
    | some (.lst cs) => if (pureVs rest && pureVs cs) = true then (match f [.lst cs] (.ref 0 :: rest) with
      | .ok v h' => (match (h'[0]? : Option Obj) with
        | some (Obj.lst cs') => if pureVs cs' = true then (match (if pureV v = true then some v else frzB T h' 30 v) with
          | some v' => .ok v' (h.set k (.lst cs'))
          | none => .bad) else .bad
        | _ => .bad)
      | _ => .bad) else .bad
    | _ => .bad)
  | _ => .bad
theorem callB_ok {K : PySem.W.Frag} {io : Nat → Addr} {F H : Hp} {h : Hh} {W : XK} {Q : VK} {f : Fx} {as : List Val} {vs : List V} (sr : SR T K io h F H) (r : VRs T K io h.length F as vs) (w : Wants T K io h.length F H W Q (callB T f as h)) : spF T K f vs H Q W := by
  unfold callB at w
  split at w
  · rename_i k rest
    cases ek : h[k]? with
    | none => rw [ek] at w; exact w.elim
    | some ob =>
      rw [ek] at w
      cases ob with
      | ins c us => exact w.elim
      | lst cs =>
        dsimp only at w
        by_cases hp : (pureVs rest && pureVs cs) = true
        · rw [if_pos hp] at w
          rw [Bool.and_eq_true] at hp
          cases r with
          | @cons _ x0 _ xs0 r0 rt =>
          cases r0 with
          | ref _ hk =>
          obtain ⟨ys, ea, rc⟩ := sr.obj k _ ek
          let io0 : Nat → Addr := fun _ => io k
          have s0 : SR T K io0 [.lst cs] F H := by
            refine ⟨sr.sub, fun j hj => sr.dis k hk, fun i j hi hj _ => ?_, fun j o e => ?_⟩
            · have h1 : i < 1 := hi
              have h2 : j < 1 := hj
              omega
            · have hj : j = 0 := by
                have h1 : j < 1 := (List.getElem?_eq_some_iff.mp e).1
                omega
              subst hj
              cases (Option.some.inj e : Obj.lst cs = o)
              exact ⟨ys, ea, rc.pure hp.2⟩
          refine ⟨io0, [.lst cs], F, .ref 0 :: rest, s0, .cons (.ref 0 (Nat.lt_succ_self 0)) (rt.pure hp.1), ?_⟩
          cases e : f [.lst cs] (.ref 0 :: rest) with
          | bad => rw [e] at w; exact w
          | exc c fs h' => rw [e] at w; exact w.elim
          | ok v h' =>
            rw [e] at w
            intro io1 F1 H1 x1 st sr1 vr
            dsimp only at w
            cases e0 : h'[0]? with
            | none => rw [e0] at w; exact w.elim
            | some ob =>
              rw [e0] at w
              cases ob with
              | ins c us => exact w.elim
              | lst cs' =>
                dsimp only at w
                by_cases hq : pureVs cs' = true
                · rw [if_pos hq] at w
                  cases ev : (if pureV v = true then some v else frzB T h' 30 v) with
                  | none => rw [ev] at w; exact w.elim
                  | some v' =>
                    rw [ev] at w
                    have hlen : 0 < h'.length := (List.getElem?_eq_some_iff.mp e0).1
                    have i0 : io1 0 = io k := st.eq 0 (Nat.lt_succ_self 0)
                    obtain ⟨zs, ea1, rz⟩ := sr1.obj 0 _ e0
                    rw [i0] at ea1
                    have fr : ∀ b o, H b = some o → b ≠ io k → H1 b = some o := fun b o hb hne => st.frame b o hb fun j hj z => hne (show b = io k from (show io0 j = b from z).symm)
                    have keep : ∀ j, j < h.length → j ≠ k → ∀ o, H (io j) = some o → H1 (io j) = some o := fun j hj hne o ho => fr _ o ho fun z => hne (sr.inj j k hj hk z)
                    have dis2 : ∀ j, j < h.length → FBof io1 h'.length F1 H1 (io j) = none := fun j hj => by
                      cases q : FBof io1 h'.length F1 H1 (io j) with
                      | none => rfl
                      | some o =>
                        exfalso
                        obtain ⟨u, hu⟩ := sr.there hj
                        have oj := sr.obj j h[j] (by simp [hj])
                        have notown : ∀ y, H1 (io j) ≠ some (.own y) := fun y z => by
                          by_cases hjk : j = k
                          · subst hjk; rw [ea1] at z; cases z
                          · rw [keep j hj hjk u hu] at z
                            exact oj.notOwn y (hu.trans z)
                        rcases FBof_cases q with z | ⟨z, ⟨i, hi0, hi, ei⟩ | ⟨y, z2⟩⟩
                        · rcases st.fresh _ o z with z1 | z1 | ⟨y, z1⟩
                          · rw [sr.dis j hj] at z1; cases z1
                          · rw [hu] at z1; cases z1
                          · subst z1; exact notown y (sr1.sub _ _ z)
                        · have := st.new i (show 1 ≤ i from hi0) hi
                          rw [ei, hu] at this; cases this
                        · subst z2; exact notown y z
                    have mF : ∀ b o, F b = some o → FBof io1 h'.length F1 H1 b = some o := fun b o e => FBof_sub b o (st.phi b o e)
                    have s2 : SR T K io (h.set k (.lst cs')) (FBof io1 h'.length F1 H1) H1 := by
                      have ln : (h.set k (Obj.lst cs')).length = h.length := by simp
                      refine ⟨fun b o e => ?_, fun j hj => dis2 j (by rwa [ln] at hj), fun i j hi hj => sr.inj i j (by rwa [ln] at hi) (by rwa [ln] at hj), fun j o e => ?_⟩
                      · rcases FBof_cases e with z | ⟨z, _⟩
                        · exact sr1.sub b o z
                        · exact z
                      · rw [ln]
                        by_cases q : k = j
                        · subst q
                          rw [List.getElem?_set_self hk] at e
                          cases e
                          exact ⟨zs, ea1, (rz.pure hq).mono (Nat.le_refl _) (fun _ _ => rfl) FBof_sub⟩
                        · rw [List.getElem?_set_ne q] at e
                          have hj : j < h.length := (List.getElem?_eq_some_iff.mp e).1
                          have o1 := sr.obj j o e
                          cases o with
                          | lst us => obtain ⟨xs, e1, r1⟩ := o1; exact ⟨xs, keep j hj (Ne.symm q) _ e1, r1.mono (Nat.le_refl _) (fun _ _ => rfl) mF⟩
                          | ins c us =>
                            obtain ⟨dx, xs, e1, d1, r1, l1⟩ := o1
                            exact ⟨dx, xs, keep j hj (Ne.symm q) _ e1, fr dx _ d1 fun z => (by rw [z, ea] at d1; cases d1), r1.mono (Nat.le_refl _) (fun _ _ => rfl) mF, l1⟩
                    have st2 : Step io h.length F H io (h.set k (.lst cs')).length (FBof io1 h'.length F1 H1) H1 := by
                      refine ⟨by simp, fun _ _ => rfl, mF, fun b o e hb => fr b o e fun z => hb k hk z.symm, fun j a b => absurd (by simpa using b) (Nat.not_lt.mpr a), fun b o e => ?_⟩
                      rcases FBof_cases e with z | ⟨z, ⟨i, hi0, hi, ei⟩ | z2⟩
                      · exact st.fresh b o z
                      · subst ei; exact .inr (.inl (st.new i (show 1 ≤ i from hi0) hi))
                      · exact .inr (.inr z2)
                    have v2 : VR T K io (h.set k (.lst cs')).length (FBof io1 h'.length F1 H1) v' x1 := by
                      by_cases hv : pureV v = true
                      · rw [if_pos hv] at ev
                        cases ev
                        exact (vr.pure hv).mono (Nat.le_refl _) (fun _ _ => rfl) FBof_sub
                      · rw [if_neg hv] at ev
                        refine (frzB_ok (io' := io) sr1 FBof_sub (fun j hj0 hj => ?_) (fun j dx hj0 hj e => ?_) 30 v v' x1 ev vr).ofEmpty rfl
                        · unfold FBof
                          rw [sr1.dis j hj]
                          dsimp only
                          rw [if_pos (.inl ⟨j, hj0, hj, rfl⟩)]
                        · unfold FBof
                          cases q : F1 dx with
                          | some u => have := sr1.sub dx u q; rw [e] at this; cases this; rfl
                          | none =>
                            dsimp only
                            rw [if_pos (.inr ⟨j, hj0, hj, e⟩)]
                            exact e
                    exact w io _ H1 x1 st2 s2 v2
                · rw [if_neg hq] at w; exact w.elim
        · rw [if_neg hp] at w; exact w.elim
  · exact w.elim
def xCallB (T : Tb) (f : Fx) (dfl : List Val) (l : Lx) : Ex := fun sg h => (l sg h).bind fun as h1 => callB T f (as ++ dfl) h1
theorem je_callBw {ps : List Str} {k : Nat} {f : Fx} {x : Str} {ad : Addr} {fd : FuncData} {dvs : List V} {ds : List Value} (G : FnOk X.prog X.w X.K X.mg X.base (CX X.prog X.w) k ad fd ps (spF T X.K f)) (hr : Room k X.A) (hm : X.mg x = some (.ref ad)) (hk : PySem.W.keepIn X.K (.ref ad) = true) {dfl : List Val} (hD : Dfl T X.K dfl dvs) (hb : Binds X.K fd ps ds) (hd : Vals dvs ds) (tk : Takes X W)
    (ha : JA T X W (e :: es) fl) {p : Pos} (hg : Gl X x := by rfl) (hdb : (x == ("__debug__" : Str)) = false := by decide) (he : starEach (e :: es) X.env = (false, eval e X.env) :: starEach es X.env := by rfl) (hpl : (backTo pos (starEach es X.env)).any (·.1) = false := by rfl) :
    JE T X W (.Call (.Name x p) (e :: es) [] pos) (xCallB T f dfl fl) :=
  pe_imp (pe_callSD (E := fun σ c d H => W c d σ H) G hr hg hm hk hb hd (fun σ => passAt tk σ) ha hdb he hpl) fun σ H Q ⟨io, h, F, sg, sr, rs, w⟩ =>
    ⟨io, h, F, sg, sr, rs, Wants.bindOfL w fun vs h1 io1 F1 H1 xs st sr1 vr w1 => callB_ok sr1 (vr.append (hD _ _ _)) w1⟩
end
end Py

namespace Py
open PySem PySem.Spec PyProof.Rows L2

/-! ### sorted of tuples of ints and texts -/
abbrev Ky := List (Int ⊕ List Nat)
abbrev kLt : Ky → Ky → Bool := PyProof.Rows.lexLt itemOrd
def kIns (k : Ky) : List Ky → List Ky
  | [] => [k]
  | a :: r => if kLt k a = true then k :: a :: r else a :: kIns k r
def kSort : List Ky → List Ky
  | [] => []
  | a :: r => kIns a (kSort r)
theorem kIns_perm (k : Ky) : ∀ l : List Ky, (kIns k l).Perm (k :: l)
  | [] => .refl _
  | a :: r => by
    unfold kIns
    split
    · exact .refl _
    · exact ((kIns_perm k r).cons a).trans (.swap k a r)
theorem kSort_perm : ∀ l : List Ky, (kSort l).Perm l
  | [] => .refl _
  | a :: r => (kIns_perm a (kSort r)).trans ((kSort_perm r).cons a)
abbrev kLe (a b : Ky) : Prop := kLt b a = false
theorem kLe_trans {a b c : Ky} (h1 : kLe a b) (h2 : kLe b c) : kLe a c := by
  cases q : kLt c a with
  | false => exact q
  | true =>
    rcases (listOrd itemOrd).negTrans c b a q with z | z
    · exact absurd (h2.symm.trans z) (by decide)
    · exact absurd (h1.symm.trans z) (by decide)
theorem kLt_le {a b : Ky} (h : kLt a b = true) : kLe a b := by
  cases q : kLt b a with
  | false => exact q
  | true =>
    have := (listOrd itemOrd).trans a b a h q
    rw [(listOrd itemOrd).irrefl] at this; cases this
theorem kIns_sorted (k : Ky) : ∀ {l : List Ky}, l.Pairwise kLe → (kIns k l).Pairwise kLe
  | [], _ => List.pairwise_singleton _ _
  | a :: r, h => by
    unfold kIns
    obtain ⟨h1, h2⟩ := List.pairwise_cons.mp h
    by_cases q : kLt k a = true
    · rw [if_pos q]
      refine List.pairwise_cons.mpr ⟨fun b hb => ?_, h⟩
      rcases List.mem_cons.mp hb with rfl | hb
      · exact kLt_le q
      · exact kLe_trans (kLt_le q) (h1 b hb)
    · rw [if_neg q]
      refine List.pairwise_cons.mpr ⟨fun b hb => ?_, kIns_sorted k h2⟩
      rcases List.mem_cons.mp ((kIns_perm k r).mem_iff.mp hb) with rfl | hb
      · exact Bool.eq_false_iff.mpr q
      · exact h1 b hb
theorem kSort_sorted : ∀ l : List Ky, (kSort l).Pairwise kLe
  | [] => .nil
  | a :: r => kIns_sorted a (kSort_sorted r)
theorem sorted_uniq : ∀ {l m : List Ky}, l.Pairwise kLe → m.Pairwise kLe → l.Perm m → l = m
  | [], m, _, _, p => (List.Perm.eq_nil p.symm).symm
  | a :: l, [], _, _, p => absurd p.length_eq (by simp)
  | a :: l, b :: m, h1, h2, p => by
    obtain ⟨a1, a2⟩ := List.pairwise_cons.mp h1
    obtain ⟨b1, b2⟩ := List.pairwise_cons.mp h2
    have ab : kLe a b := by
      rcases List.mem_cons.mp (p.mem_iff.mpr (List.mem_cons_self (a := b) (l := m))) with e | e
      · rw [e]; exact (listOrd itemOrd).irrefl _
      · exact a1 b e
    have ba : kLe b a := by
      rcases List.mem_cons.mp (p.mem_iff.mp (List.mem_cons_self (a := a) (l := l))) with e | e
      · rw [e]; exact (listOrd itemOrd).irrefl _
      · exact b1 a e
    have e : a = b := (listOrd itemOrd).total a b ba ab
    subst e
    rw [sorted_uniq a2 b2 p.cons_inv]

def kIt (shape : Nat → Bool) : Nat → List V → Option Ky
  | _, [] => some []
  | i, .int n :: r => if shape i = true then none else (kIt shape (i + 1) r).map (Sum.inl n :: ·)
  | i, .str x :: r => if shape i = true then (kIt shape (i + 1) r).map (Sum.inr x.cps.toList :: ·) else none
  | _, _ :: _ => none
theorem kIt_items (shape : Nat → Bool) : ∀ {xs : List V} {us : List Value} (i : Nat) {k : Ky}, Vals xs us → kIt shape i xs = some k → tupItems shape i us = some k
  | [], us, i, k, r, e => by cases r; exact e
  | .int n :: xs, u :: us, i, k, rr, e => by
    cases rr with
    | cons r t =>
    obtain ⟨tk, rfl⟩ := r
    unfold kIt at e
    unfold tupItems
    by_cases hs : shape i = true
    · rw [if_pos hs] at e; cases e
    · rw [if_neg hs] at e ⊢
      obtain ⟨k', e1, rfl⟩ := map_some e
      rw [kIt_items shape (i + 1) t e1]; rfl
  | .str x :: xs, u :: us, i, k, rr, e => by
    cases rr with
    | cons r t =>
    obtain ⟨tk, rfl⟩ := r
    unfold kIt at e
    unfold tupItems
    by_cases hs : shape i = true
    · rw [if_pos hs] at e ⊢
      obtain ⟨k', e1, rfl⟩ := map_some e
      rw [kIt_items shape (i + 1) t e1]; rfl
    · rw [if_neg hs] at e; cases e
  | .int _ :: _, [], _, _, rr, _ => by cases rr
  | .str _ :: _, [], _, _, rr, _ => by cases rr
  | .non :: _, _, _, _, _, e => by cases e
  | .bl _ :: _, _, _, _, _, e => by cases e
  | .byt _ :: _, _, _, _, _, e => by cases e
  | .flt _ :: _, _, _, _, _, e => by cases e
  | .ref _ :: _, _, _, _, _, e => by cases e
  | .ty _ :: _, _, _, _, _, e => by cases e
def TK (K : PySem.W.Frag) (H : Hp) (shape : Nat → Bool) (k : Ky) (x : V) : Prop := ∃ b ys, x = .ref b ∧ SqT K H b ys ∧ kIt shape 0 ys = some k ∧ ys ≠ []
def rSortedT (K : PySem.W.Frag) (shape : Nat → Bool) : List V → Hp → VK → Prop := fun vs H Q => ∃ (a : Addr) (xs : List V) (ks : List Ky), vs = [V.ref a] ∧ SqL K H a xs ∧ Paired (TK K H shape) ks xs ∧
  ∀ (ys : List V) (p : Addr), Paired (fun k y => ∃ j : Nat, xs[j]? = some y ∧ ks[j]? = some k) (kSort ks) ys → H p = none → Q (.ref p) (upd H p (.lst ys))
/-- what a tuple is in the heap, as the sort asks it -/
def IsTK (h : Heap) (shape : Nat → Bool) (v : Value) : Prop := ∃ k f, tupKey h shape v = some k ∧ TupOf h shape v f
theorem IsTK.keeps {h h' : Heap} {shape : Nat → Bool} {v : Value} {k : Ky} (e : tupKey h shape v = some k) (hk : ∀ b o, h.get? b = some o → (∃ xs n, o.data = .seq xs n ∧ v = .ref b) → h'.get? b = some o) : tupKey h' shape v = some k := by
  obtain ⟨a, o, xs, n, rfl, ho, hd, hi⟩ := tupKey_some e
  show (match h'.get? a with
    | some o => match o.data with
      | .seq xs _ => tupItems shape 0 xs.toList
      | _ => none
    | none => none) = some k
  rw [hk a o ho ⟨xs, n, hd, rfl⟩]
  show (match o.data with
      | .seq xs _ => tupItems shape 0 xs.toList
      | _ => none) = some k
  rw [hd]; exact hi
section
variable {X : Cx}
theorem paired_get {α β : Type} {R : α → β → Prop} : ∀ {l : List α} {m : List β} {i : Nat} {b : β}, Paired R l m → m[i]? = some b → ∃ a, l[i]? = some a ∧ R a b
  | _, _, _, _, .nil, e => by simp at e
  | _, _, 0, _, .cons r _, e => by simp at e; subst e; exact ⟨_, rfl, r⟩
  | _, _, i + 1, b, .cons _ t, e => by
    obtain ⟨a, e1, r⟩ := paired_get (i := i) t (by simpa using e)
    exact ⟨a, by simpa using e1, r⟩
theorem paired_of {α β : Type} {R : α → β → Prop} : ∀ {l : List α} {m : List β}, l.length = m.length → (∀ (i : Nat) a b, l[i]? = some a → m[i]? = some b → R a b) → Paired R l m
  | [], [], _, _ => .nil
  | a :: l, b :: m, hl, h => .cons (h 0 a b rfl rfl) (paired_of (by simpa using hl) fun i x y e1 e2 => h (i + 1) x y (by simpa using e1) (by simpa using e2))
  | [], _ :: _, hl, _ => by simp at hl
  | _ :: _, [], hl, _ => by simp at hl
theorem cr_sortedT (shape : Nat → Bool) : CallR X (.builtin "sorted") (rSortedT X.K shape) := by
  intro pins s σ H vs us Q I r hq
  obtain ⟨a, xs, ks, rfl, hs, hp, q⟩ := hq
  obtain ⟨its, rv, hl, hz⟩ := I.list hs
  obtain ⟨u, rfl, ru⟩ := vals1 r
  cases (show u = Value.ref a from ru)
  -- each item: its key in the heap
  have item : ∀ (i : Nat) v, its[i]? = some v → ∃ x k f, xs[i]? = some x ∧ ks[i]? = some k ∧ RelV x v ∧ tupKey s.heap shape v = some k ∧ TupOf s.heap shape v f := by
    intro i v ev
    have hi : i < xs.length := by rw [rv.length]; exact (List.getElem?_eq_some_iff.mp ev).1
    have ex : xs[i]? = some xs[i] := by simp [hi]
    obtain ⟨v', ev', rx⟩ := rv.get ex
    rw [ev] at ev'; cases ev'
    obtain ⟨k, ek, b, ys, e1, sq, e2, ne⟩ := paired_get hp ex
    rw [e1] at rx
    cases rx
    obtain ⟨its2, r2, ⟨o, ho, hc, n, hd⟩, _⟩ := I.tuple sq
    have hti := kIt_items shape 0 r2 e2
    refine ⟨xs[i], k, ?_, ex, ek, ?_, ?_, ?_⟩
    · exact its2.headD .none
    · rw [e1]; rfl
    · show (match s.heap.get? b with
        | some o => match o.data with
          | .seq xs _ => tupItems shape 0 xs.toList
          | _ => none
        | none => none) = some k
      rw [ho]
      show (match o.data with
          | .seq xs _ => tupItems shape 0 xs.toList
          | _ => none) = some k
      rw [hd]; exact hti
    · cases r2 with
      | nil => exact absurd rfl ne
      | @cons y w yr wr ry t =>
        refine ⟨b, o, _, n, rfl, ho, hc, hd, by simp, fun h0 => ?_, fun h0 => ?_⟩
        · obtain ⟨m, tt, l', e, _⟩ := tupItems_int h0 hti
          exact ⟨m, tt, e⟩
        · obtain ⟨m, tt, l', e, _⟩ := tupItems_str h0 hti
          exact ⟨m, tt, e⟩
  let kf : Value → Ky := fun v => (tupKey s.heap shape v).getD []
  have kfe : ∀ v ∈ its, tupKey s.heap shape v = some (kf v) := fun v hv => by
    obtain ⟨i, hi, e⟩ := List.mem_iff_getElem.mp hv
    obtain ⟨x, k, f, _, _, _, e1, _⟩ := item i v (by rw [List.getElem?_eq_getElem hi, e])
    show tupKey s.heap shape v = some ((tupKey s.heap shape v).getD [])
    rw [e1]; rfl
  have swo : SrtO.Swo fun v u => kLt (kf v) (kf u) := by
    refine ⟨fun x y h1 => kLt_le h1, fun x y z h1 h2 => ?_⟩
    exact kLe_trans (a := kf x) (b := kf y) (c := kf z) h1 h2
  refine SrtO.sorted_ord (ltv := fun v u => kLt (kf v) (kf u)) swo hl.isList (by rw [← rv.length]; exact hz) (fun h2 h1 al hal kk => ?_) fun out hs2 hb => ?_
  · intro h' keep
    have kept : ∀ v ∈ its, tupKey h' shape v = some (kf v) := fun v hv => IsTK.keeps (kfe v hv) fun b o ho ⟨zs, n, hd, e⟩ => keep b o (kk b o ho).1 (kk b o ho).2
    refine ⟨tuples' true, fun Q E hq => ?_, fun p q' hm hm' => ?_⟩
    · have fs : ∀ l : List Value, (∀ v ∈ l, v ∈ its) → ∃ fs, fs.length = l.length ∧ TupsOf h' shape l fs := by
        intro l
        induction l with
        | nil => exact fun _ => ⟨[], rfl, .nil⟩
        | cons v l ih =>
          intro hm
          obtain ⟨fs, hl2, ht⟩ := ih fun v hv => hm v (List.mem_cons_of_mem _ hv)
          obtain ⟨i, hi, e⟩ := List.mem_iff_getElem.mp (hm v List.mem_cons_self)
          obtain ⟨x, k, f, _, _, _, _, a, o, zs, n, e1, ho, hc, hd, h0, h1, h2⟩ := item i v (by rw [List.getElem?_eq_getElem hi, e])
          exact ⟨f :: fs, by simp [hl2], .cons ⟨a, o, zs, n, e1, keep a o (kk a o ho).1 (kk a o ho).2, hc, hd, h0, h1, h2⟩ ht⟩
      obtain ⟨fs, hl2, ht⟩ := fs its fun _ h => h
      exact tup_kind (shape := shape) (by omega) ht hq
    · exact tup_ltAt (shape := shape) true _ _ p.1 q'.1 (kf p.1) (kf q'.1) (kept _ hm) (kept _ hm') ⟨rfl, rfl⟩
  · obtain ⟨ep, he'⟩ := PyProof.Rows.sortedAll_at s.heap its out.toArray
    have pm := hb.perm
    -- the values behind
    have src : ∀ v ∈ out, ∃ (j : Nat) (x : V) (k : Ky), its[j]? = some v ∧ xs[j]? = some x ∧ ks[j]? = some k ∧ RelV x v ∧ kf v = k := fun v hv => by
      obtain ⟨i, hi, e⟩ := List.mem_iff_getElem.mp (pm.mem_iff.mp hv)
      have ev : its[i]? = some v := by rw [List.getElem?_eq_getElem hi, e]
      obtain ⟨x, k, f, ex, ek, rx, e1, _⟩ := item i v ev
      exact ⟨i, x, k, ev, ex, ek, rx, by show (tupKey s.heap shape v).getD [] = k; rw [e1]; rfl⟩
    have mk : ∀ l : List Value, (∀ v ∈ l, v ∈ out) → ∃ ys : List V, Vals ys l ∧ Paired (fun k y => ∃ j : Nat, xs[j]? = some y ∧ ks[j]? = some k) (l.map kf) ys := by
      intro l
      induction l with
      | nil => exact fun _ => ⟨[], .nil, .nil⟩
      | cons v l ih =>
        intro hm
        obtain ⟨ys, r1, r2⟩ := ih fun v hv => hm v (List.mem_cons_of_mem _ hv)
        obtain ⟨j, x, k, _, ex, ek, rx, e⟩ := src v (hm v List.mem_cons_self)
        exact ⟨x :: ys, .cons rx r1, .cons ⟨j, ex, by rw [e]; exact ek⟩ r2⟩
    obtain ⟨ys, r1, r2⟩ := mk out fun _ h => h
    have kse : its.map kf = ks := by
      apply List.ext_getElem?
      intro i
      rw [List.getElem?_map]
      cases ev : its[i]? with
      | none =>
        have h1 : its.length ≤ i := List.getElem?_eq_none_iff.mp ev
        have h2 : ks.length = xs.length := Paired.length hp
        rw [List.getElem?_eq_none (by rw [h2, rv.length]; exact h1)]; rfl
      | some v =>
        obtain ⟨x, k, f, ex, ek, rx, e1, _⟩ := item i v ev
        rw [ek]
        show some ((tupKey s.heap shape v).getD []) = some k
        rw [e1]; rfl
    have es : out.map kf = kSort ks := by
      refine sorted_uniq ?_ (kSort_sorted ks) ?_
      · exact List.pairwise_map.mpr hs2
      · exact ((pm.map kf).trans (by rw [kse])).trans (kSort_perm ks).symm
    rw [es] at r2
    have hlen : ys.length ≤ sizeLine := by rw [r1.length, pm.length_eq, ← rv.length]; exact hz
    have nw : H (s.heap.objs.size + 1) = none := I.hok.fresh (Nat.le_succ _)
    have ok : ObjOk X.prog X.w (upd H (s.heap.objs.size + 1) (.lst ys)) (sortedAll s.heap its out.toArray) (s.heap.objs.size + 1) (.lst ys) := ⟨hlen, out, ep, r1, he'⟩
    exact ⟨.ref (s.heap.objs.size + 1), _, I.laid (t' := s.toks) (fun _ _ => PyProof.Rows.sortedAll_old) (Nat.le_succ _) ok, rfl, q ys _ r2 nw⟩
end

/-! the same over values -/
def vKey (shape : Nat → Bool) : Nat → List Val → Option Ky
  | _, [] => some []
  | i, .int n :: r => if shape i = true then none else (vKey shape (i + 1) r).map (Sum.inl n :: ·)
  | i, .str s :: r => if shape i = true then (vKey shape (i + 1) r).map (Sum.inr s :: ·) else none
  | _, _ :: _ => none
def unKey : Ky → List Val
  | [] => []
  | .inl n :: r => .int n :: unKey r
  | .inr s :: r => .str s :: unKey r
theorem unKey_of (shape : Nat → Bool) : ∀ {vs : List Val} {i : Nat} {k : Ky}, vKey shape i vs = some k → unKey k = vs
  | [], i, k, e => by cases e; rfl
  | .int n :: r, i, k, e => by
    unfold vKey at e
    by_cases hs : shape i = true
    · rw [if_pos hs] at e; cases e
    · rw [if_neg hs] at e
      obtain ⟨k', e1, rfl⟩ := map_some e
      simp [unKey, unKey_of shape e1]
  | .str s :: r, i, k, e => by
    unfold vKey at e
    by_cases hs : shape i = true
    · rw [if_pos hs] at e
      obtain ⟨k', e1, rfl⟩ := map_some e
      simp [unKey, unKey_of shape e1]
    · rw [if_neg hs] at e; cases e
  | .non :: _, _, _, e => by cases e
  | .bl _ :: _, _, _, e => by cases e
  | .tup _ :: _, _, _, e => by cases e
  | .lst _ :: _, _, _, e => by cases e
  | .obj _ _ :: _, _, _, e => by cases e
  | .ref _ :: _, _, _, e => by cases e
  | .glo _ :: _, _, _, e => by cases e
theorem vKey_kIt {T : Tb} {K : PySem.W.Frag} {io : Nat → Addr} {n : Nat} {F : Hp} (shape : Nat → Bool) : ∀ {vs : List Val} {xs : List V} {i : Nat} {k : Ky}, VRs T K io n F vs xs → vKey shape i vs = some k → kIt shape i xs = some k
  | [], xs, i, k, r, e => by cases r; exact e
  | .int m :: r, xs, i, k, rr, e => by
    cases rr with
    | cons r1 t =>
    cases r1
    unfold vKey at e
    unfold kIt
    by_cases hs : shape i = true
    · rw [if_pos hs] at e; cases e
    · rw [if_neg hs] at e ⊢
      obtain ⟨k', e1, rfl⟩ := map_some e
      rw [vKey_kIt shape t e1]; rfl
  | .str s :: r, xs, i, k, rr, e => by
    cases rr with
    | cons r1 t =>
    cases r1
    unfold vKey at e
    unfold kIt
    by_cases hs : shape i = true
    · rw [if_pos hs] at e ⊢
      obtain ⟨k', e1, rfl⟩ := map_some e
      rw [vKey_kIt shape t e1]; rfl
    · rw [if_neg hs] at e; cases e
  | .non :: _, _, _, _, _, e => by cases e
  | .bl _ :: _, _, _, _, _, e => by cases e
  | .tup _ :: _, _, _, _, _, e => by cases e
  | .lst _ :: _, _, _, _, _, e => by cases e
  | .obj _ _ :: _, _, _, _, _, e => by cases e
  | .ref _ :: _, _, _, _, _, e => by cases e
  | .glo _ :: _, _, _, _, _, e => by cases e
def tkOf (shape : Nat → Bool) : Val → Option Ky
  | .tup vs => if vs.isEmpty = true then none else vKey shape 0 vs
  | _ => none
def gSortT (shape : Nat → Bool) : GC := fun h vs => match vs with
  | [v] => (match lstOf h v with
    | some ys => (match ys.mapM (tkOf shape) with
      | some ks => some (.ref h.length, h ++ [.lst ((kSort ks).map fun k => .tup (unKey k))])
      | none => none)
    | none => none)
  | _ => none
theorem mapM_TK {T : Tb} {K : PySem.W.Frag} {io : Nat → Addr} {h : Hh} {F H : Hp} {shape : Nat → Bool} (sr : SR T K io h F H) : ∀ {ys : List Val} {xs : List V} {ks : List Ky}, ys.mapM (tkOf shape) = some ks → VRs T K io h.length F ys xs → Paired (TK K H shape) ks xs ∧ ks.map (fun k => Val.tup (unKey k)) = ys
  | [], xs, ks, e, r => by
    simp at e; subst e
    cases r; exact ⟨.nil, rfl⟩
  | v :: ys, xs, ks, e, r => by
    rw [List.mapM_cons] at e
    cases q : tkOf shape v with
    | none => rw [q] at e; simp at e
    | some k =>
      rw [q] at e
      cases q2 : ys.mapM (tkOf shape) with
      | none => rw [q2] at e; simp at e
      | some us =>
        rw [q2] at e
        simp at e
        subst e
        cases r with
        | cons a b =>
          obtain ⟨p1, p2⟩ := mapM_TK sr q2 b
          unfold tkOf at q
          cases a with
          | @tup vs aa xs' sq rr =>
            dsimp only at q
            by_cases he : vs.isEmpty = true
            · rw [if_pos he] at q; cases q
            · rw [if_neg he] at q
              refine ⟨.cons ⟨aa, xs', rfl, sqT_mono sr.sub sq, vKey_kIt shape rr q, fun z => ?_⟩ p1, by rw [List.map_cons, p2, unKey_of shape q]⟩
              subst z
              cases rr
              exact he rfl
          | _ => cases q
theorem lift_sortT {T : Tb} {K : PySem.W.Frag} (shape : Nat → Bool) : LiftC T K (rSortedT K shape) (gSortT shape) := by
  intro io h F H vs xs z h' Q sr rr e q
  unfold gSortT at e
  split at e
  · rename_i v
    cases rr with
    | @cons _ x _ _ r t =>
      cases t
      cases el : lstOf h v with
      | none => rw [el] at e; cases e
      | some ys =>
        rw [el] at e
        dsimp only at e
        cases ek : ys.mapM (tkOf shape) with
        | none => rw [ek] at e; cases e
        | some ks =>
          rw [ek] at e
          cases e
          obtain ⟨a, xs, rfl, sq, r2⟩ := lstOf_ok sr r el
          obtain ⟨p1, p2⟩ := mapM_TK sr ek r2
          refine ⟨a, xs, ks, rfl, sq, p1, fun zs p hz hp => ?_⟩
          have rz : ∀ {l : List Ky} {zs : List V}, Paired (fun k y => ∃ j : Nat, xs[j]? = some y ∧ ks[j]? = some k) l zs → VRs T K io h.length F (l.map fun k => Val.tup (unKey k)) zs := by
            intro l zs hz
            induction hz with
            | nil => exact .nil
            | @cons kk yy _ _ h1 _ ih =>
              obtain ⟨j, e1, e2⟩ := h1
              have ey : ys[j]? = some (.tup (unKey kk)) := by rw [← p2, List.getElem?_map, e2]; rfl
              obtain ⟨x', ex, rx⟩ := r2.get ey
              rw [e1] at ex
              cases ex
              exact .cons rx ih
          obtain ⟨s1, s2, s3⟩ := push_new sr (rz hz) hp
          exact q _ _ _ _ s1 s2 s3
  · cases e
end Py

namespace Py
open PySem PySem.Spec PyProof.Rows L2

section
variable {T : Tb} {X : Cx} {W : WX} {a b c e o : Expr} {es : List Expr} {fa fb fe fo : Ex} {fl : Lx} {pos apos cpos p : Pos}
/-! ### a list or a tuple, walked -/
def xISq (e : Ex) : Ix := fun sg h => match e sg h with
  | .ok v h1 => (match v with
    | .tup vs => .ok (.items vs) h1
    | .lst vs => .ok (.items vs) h1
    | .ref k => (match h1[k]? with
      | some (.lst _) => .ok (.ref k) h1
      | _ => .bad)
    | _ => .bad)
  | .exc c fs h1 => .exc c fs h1
  | .bad => .bad
theorem pi_or {tg iter : Expr} {t u : TI} (h1 : PI X tg iter t) (h2 : PI X tg iter u) : PI X tg iter (fun σ H R => t σ H R ∨ u σ H R) :=
  ⟨fun pins s σ H R I q => q.elim (h1.run pins s σ H R I) (h2.run pins s σ H R I)⟩
theorem ji_seq {tg iter : Expr} (he : JE T X W iter fe) : JI T X W tg iter (xISq fe) := by
  refine pi_imp (pi_or (ji_list (tg := tg) he) (ji_tup (tg := tg) he)) fun σ H R ⟨io, h, F, sg, sr, rs, w⟩ => ?_
  unfold xISq at w
  cases e : fe sg h with
  | bad => rw [e] at w; exact w.elim
  | exc c fs h1 => rw [e] at w; exact .inl ⟨io, h, F, sg, sr, rs, by unfold xISeq; rw [e]; exact w⟩
  | ok v h1 =>
    rw [e] at w
    cases v with
    | tup vs => exact .inr ⟨io, h, F, sg, sr, rs, by unfold xITup; rw [e]; exact w⟩
    | lst vs => exact .inl ⟨io, h, F, sg, sr, rs, by unfold xISeq; rw [e]; exact w⟩
    | ref k => exact .inl ⟨io, h, F, sg, sr, rs, by unfold xISeq; rw [e]; exact w⟩
    | _ => exact w.elim

/-! ### a call whose result is a new list that the caller may change -/
def callO (T : Tb) (f : Fx) (as : List Val) (h : Hh) : Res := if (h.isEmpty || pureVs as) = true then (match f [] as with
  | .ok v h' => (match v with
    | .ref j => (match (h'[j]? : Option Obj) with
      | some (Obj.lst cs) => if pureVs cs = true then .ok (.ref h.length) (h ++ [.lst cs]) else .bad
      | _ => .bad)
    | _ => .bad)
  | _ => .bad) else .bad
theorem callO_ok {K : PySem.W.Frag} {io : Nat → Addr} {F H : Hp} {h : Hh} {W : XK} {Q : VK} {f : Fx} {as : List Val} {vs : List V} (sr : SR T K io h F H) (r : VRs T K io h.length F as vs) (w : Wants T K io h.length F H W Q (callO T f as h)) : spF T K f vs H Q W := by
  unfold callO at w
  by_cases hp : (h.isEmpty || pureVs as) = true
  · rw [if_pos hp] at w
    have r0 : VRs T K io ([] : Hh).length F as vs := by
      rcases Bool.or_eq_true_iff.mp hp with z | z
      · have : h = [] := List.isEmpty_iff.mp z
        subst this; exact r
      · exact r.pure z
    refine ⟨io, [], F, as, ⟨sr.sub, fun k hk => absurd hk (Nat.not_lt_zero _), fun j k hj => absurd hj (Nat.not_lt_zero _), fun k o e => by simp at e⟩, r0, ?_⟩
    cases e : f [] as with
    | bad => rw [e] at w; exact w
    | exc c fs h' => rw [e] at w; exact w.elim
    | ok v h' =>
      rw [e] at w
      intro io1 F1 H1 x st sr1 vr
      cases vr with
      | ref j hj =>
        dsimp only at w
        cases ej : (h'[j]? : Option Obj) with
        | none => rw [ej] at w; exact w.elim
        | some ob =>
          rw [ej] at w
          cases ob with
          | ins c us => exact w.elim
          | lst cs =>
            dsimp only at w
            by_cases hc : pureVs cs = true
            · rw [if_pos hc] at w
              obtain ⟨ys, ea, rc⟩ := sr1.obj j _ ej
              have hH : ∀ b o, H b = some o → H1 b = some o := fun b o e => st.frame b o e fun k hk => absurd hk (Nat.not_lt_zero _)
              have nw : H (io1 j) = none := st.new j (Nat.zero_le _) hj
              have dis : ∀ k, k < h.length → F1 (io k) = none := fun k hk => by
                cases q : F1 (io k) with
                | none => rfl
                | some o =>
                  exfalso
                  obtain ⟨u, hu⟩ := sr.there hk
                  rcases st.fresh _ o q with z | z | ⟨y, z⟩
                  · rw [sr.dis k hk] at z; cases z
                  · rw [hu] at z; cases z
                  · subst z
                    have e3 := sr1.sub _ _ q
                    rw [hH _ _ hu] at e3
                    exact (sr.obj k h[k] (by simp [hk])).notOwn y (hu.trans e3)
              have s0 : SR T K io h F1 H1 := ⟨sr1.sub, dis, sr.inj, fun k o e => (sr.obj k o e).mono (Nat.le_refl _) (fun _ _ => rfl) st.phi hH⟩
              have t0 : Step io h.length F H io h.length F1 H1 := ⟨Nat.le_refl _, fun _ _ => rfl, st.phi, fun b o e _ => hH b o e, fun k a b => absurd b (Nat.not_lt.mpr a), st.fresh⟩
              obtain ⟨p1, p2, p3⟩ := CInv.push (acc := cs) nw t0 s0 ea (rc.pure hc) (sr1.dis j hj) (fun k hk z => by obtain ⟨u, hu⟩ := sr.there hk; rw [z, nw] at hu; cases hu)
              exact w _ F1 H1 _ p1 p2 p3
            · rw [if_neg hc] at w; exact w.elim
      | _ => exact w.elim
  · rw [if_neg hp] at w; exact w.elim

/-! ### what a def is, for its callers -/
def Callee (T : Tb) (P : Program) (w : World) (K : PySem.W.Frag) (mg : Str → Option Value) (base : Heap) (k : Nat) (a : Addr) (ps : List Str) (f : Fx) (dvs : List V) : Prop :=
  ∃ fd ds, FnOk P w K mg base (CX P w) k a fd ps (spF T K f) ∧ PySem.W.keepIn K (.ref a) = true ∧ Vals dvs ds ∧ Binds K fd ps ds
variable {k : Nat} {ad : Addr} {ps : List Str} {f : Fx} {dvs : List V} {x m : Str} {cc : Nat}
abbrev CalleeX (T : Tb) (X : Cx) (k : Nat) (a : Addr) (ps : List Str) (f : Fx) (dvs : List V) : Prop := Callee T X.prog X.w X.K X.mg X.base k a ps f dvs
def xCallO (T : Tb) (f : Fx) (dfl : List Val) (l : Lx) : Ex := fun sg h => (l sg h).bind fun as h1 => callO T f (as ++ dfl) h1
theorem jc_P (C : CalleeX T X k ad ps f dvs) (hr : Room k X.A) (hm : X.mg x = some (.ref ad)) {dfl : List Val} (hD : Dfl T X.K dfl dvs) (tk : Takes X W) (ha : JA T X W (e :: es) fl) (hg : Gl X x := by rfl) (hdb : (x == ("__debug__" : Str)) = false := by decide)
    (he : starEach (e :: es) X.env = (false, eval e X.env) :: starEach es X.env := by rfl) (hpl : (backTo pos (starEach es X.env)).any (·.1) = false := by rfl) : JE T X W (.Call (.Name x p) (e :: es) [] pos) (xCallP T f dfl fl) := by
  obtain ⟨fd, ds, G, kp, hv, hb⟩ := C
  exact je_callP G hr hm kp hD hb hv tk ha hg hdb he hpl
theorem jc_A (C : CalleeX T X k ad ps f dvs) (hr : Room k X.A) (hm : X.mg x = some (.ref ad)) {dfl : List Val} (hD : Dfl T X.K dfl dvs) (tk : Takes X W) (ha : JA T X W (e :: es) fl) (hg : Gl X x := by rfl) (hdb : (x == ("__debug__" : Str)) = false := by decide)
    (he : starEach (e :: es) X.env = (false, eval e X.env) :: starEach es X.env := by rfl) (hpl : (backTo pos (starEach es X.env)).any (·.1) = false := by rfl) : JE T X W (.Call (.Name x p) (e :: es) [] pos) (xCallA f dfl fl) := by
  obtain ⟨fd, ds, G, kp, hv, hb⟩ := C
  exact je_callA G hr hm kp hD hb hv tk ha hg hdb he hpl
theorem jc_B (C : CalleeX T X k ad ps f dvs) (hr : Room k X.A) (hm : X.mg x = some (.ref ad)) {dfl : List Val} (hD : Dfl T X.K dfl dvs) (tk : Takes X W) (ha : JA T X W (e :: es) fl) (hg : Gl X x := by rfl) (hdb : (x == ("__debug__" : Str)) = false := by decide)
    (he : starEach (e :: es) X.env = (false, eval e X.env) :: starEach es X.env := by rfl) (hpl : (backTo pos (starEach es X.env)).any (·.1) = false := by rfl) : JE T X W (.Call (.Name x p) (e :: es) [] pos) (xCallB T f dfl fl) := by
  obtain ⟨fd, ds, G, kp, hv, hb⟩ := C
  exact je_callBw G hr hm kp hD hb hv tk ha hg hdb he hpl
theorem jc_O (C : CalleeX T X k ad ps f dvs) (hr : Room k X.A) (hm : X.mg x = some (.ref ad)) {dfl : List Val} (hD : Dfl T X.K dfl dvs) (tk : Takes X W) (ha : JA T X W (e :: es) fl) (hg : Gl X x := by rfl) (hdb : (x == ("__debug__" : Str)) = false := by decide)
    (he : starEach (e :: es) X.env = (false, eval e X.env) :: starEach es X.env := by rfl) (hpl : (backTo pos (starEach es X.env)).any (·.1) = false := by rfl) : JE T X W (.Call (.Name x p) (e :: es) [] pos) (xCallO T f dfl fl) := by
  obtain ⟨fd, ds, G, kp, hv, hb⟩ := C
  exact pe_imp (pe_callSD (E := fun σ c d H => W c d σ H) G hr hg hm kp hb hv (fun σ => passAt tk σ) ha hdb he hpl) fun σ H Q ⟨io, h, F, sg, sr, rs, w⟩ =>
    ⟨io, h, F, sg, sr, rs, Wants.bindOfL w fun vs h1 io1 F1 H1 xs st sr1 vr w1 => callO_ok sr1 (vr.append (hD _ _ _)) w1⟩
/-- f() -/
theorem jc_P0 (C : CalleeX T X k ad ps f dvs) (hr : Room k X.A) (hm : X.mg x = some (.ref ad)) {dfl : List Val} (hD : Dfl T X.K dfl dvs) (tk : Takes X W) (hg : Gl X x := by rfl) (hdb : (x == ("__debug__" : Str)) = false := by decide) : JE T X W (.Call (.Name x p) [] [] pos) (xCallP T f dfl xNil) := by
  obtain ⟨fd, ds, G, kp, hv, hb⟩ := C
  refine ⟨fun pins s σ H Q I hq => wpAny_Call_Name_kw (ld_glob I hg hm (PySem.W.callWith_K0 I.kIn kp (run_fnSD (E := fun σ c d H => W c d σ H) (us := []) (vs := []) G hr hb hv (passAt tk σ) I .nil ?_)) hdb)⟩
  obtain ⟨io, h, F, sg, sr, rs, w⟩ := hq
  exact callP_ok sr (hD _ _ _) w
theorem jc_M {pl : Sem Bool} (ho : JE T X W o fo) (cf : Cf T X.K cc) (hm : Meth X.K (He.ga X.K (T.cn cc)) m ad) (hmf : m ∉ T.fn cc) (C : CalleeX T X k ad ps f dvs) (hr : Room k X.A) {dfl : List Val} (hD : Dfl T X.K dfl dvs) (tk : Takes X W) (ha : JA T X W (e :: es) fl)
    (hst : starEach (e :: es) X.env = (false, eval e X.env) :: starEach es X.env := by rfl) (hpl : (backTo pos (starEach es X.env)).any (·.1) = false := by rfl)
    (ht : eval (.Call (.Attribute o m apos) (e :: es) [] pos) X.env = (eval o X.env >>= fun ov => standAt apos.atName >>= fun _ => holding [ov] (getMethod ov m pl) >>= fun p => callWith pos p.1 p.2 (backTo pos (starEach (e :: es) X.env)) (backToKw pos (keywordEach [] X.env))) := by rfl) :
    JE T X W (.Call (.Attribute o m apos) (e :: es) [] pos) (xMethP T cc f dfl fo fl) := by
  obtain ⟨fd, ds, G, kp, hv, hb⟩ := C
  exact je_methP ho cf hm hmf G hr hD hb hv tk ha hst hpl ht
theorem jc_M0 {pl : Sem Bool} (ho : JE T X W o fo) (cf : Cf T X.K cc) (hm : Meth X.K (He.ga X.K (T.cn cc)) m ad) (hmf : m ∉ T.fn cc) (C : CalleeX T X k ad ps f dvs) (hr : Room k X.A) {dfl : List Val} (hD : Dfl T X.K dfl dvs) (tk : Takes X W)
    (ht : eval (.Call (.Attribute o m apos) [] [] pos) X.env = (eval o X.env >>= fun ov => standAt apos.atName >>= fun _ => holding [ov] (getMethod ov m pl) >>= fun p => callWith pos p.1 p.2 (backTo pos (starEach [] X.env)) (backToKw pos (keywordEach [] X.env))) := by rfl) :
    JE T X W (.Call (.Attribute o m apos) [] [] pos) (xMethP T cc f dfl fo xNil) := by
  obtain ⟨fd, ds, G, kp, hv, hb⟩ := C
  exact je_methP0 ho cf hm hmf G hr hD hb hv tk ht
theorem jc_K (hf : ∀ as h v h', f h as = .ok v h' → v = .non) (M : Mk X.K (He.ga X.K (T.cn cc)) ad) (C : CalleeX T X k ad ps f dvs) (hr : Room (k + 1) X.A) (hm : X.mg x = some (.ref (He.ga X.K (T.cn cc)))) {dfl : List Val} (hD : Dfl T X.K dfl dvs) (tk : Takes X W) (ha : JA T X W (e :: es) fl)
    (hg : Gl X x := by rfl) (hdb : (x == ("__debug__" : Str)) = false := by decide) (he : starEach (e :: es) X.env = (false, eval e X.env) :: starEach es X.env := by rfl) (hpl : (backTo pos (starEach es X.env)).any (·.1) = false := by rfl) :
    JE T X W (.Call (.Name x p) (e :: es) [] pos) (xMakeP T cc f dfl fl) := by
  obtain ⟨fd, ds, G, kp, hv, hb⟩ := C
  exact je_makeP hf M G hr hm hD hb hv tk ha hg hdb he hpl
theorem jc_K0 (hf : ∀ as h v h', f h as = .ok v h' → v = .non) (M : Mk X.K (He.ga X.K (T.cn cc)) ad) (C : CalleeX T X k ad ps f dvs) (hr : Room (k + 1) X.A) (hm : X.mg x = some (.ref (He.ga X.K (T.cn cc)))) {dfl : List Val} (hD : Dfl T X.K dfl dvs) (tk : Takes X W)
    (hg : Gl X x := by rfl) (hdb : (x == ("__debug__" : Str)) = false := by decide) : JE T X W (.Call (.Name x p) [] [] pos) (xMakeP T cc f dfl xNil) := by
  obtain ⟨fd, ds, G, kp, hv, hb⟩ := C
  exact je_makeP0 hf M G hr hm hD hb hv tk hg hdb
def gNeg : Hh → Val → Option Val := fun _ v => match v with
  | .int i => some (.int (-i))
  | _ => none
theorem je_neg (ha : JE T X W a fa) : JE T X W (.UnaryOp .USub a pos) (xUn gNeg fa) := by
  refine pe_imp (pe_un un_neg ha) fun σ H Q ⟨io, h, F, sg, sr, rs, w⟩ => ⟨io, h, F, sg, sr, rs, Wants.bind w fun v h1 io1 F1 H1 x st sr1 vr w1 => ?_⟩
  obtain ⟨z, ez, w2⟩ := wants_ofO w1
  cases vr with
  | int i => cases ez; exact ⟨i, rfl, w2 io1 F1 H1 _ .refl sr1 (.int _)⟩
  | _ => cases ez
end
/-- an __init__'s result is None: it has no return -/
def noRet : ResS → Bool
  | .ret .non _ => true
  | .ret _ _ => false
  | _ => true
theorem fnOf_non {np nN : Nat} {body : Sx} (hb : ∀ sg h, noRet (body sg h) = true) : ∀ as h v h', fnOf np nN body h as = .ok v h' → v = .non := by
  intro as h v h' e
  unfold fnOf at e
  by_cases hl : as.length = np
  · rw [if_pos hl] at e
    have := hb (as.map some ++ List.replicate (nN - np) none) h
    cases q : body (as.map some ++ List.replicate (nN - np) none) h with
    | ret u h1 =>
      rw [q] at e this
      cases e
      cases v <;> first | rfl | cases this
    | next sg h1 => rw [q] at e; cases e; rfl
    | brk sg h1 => rw [q] at e; cases e
    | cont sg h1 => rw [q] at e; cases e
    | exc c fs sg h1 => rw [q] at e; cases e
    | bad => rw [q] at e; cases e
  · rw [if_neg hl] at e; cases e
section
theorem nr_seq {a b : Sx} (ha : ∀ sg h, noRet (a sg h) = true) (hb : ∀ sg h, noRet (b sg h) = true) : ∀ sg h, noRet (xSeq a b sg h) = true := fun sg h => by
  unfold xSeq
  have := ha sg h
  cases q : a sg h with
  | next sg1 h1 => exact hb sg1 h1
  | _ => rw [q] at this; exact this
theorem nr_res {r : Res} {sg : Sg} {k : Val → Hh → ResS} (hk : ∀ v h, noRet (k v h) = true) : noRet (r.bindS sg k) = true := by
  cases r with
  | ok v h => exact hk v h
  | exc c fs h => rfl
  | bad => rfl
theorem nr_if {c : Ex} {a b : Sx} (ha : ∀ sg h, noRet (a sg h) = true) (hb : ∀ sg h, noRet (b sg h) = true) : ∀ sg h, noRet (xIfS c a b sg h) = true := fun sg h => by
  unfold xIfS Res.testS
  cases q : c sg h with
  | ok v h1 =>
    cases v with
    | bl v =>
      cases v with
      | true => exact ha sg h1
      | false => exact hb sg h1
    | _ => rfl
  | exc c fs h1 => rfl
  | bad => rfl
theorem nr_set {i : Nat} {e : Ex} : ∀ sg h, noRet (xSet i e sg h) = true := fun sg h => nr_res fun _ _ => rfl
theorem nr_skip : ∀ sg h, noRet (xSkip sg h) = true := fun _ _ => rfl
theorem nr_bad : ∀ (sg : Sg) (h : Hh), noRet ((fun _ _ => .bad : Sx) sg h) = true := fun _ _ => rfl
theorem nr_att {l : List (Nat × Nat)} {v o : Ex} : ∀ sg h, noRet (xSetAttr l v o sg h) = true := fun sg h => nr_res fun y h1 => nr_res fun ov h2 => by
  cases ov with
  | ref k =>
    dsimp only
    split
    · split
      · split
        · rfl
        · split <;> rfl
      · rfl
    · rfl
  | _ => rfl
end
end Py

namespace Py
open PySem PySem.Spec PyProof.Rows L2

/-! ### the module's constants -/
def GK (T : Tb) (K : PySem.W.Frag) (mg : Str → Option Value) (x : Str) (v : Val) : Prop := ∃ (u : Value) (y : V), mg x = some u ∧ RelV y u ∧ ∀ io n F, VR T K io n F v y
theorem je_gk {T : Tb} {X : Cx} {W : WX} {x : Str} {v : Val} {pos : Pos} (g : GK T X.K X.mg x v) (hg : Gl X x := by rfl) (hd : (x == ("__debug__" : Str)) = false := by decide) : JE T X W (.Name x pos) (xC v) := je_glob hg g hd
/-- values that the text writes -/
def Dv1 : He.Dv → Option Val
  | .non => some .non
  | .bl b => some (.bl b)
  | .int i => some (.int i)
  | .str x => some (.str x.cps.toList)
  | _ => none
theorem Dv1_ok {T : Tb} {K : PySem.W.Frag} {d : He.Dv} {v : Val} (e : Dv1 d = some v) (io : Nat → Addr) (n : Nat) (F : Hp) : VR T K io n F v (d.v K) := by
  cases d with
  | non => cases e; exact .non
  | bl b => cases e; exact .bl b
  | int i => cases e; exact .int i
  | str x =>
    cases e
    have : (⟨x.cps.toList.toArray⟩ : Str) = x := by cases x; simp
    show VR T K io n F (.str x.cps.toList) (.str x)
    rw [← this]
    simpa using VR.str (T := T) (K := K) (io := io) (n := n) (F := F) x.cps.toList
  | _ => cases e
theorem Dv1_all {T : Tb} {K : PySem.W.Frag} (io : Nat → Addr) (n : Nat) (F : Hp) : ∀ {ds : List He.Dv} {vs : List Val}, ds.mapM Dv1 = some vs → VRs T K io n F vs (ds.map (He.Dv.v K))
  | [], vs, e => by simp at e; subst e; exact .nil
  | d :: ds, vs, e => by
    rw [List.mapM_cons] at e
    cases q : Dv1 d with
    | none => rw [q] at e; simp at e
    | some v =>
      rw [q] at e
      cases q2 : ds.mapM Dv1 with
      | none => rw [q2] at e; simp at e
      | some us =>
        rw [q2] at e
        simp at e
        subst e
        exact .cons (Dv1_ok q io n F) (Dv1_all io n F q2)
theorem Dfl.of {T : Tb} {K : PySem.W.Frag} {ds : List He.Dv} {vs : List Val} (e : ds.mapM Dv1 = some vs) : Dfl T K vs (ds.map (He.Dv.v K)) := fun io n F => Dv1_all io n F e
theorem gk_tup {T : Tb} {K : PySem.W.Frag} {h : Heap} {mg : Str → Option Value} (X : K.In h) (G : h.Ns mainGlobals mg) {x : Str} {ds : List He.Dv} {vs : List Val} (g : (He.Fa.glo x).ok K = true) (c : He.tupB K x ds = true) (e : ds.mapM Dv1 = some vs) : GK T K mg x (.tup vs) :=
  ⟨_, .ref (He.ga K x), He.glo_ok X G g, rfl, fun io n F => .tup (He.tupB_ok c F) (Dv1_all io n F e)⟩
theorem gk_int {T : Tb} {K : PySem.W.Frag} {h : Heap} {mg : Str → Option Value} (X : K.In h) (G : h.Ns mainGlobals mg) {x : Str} {i : Int} (c : (He.Fa.int x i).ok K = true) : GK T K mg x (.int i) := by
  obtain ⟨t, e⟩ := He.int_ok X G c
  exact ⟨_, .int i, e, ⟨t, rfl⟩, fun io n F => .int i⟩
theorem gk_str {T : Tb} {K : PySem.W.Frag} {h : Heap} {mg : Str → Option Value} (X : K.In h) (G : h.Ns mainGlobals mg) {x : Str} {s : List Nat} (c : (He.Fa.str x ⟨s.toArray⟩).ok K = true) : GK T K mg x (.str s) := by
  obtain ⟨t, e⟩ := He.str_ok X G c
  exact ⟨_, .str ⟨s.toArray⟩, e, ⟨t, rfl⟩, fun io n F => .str s⟩
/-- the classes' facts -/
def cfB (K : PySem.W.Frag) (x : Str) (fs : List Str) : Bool := (He.Fa.cls x).ok K && fs.all fun f => (He.Fa.noat x f).ok K
theorem cf_of {T : Tb} {K : PySem.W.Frag} {c : Nat} (h : cfB K (T.cn c) (T.fn c) = true) (nd : (T.fn c).Nodup) (few : (T.fn c).length < 1000) : Cf T K c := by
  obtain ⟨h1, h2⟩ := He.ba h
  exact ⟨He.cls_ok h1, nd, fun f hf => He.eqO_ok (List.all_eq_true.mp h2 f hf), few⟩
theorem meth_of {K : PySem.W.Frag} {x m : Str} (h : (He.Fa.meth x m).ok K = true) : Meth K (He.ga K x) m (He.ma K (He.ga K x) m) := by
  obtain ⟨h1, h2⟩ := He.ba h
  obtain ⟨h3, h4⟩ := He.ba h2
  exact ⟨He.eqO_ok h1, h3, h4⟩
theorem mk_of {K : PySem.W.Frag} {x : Str} (h : (He.Fa.mkr x).ok K = true) : Mk K (He.ga K x) (He.ma K (He.ga K x) "__init__") := by
  obtain ⟨h1, h2⟩ := He.ba h
  obtain ⟨h3, h4⟩ := He.ba h2
  obtain ⟨h5, h6⟩ := He.ba h4
  exact ⟨h1, He.eqO_ok h3, h5, h6⟩

/-! ### the hook: a look of one's own at the written part -/
def obsM (chk : PySem.W.Frag → Bool) (fn : List He.DefD) (K : PySem.W.Frag) : He.AlD := (chk K && fn.all fun d => d.ok K, fn.map fun d => He.fnW K d.at_)
def SaysM (chk : PySem.W.Frag → Bool) (fn : List He.DefD) (K : PySem.W.Frag) : Prop := obsM chk fn K = He.valD fn
def obsMG (n : Nat) (chk : PySem.W.Frag → Bool) (fn : List He.DefD) (g : Addr → Option PySem.Obj) : He.AlD := obsM chk fn (He.frG g (He.asD g n))
def hookM (n : Nat) (chk : PySem.W.Frag → Bool) (fn : List He.DefD) : PySem.W.Hook where
  α := He.AlD
  obs := fun s => obsMG n chk fn s.heap.get?
  val := fun _ => He.valD fn
  says := fun _ h => ∃ K : PySem.W.Frag, K.In h ∧ SaysM chk fn K
  of := fun _ _ e => ⟨_, He.frG_in, e⟩
  keeps := fun _ _ _ ⟨K, hK, c⟩ k => ⟨K, PySem.W.Frag.In.keeps hK k, c⟩
theorem obsMG_eq {n : Nat} {chk : PySem.W.Frag → Bool} {fn : List He.DefD} {g : Addr → Option PySem.Obj} {s : Shared} (h : ∀ a, g a = s.heap.get? a) : obsMG n chk fn g = (hookM n chk fn).obs s := by
  obtain rfl : g = s.heap.get? := funext h
  rfl
section
variable {ck : PySem.W.Frag → Bool} {fn : List He.DefD} {K : PySem.W.Frag}
theorem SaysM.look (c : SaysM ck fn K) : ck K = true := (He.ba (congrArg (fun z : He.AlD => z.1) c : (ck K && fn.all fun d => d.ok K) = true)).1
theorem SaysM.def_ (c : SaysM ck fn K) (i : Nat) {d : He.DefD} (h : fn[i]? = some d := by rfl) : ∃ fd, FunD K d.name d.qual d.params d.body d.scope (d.dvs K) (d.kws K) (He.fAd K d.at_) fd := by
  have c2 := (He.ba (congrArg (fun z : He.AlD => z.1) c : (ck K && fn.all fun d => d.ok K) = true)).2
  have e : fn.map (fun d => He.fnW K d.at_) = fn.map He.DefD.val := congrArg (fun z : He.AlD => z.2) c
  have e2 := congrArg (fun l : List He.FnW => l[i]?) e
  simp only [List.getElem?_map, h, Option.map_some, Option.some.injEq] at e2
  exact He.DefD.funD e2 (List.all_eq_true.mp c2 d (List.mem_of_getElem? h))
end
/-- all the rows of a list of checks hold -/
theorem all_at {α : Type} {l : List α} {p : α → Bool} (h : l.all p = true) {i : Nat} {a : α} (e : l[i]? = some a) : p a = true := List.all_eq_true.mp h a (List.mem_of_getElem? e)
/-- the law's end -/
theorem cx_false {P : Program} {w : World} {H : Hp} {s : Shared} {e : Value} {s' : Shared} (h : L2.CX P w [] H s (fun _ _ _ => False) e s') : False := by
  obtain ⟨_, _, _, _, _, _, _, _, _, _, _, _, z⟩ := h
  exact z
theorem law_end {l : PySem.W.OpenLaw} {k : Nat} {q : Program} {loose : List Str} {XP : (Str → Option Value) → Heap → Prop} {YP : World → Heap → Prop} {d : DefRec} {T : Tb} {fl : Fx}
    (hn : l.most = some 63) (hdf : d.params.defaults = []) (hr : Room k callerA)
    (F : ∀ (w : World) (mg : Str → Option Value) (fa : Addr) (h : Heap), YP w h → h.Ns mainGlobals mg → mg d.name = some (.ref fa) →
      ∃ (K : PySem.W.Frag) (fd : FuncData), K.In h ∧ (∀ (s : Shared) (u : Value), BindsTo s fd ⟨[u], []⟩ [("_law_script", u)]) ∧ ∀ base : Heap, K.In base → base.Ns mainGlobals mg → FnOk l.prog w K mg base (CX l.prog w) k fa fd ["_law_script"] (spF T K fl))
    (hl : ∀ ns : List Int, ns.length ≤ 63 → (∀ z ∈ ns, Builtin.Int.intBits z ≤ 1048576) → ∃ h', fl [] [.lst (ns.map Val.int)] = .ok (.bl true) h') :
    PySem.W.WalkO q loose XP YP l.row.toRowW d [] (fun f vs => PySem.call f vs) := by
  refine Att.attach_callB hn hdf fun w s0 s1 mg mb fa o pm cd doc a vs ns G Y ho hd hcd hmg hobj hints hlen hbits hg => ?_
  obtain ⟨K, fd, KX, hb, hF⟩ := F w mg fa _ Y G.T.g hmg
  refine law_call (CX := CX l.prog w) KX G.T.g G.T.b G.T.builtins G.T.nolimit hg hobj hints (Nat.le_trans hlen (by decide)) hr hF hb (fun H hO hS => ?_) fun H e s' hc => cx_false hc
  obtain ⟨h', e⟩ := hl ns hlen hbits
  have allInts : ∀ l : List Int, VRs T K (fun _ => 0) 0 H (l.map Val.int) (l.map V.int) := by
    intro l
    induction l with
    | nil => exact .nil
    | cons i l ih => exact .cons (.int i) ih
  refine ⟨fun _ => 0, [], H, [.lst (ns.map Val.int)], ⟨fun _ _ e => e, fun k hk => absurd hk (Nat.not_lt_zero _), fun j k hj => absurd hj (Nat.not_lt_zero _), fun k o e => by simp at e⟩, .cons (.lst hS (allInts ns)) .nil, ?_⟩
  rw [e]
  intro io' F' H' x st sr vr
  cases vr
  rfl
section
variable {T : Tb} {X : Cx} {W : WX} {pos : Pos}
theorem takesNo : Takes X Wno := fun u s' ⟨_, _, _, _, _, _, _, _, _, _, _, _, _, _, _, _, z⟩ => False.elim z
theorem js_setLcF (i : Nat) {y : Str} {py spos : Pos} {elt tg iter : Expr} {ifs : List Expr} {scope : Scope} (own : List (Str × Nat)) {fi : Ix} {g : Gx} {t el : Ex} {ws : List Nat} (hc : X.calm = true) (hN : X.N.Nodup) (hi : JI T X W tg iter fi) (ok : BlkOk X.N X.env.scope scope own) (hw : ∀ j, j ∈ ws → j ∈ own.map (·.2))
    (hg : ∀ (s : Shared) (H : Hp) (C : Addr) (cl : List (Str × Addr)) (fp : List Addr), JGw T (X.blk s H scope (compEnvC scope cl C X.env) fp) ws tg g) (ht : ∀ (s : Shared) (H : Hp) (C : Addr) (cl : List (Str × Addr)) (fp : List Addr), JTs T (X.blk s H scope (compEnvC scope cl C X.env) fp) Wno ifs t)
    (he : ∀ (s : Shared) (H : Hp) (C : Addr) (cl : List (Str × Addr)) (fp : List Addr), JE T (X.blk s H scope (compEnvC scope cl C X.env) fp) Wno elt el) (hy : X.N[i]? = some y := by rfl) (hyl : X.env.scope.names.lookup y = some .local := by rfl)
    (hsw : swapsWith (.ListComp elt [⟨tg, iter, ifs, 0⟩] scope pos) (some (.Name y py)) spos.line X.env = pure true := by exact sw_true rfl rfl rfl (by decide +kernel)) (hs : ∀ x, foldedSetIterable iter X.env x = pure x := by intro _; rfl) :
    JS T X W (.Assign [.Name y py] (.ListComp elt [⟨tg, iter, ifs, 0⟩] scope pos) spos) (xSet i (xCompF (own.map (·.2)) fi g t el)) := by
  refine ps_imp (ps_setLc hc hN hy hyl hsw hi ok hg ht he hs) fun D σ H ⟨io, h, F, sg, sr, rs, w⟩ => comp_core (tg := tg) (iter := iter) (elt := elt) (ifs := ifs) (Q := fun _ _ => True) hw sr rs ?_
  unfold xSet xCompF at w
  cases e : xCompL (own.map (·.2)) fi g t el sg h with
  | bad => rw [e] at w; exact w
  | exc c fs h' => rw [e] at w; exact fun io' F' H' d st sr xr => w io' F' H' σ d st sr (rs.step st) xr
  | ok acc h' =>
    rw [e] at w
    intro D io' F' H' xs hD st sr' hd va fd nd
    obtain ⟨s1, s2, mn⟩ := CInv.froze hD st sr' hd fd nd
    exact w _ _ H' _ s1 s2 ((rs.step s1).set i (.lst (SqL.of upd_same) (va.mono (Nat.le_refl _) (fun _ _ => rfl) mn)))
end
end Py

namespace Py
open PySem PySem.Spec PyProof.Rows L2

/-! ### the draws that every law makes -/
def seedF (c : Int) : Fx := fnOf 2 3
 (xSeq (xSet 2 (xOp gAdd (xOp gMul (xC (.int 8831)) (xVar 1)) (xC (.int 101))))
 (xSeq (xIfS (xOp gLt (xVar 1) (xCB gLen (xCons (xVar 0) xNil)))
 (xSet 2 (xCB gAbs (xCons (xOp gIx (xVar 0) (xVar 1)) xNil)))
 (xIfS (xOp gGt (xCB gLen (xCons (xVar 0) xNil)) (xC (.int 0)))
 (xSet 2 (xOp gAdd (xVar 2) (xOp gMul (xOp gMod (xCB gInt1 (xCons (xCB gAbs (xCons (xOp gIx (xVar 0) (xOp gMod (xCB gInt1 (xCons (xVar 1) xNil)) (xCB gLen (xCons (xVar 0) xNil)))) xNil)) xNil)) (xC (.int 2147483629))) (xC (.int c)))))
 xSkip))
 (xRet (xLst (xCons (xIf (xOp gGe (xVar 2) (xOp gPow (xC (.int 10)) (xC (.int 18)))) (xVar 2) (xC (.int 0))) (xCons (xOp gAdd (xOp gMod (xCB gInt1 (xCons (xOp gAdd (xOp gMul (xOp gMod (xCB gInt1 (xCons (xVar 2) xNil)) (xC (.int 2147483629))) (xC (.int 48271))) (xOp gMul (xC (.int 37021)) (xVar 1))) xNil)) (xC (.int 2147483629))) (xC (.int 1))) xNil))))))
def chooseF : Fx := fnOf 2 4
 (xSeq (xIfS (xOp gGt (xOp gIx (xVar 0) (xC (.int 0))) (xC (.int 0)))
 (xSeq (xSet 2 (xOp gMod (xCB gInt1 (xCons (xOp gIx (xVar 0) (xC (.int 0))) xNil)) (xVar 1)))
 (xSeq (xAsg (xOp gFdiv (xOp gIx (xVar 0) (xC (.int 0))) (xVar 1)) (gSetIx (xVar 0) (xC (.int 0))))
 (xRet (xVar 2))))
 xSkip)
 (xSeq (xSet 3 (xOp gMod (xCB gInt1 (xCons (xOp gAdd (xOp gMul (xOp gIx (xVar 0) (xC (.int 1))) (xC (.int 40014))) (xC (.int 71))) xNil)) (xC (.int 2147483563))))
 (xSeq (xAsg (xOp gAdd (xOp gMod (xCB gInt1 (xCons (xOp gAdd (xOp gMul (xVar 3) (xC (.int 40692))) (xC (.int 4603))) xNil)) (xC (.int 2147483629))) (xC (.int 1))) (gSetIx (xVar 0) (xC (.int 1))))
 (xRet (xOp gMod (xCB gInt1 (xCons (xOp gFdiv (xOp gAdd (xOp gMul (xVar 3) (xC (.int 2147483647))) (xOp gIx (xVar 0) (xC (.int 1)))) (xC (.int 8191))) xNil)) (xVar 1))))))

def cA (a m : Int) : Int := if 0 < a then a / m else a
def cB (a b : Int) : Int := if 0 < a then b else ((b * 40014 + 71) % 2147483563 * 40692 + 4603) % 2147483629 + 1
def cD (a b m : Int) : Int := if 0 < a then a % m else ((b * 40014 + 71) % 2147483563 * 2147483647 + (((b * 40014 + 71) % 2147483563 * 40692 + 4603) % 2147483629 + 1)) / 8191 % m
theorem cD_lo (a b m : Int) (h0 : 0 < m) : 0 ≤ cD a b m := by
  unfold cD; split
  · exact Int.emod_nonneg _ (by omega)
  · exact Int.emod_nonneg _ (by omega)
theorem cD_hi (a b m : Int) (h0 : 0 < m) : cD a b m < m := by
  unfold cD; split
  · exact Int.emod_lt_of_pos _ h0
  · exact Int.emod_lt_of_pos _ h0
theorem choose_eq (a b m : Int) (h0 : 0 < m) (h1 : m < 1073741824) : chooseF [.lst [.int a, .int b]] [.ref 0, .int m] = .ok (.int (cD a b m)) [.lst [.int (cA a m), .int (cB a b)]] := by
  by_cases hb : 0 < a
  · simp [cA, cB, cD, chooseF, fnOf, xSeq, xIfS, xOp, xVar, xC, xSet, xRet, xAsg, xCB, xCons, xNil, xSkip, Res.bind, Res.bindS, Res.bindL, ResL.bind, ResL.bindL, ResG.bindS, Res.testS, gIx, lstOf, atV, gI, gIc, Res.ofO, Res.ofP, gInt1, gSetIx, mutOf, okMul, hb, h0, h1]
  · simp [cA, cB, cD, chooseF, fnOf, xSeq, xIfS, xOp, xVar, xC, xSet, xRet, xAsg, xCB, xCons, xNil, xSkip, Res.bind, Res.bindS, Res.bindL, ResL.bind, ResL.bindL, ResG.bindS, Res.testS, gIx, lstOf, atV, gI, gIc, Res.ofO, Res.ofP, gInt1, gSetIx, mutOf, okMul, hb, h0, h1]
theorem lst2 (a b : Ex) : xLst (xCons a (xCons b xNil)) = fun sg h => (a sg h).bind fun x h1 => (b sg h1).bind fun y h2 => .ok (.ref h2.length) (h2 ++ [.lst [x, y]]) := by
  funext sg h
  unfold xLst xCons xNil
  cases a sg h with
  | bad => rfl
  | exc c fs h1 => rfl
  | ok x h1 =>
    simp only [Res.bindL, Res.bind]
    cases b sg h1 with
    | bad => rfl
    | exc c fs h1 => rfl
    | ok y h2 => rfl
theorem pow18 : xOp gPow (xC (.int 10)) (xC (.int 18)) = xC (.int 1000000000000000000) := by
  funext sg h
  have e : (10 : Int) ^ ((18 : Int).toNat) = 1000000000000000000 := by decide
  simp [xOp, xC, Res.bind, gIc, Res.ofO]
theorem seed_1 (c : Int) (ns : List Int) (k : Nat) (hk : k < ns.length) : ∃ a b, seedF c [] [.lst (ns.map Val.int), .int k] = .ok (.ref 0) [.lst [.int a, .int b]] := by
  generalize hz : (if ns[k] < 0 then -ns[k] else ns[k]) = z
  unfold seedF
  rw [pow18, lst2]
  by_cases hq : 1000000000000000000 ≤ z
  · refine ⟨z, ((z % 2147483629 * 48271 + 37021 * k) % 2147483629 + 1), ?_⟩
    simp [fnOf, xSeq, xIfS, xOp, xVar, xC, xSet, xRet, xAsg, xCB, xCons, xNil, xSkip, xIf, Res.test, Res.bind, Res.bindS, Res.bindL, ResL.bind, ResL.bindL, ResG.bindS, Res.testS, gIx, lstOf, atV, gI, gIc, Res.ofO, Res.ofP, gInt1, gSetIx, mutOf, okMul, gLen, gAbs, hk, hz, hq]
  · refine ⟨0, ((z % 2147483629 * 48271 + 37021 * k) % 2147483629 + 1), ?_⟩
    simp [fnOf, xSeq, xIfS, xOp, xVar, xC, xSet, xRet, xAsg, xCB, xCons, xNil, xSkip, xIf, Res.test, Res.bind, Res.bindS, Res.bindL, ResL.bind, ResL.bindL, ResG.bindS, Res.testS, gIx, lstOf, atV, gI, gIc, Res.ofO, Res.ofP, gInt1, gSetIx, mutOf, okMul, gLen, gAbs, hk, hz, hq]
theorem xSeq_n {a b : Sx} {sg sg1 : Sg} {h h1 : Hh} (e : a sg h = .next sg1 h1) : xSeq a b sg h = b sg1 h1 := by unfold xSeq; rw [e]
theorem xSeq_r {a b : Sx} {sg : Sg} {v : Val} {h h1 : Hh} (e : a sg h = .ret v h1) : xSeq a b sg h = .ret v h1 := by unfold xSeq; rw [e]
theorem xIfS_f {c : Ex} {a b : Sx} {sg : Sg} {h h1 : Hh} (e : c sg h = .ok (.bl false) h1) : xIfS c a b sg h = b sg h1 := by unfold xIfS; rw [e]; rfl
theorem xIfS_t {c : Ex} {a b : Sx} {sg : Sg} {h h1 : Hh} (e : c sg h = .ok (.bl true) h1) : xIfS c a b sg h = a sg h1 := by unfold xIfS; rw [e]; rfl
theorem fnOf_r {np nN : Nat} {b : Sx} {h h1 : Hh} {as : List Val} {v : Val} (hl : as.length = np) (e : b (as.map some ++ List.replicate (nN - np) none) h = .ret v h1) : fnOf np nN b h as = .ok v h1 := by unfold fnOf; rw [if_pos hl, e]
theorem fnOf_n {np nN : Nat} {b : Sx} {h h1 : Hh} {as : List Val} {sg : Sg} (hl : as.length = np) (e : b (as.map some ++ List.replicate (nN - np) none) h = .next sg h1) : fnOf np nN b h as = .ok .non h1 := by unfold fnOf; rw [if_pos hl, e]
theorem seed_2a (l : List Val) (k : Int) : xSet 2 (xOp gAdd (xOp gMul (xC (.int 8831)) (xVar 1)) (xC (.int 101))) [some (.lst l), some (.int k), none] [] = .next [some (.lst l), some (.int k), some (.int (8831 * k + 101))] [] := by simp [xOp, xVar, xC, xSet, xRet, xCB, xCons, xNil, xIf, Res.test, Res.bind, Res.bindS, Res.bindL, ResL.bind, ResL.bindL, gIx, lstOf, gI, gIc, Res.ofO, Res.ofP, gInt1, gLen, okMul]
theorem seed_2b (l : List Val) (k z : Int) (hk : ¬ k < l.length) : xOp gLt (xVar 1) (xCB gLen (xCons (xVar 0) xNil)) [some (.lst l), some (.int k), some (.int z)] [] = .ok (.bl false) [] := by simp [xOp, xVar, xC, xSet, xRet, xCB, xCons, xNil, xIf, Res.test, Res.bind, Res.bindS, Res.bindL, ResL.bind, ResL.bindL, gIx, lstOf, gI, gIc, Res.ofO, Res.ofP, gInt1, gLen, okMul]; omega
theorem seed_2c (l : List Val) (k z : Int) (hk : l = []) : xOp gGt (xCB gLen (xCons (xVar 0) xNil)) (xC (.int 0)) [some (.lst l), some (.int k), some (.int z)] [] = .ok (.bl false) [] := by subst hk; rfl
theorem seed_2d (l : List Val) (k z : Int) : ∃ a b, (xRet (fun sg h => (xIf (xOp gGe (xVar 2) (xC (.int 1000000000000000000))) (xVar 2) (xC (.int 0)) sg h).bind fun x h1 => (xOp gAdd (xOp gMod (xCB gInt1 (xCons (xOp gAdd (xOp gMul (xOp gMod (xCB gInt1 (xCons (xVar 2) xNil)) (xC (.int 2147483629))) (xC (.int 48271))) (xOp gMul (xC (.int 37021)) (xVar 1))) xNil)) (xC (.int 2147483629))) (xC (.int 1)) sg h1).bind fun y h2 => .ok (.ref h2.length) (h2 ++ [.lst [x, y]]))) [some (.lst l), some (.int k), some (.int z)] [] = .ret (.ref 0) [.lst [.int a, .int b]] := by
  by_cases hq : 1000000000000000000 ≤ z
  · refine ⟨z, ((z % 2147483629 * 48271 + 37021 * k) % 2147483629 + 1), ?_⟩
    simp [xOp, xVar, xC, xSet, xRet, xCB, xCons, xNil, xIf, Res.test, Res.bind, Res.bindS, Res.bindL, ResL.bind, ResL.bindL, gIx, lstOf, gI, gIc, Res.ofO, Res.ofP, gInt1, gLen, okMul, hq]
  · refine ⟨0, ((z % 2147483629 * 48271 + 37021 * k) % 2147483629 + 1), ?_⟩
    simp [xOp, xVar, xC, xSet, xRet, xCB, xCons, xNil, xIf, Res.test, Res.bind, Res.bindS, Res.bindL, ResL.bind, ResL.bindL, gIx, lstOf, gI, gIc, Res.ofO, Res.ofP, gInt1, gLen, okMul, hq]
theorem seed_2 (c : Int) (k : Nat) : ∃ a b, seedF c [] [.lst (([] : List Int).map Val.int), .int k] = .ok (.ref 0) [.lst [.int a, .int b]] := by
  obtain ⟨a, b, e⟩ := seed_2d [] k (8831 * k + 101)
  refine ⟨a, b, ?_⟩
  unfold seedF
  rw [pow18, lst2]
  refine fnOf_r rfl ?_
  refine (xSeq_n (seed_2a [] k)).trans ?_
  refine (xSeq_n ((xIfS_f (seed_2b [] k _ (by simp))).trans (xIfS_f (seed_2c [] k _ rfl)))).trans ?_
  exact e
theorem seed_3 (c : Int) (hc0 : 0 < c ∧ c < 18446744073709551616) (ns : List Int) (k : Nat) (hk : ¬ k < ns.length) (hp : 0 < ns.length) : ∃ a b, seedF c [] [.lst (ns.map Val.int), .int k] = .ok (.ref 0) [.lst [.int a, .int b]] := by
  have hj : k % ns.length < ns.length := Nat.mod_lt _ hp
  have hj' : ((k : Int) % (ns.length : Int)).toNat = k % ns.length := by rw [← Int.natCast_emod]; rfl
  generalize hz : (if ns[k % ns.length] < 0 then -ns[k % ns.length] else ns[k % ns.length]) = z
  have hj0 : 0 ≤ (k : Int) % (ns.length : Int) := Int.emod_nonneg _ (by omega)
  have hc1 : -18446744073709551616 < c := by omega
  have hc2 := hc0.2
  unfold seedF
  rw [pow18, lst2]
  generalize hy : 8831 * (k : Int) + 101 + z % 2147483629 * c = y
  by_cases hq : 1000000000000000000 ≤ y
  · refine ⟨y, ((y % 2147483629 * 48271 + 37021 * k) % 2147483629 + 1), ?_⟩
    simp [fnOf, xSeq, xIfS, xOp, xVar, xC, xSet, xRet, xAsg, xCB, xCons, xNil, xSkip, xIf, Res.test, Res.bind, Res.bindS, Res.bindL, ResL.bind, ResL.bindL, ResG.bindS, Res.testS, gIx, lstOf, atV, gI, gIc, Res.ofO, Res.ofP, gInt1, gSetIx, mutOf, okMul, gLen, gAbs, hk, hq, hp, hj, hj', hj0, hz, hc1, hc2, hy]
  · refine ⟨0, ((y % 2147483629 * 48271 + 37021 * k) % 2147483629 + 1), ?_⟩
    simp [fnOf, xSeq, xIfS, xOp, xVar, xC, xSet, xRet, xAsg, xCB, xCons, xNil, xSkip, xIf, Res.test, Res.bind, Res.bindS, Res.bindL, ResL.bind, ResL.bindL, ResG.bindS, Res.testS, gIx, lstOf, atV, gI, gIc, Res.ofO, Res.ofP, gInt1, gSetIx, mutOf, okMul, gLen, gAbs, hk, hq, hp, hj, hj', hj0, hz, hc1, hc2, hy]
theorem seed_ok (c : Int) (hc0 : 0 < c ∧ c < 18446744073709551616) (ns : List Int) (k : Nat) : ∃ a b, seedF c [] [.lst (ns.map Val.int), .int k] = .ok (.ref 0) [.lst [.int a, .int b]] := by
  by_cases hk : k < ns.length
  · exact seed_1 c ns k hk
  · by_cases hn : ns = []
    · subst hn; exact seed_2 c k
    · exact seed_3 c hc0 ns k hk (List.length_pos_iff.mpr hn)
theorem pureVs_ints : ∀ ns : List Int, pureVs (ns.map Val.int) = true
  | [] => rfl
  | n :: r => by simp [pureVs, pureV, pureVs_ints r]
theorem callO_seed (T : Tb) (c : Int) (hc0 : 0 < c ∧ c < 18446744073709551616) (ns : List Int) (k : Nat) (h : Hh) : ∃ a b, callO T (seedF c) [.lst (ns.map Val.int), .int k] h = .ok (.ref h.length) (h ++ [.lst [.int a, .int b]]) := by
  obtain ⟨a, b, e⟩ := seed_ok c hc0 ns k
  refine ⟨a, b, ?_⟩
  unfold callO
  rw [if_pos (by simp [pureVs, pureV, pureVs_ints]), e]
  rfl
theorem callB_choose (T : Tb) (a b m : Int) (h0 : 0 < m) (h1 : m < 1073741824) (k : Nat) (h : Hh) (hk : h[k]? = some (.lst [.int a, .int b])) : callB T chooseF [.ref k, .int m] h = .ok (.int (cD a b m)) (h.set k (.lst [.int (cA a m), .int (cB a b)])) := by
  unfold callB
  simp only [hk]
  rw [if_pos (by rfl), choose_eq a b m h0 h1]
  rfl
def oneF (T : Tb) : Fx := fnOf 2 2
 (xRet (xOp gIx (xVar 1) (xCallB T chooseF [] (xCons (xVar 0) (xCons (xCB gLen (xCons (xVar 1) xNil)) xNil)))))
theorem pureVs_at : ∀ {vs : List Val} {i : Nat} {v : Val}, pureVs vs = true → vs[i]? = some v → pureV v = true
  | [], i, v, _, e => by simp at e
  | w :: r, 0, v, h, e => by simp [pureVs] at h e; rw [← e]; exact h.1
  | w :: r, i + 1, v, h, e => by simp [pureVs] at h e; exact pureVs_at h.2 e
theorem callB_one (T : Tb) (a b : Int) (vs : List Val) (v : Val) (hp : pureVs vs = true) (h0 : 0 < vs.length) (h1 : vs.length < 1073741824) (hv : vs[(cD a b vs.length).toNat]? = some v) (k : Nat) (h : Hh) (hk : h[k]? = some (.lst [.int a, .int b])) :
    callB T (oneF T) [.ref k, .lst vs] h = .ok v (h.set k (.lst [.int (cA a vs.length), .int (cB a b)])) := by
  have e : oneF T [.lst [.int a, .int b]] [.ref 0, .lst vs] = .ok v [.lst [.int (cA a vs.length), .int (cB a b)]] := by
    have e := callB_choose T a b vs.length (by omega) (by omega) 0 [.lst [.int a, .int b]] rfl
    have q := cD_lo a b vs.length (by omega)
    simp [oneF, fnOf, xRet, xOp, xVar, xCallB, xCons, xNil, xCB, gLen, Res.bind, Res.bindL, Res.bindS, ResL.bind, ResL.bindL, Res.ofO, Res.ofP, e, lstOf, gIx, atV, q, hv]
  unfold callB
  simp only [hk]
  rw [if_pos (by simp [pureVs, pureV, hp]), e]
  have hpv := pureVs_at hp hv
  simp [hpv, pureVs, pureV]
theorem callB_oneT (T : Tb) (a b : Int) (vs : List Val) (v : Val) (hp : pureVs vs = true) (h0 : 0 < vs.length) (h1 : vs.length < 1073741824) (hv : vs[(cD a b vs.length).toNat]? = some v) (k : Nat) (h : Hh) (hk : h[k]? = some (.lst [.int a, .int b])) :
    callB T (oneF T) [.ref k, .tup vs] h = .ok v (h.set k (.lst [.int (cA a vs.length), .int (cB a b)])) := by
  have e : oneF T [.lst [.int a, .int b]] [.ref 0, .tup vs] = .ok v [.lst [.int (cA a vs.length), .int (cB a b)]] := by
    have e := callB_choose T a b vs.length (by omega) (by omega) 0 [.lst [.int a, .int b]] rfl
    have q := cD_lo a b vs.length (by omega)
    simp [oneF, fnOf, xRet, xOp, xVar, xCallB, xCons, xNil, xCB, gLen, Res.bind, Res.bindL, Res.bindS, ResL.bind, ResL.bindL, Res.ofO, Res.ofP, e, lstOf, gIx, atV, q, hv]
  unfold callB
  simp only [hk]
  rw [if_pos (by simp [pureVs, pureV, hp]), e]
  have hpv := pureVs_at hp hv
  simp [hpv, pureVs, pureV]
theorem set_last (h : Hh) (x y : Obj) : (h ++ [x]).set h.length y = h ++ [y] := by
  rw [List.set_append_right _ _ (Nat.le_refl _)]; simp
/-- loops that only go on -/
theorem for_all {body : Val → Sg → Hh → ResS} {P : Sg → Prop} : ∀ (vs : List Val), (∀ v, v ∈ vs → ∀ sg h, P sg → ∃ sg' h', body v sg h = .next sg' h' ∧ P sg') → ∀ sg h, P sg → ∃ sg' h', forItems body vs sg h = .next sg' h' ∧ P sg'
  | [], _, sg, h, p => ⟨sg, h, rfl, p⟩
  | v :: r, hb, sg, h, p => by
    obtain ⟨sg1, h1, e, p1⟩ := hb v (by simp) sg h p
    obtain ⟨sg2, h2, e2, p2⟩ := for_all r (fun u hu => hb u (by simp [hu])) sg1 h1 p1
    refine ⟨sg2, h2, ?_, p2⟩
    unfold forItems
    rw [e]
    exact e2
theorem rng_mem : ∀ (n : Nat) (lo : Int) (v : Val), v ∈ rng lo n → ∃ i : Nat, i < n ∧ v = .int (lo + i)
  | 0, lo, v, h => by simp [rng] at h
  | n + 1, lo, v, h => by
    simp [rng] at h
    rcases h with h | h
    · exact ⟨0, by omega, by simp [h]⟩
    · obtain ⟨i, hi, e⟩ := rng_mem n (lo + 1) v h
      exact ⟨i + 1, by omega, by rw [e]; congr 1; omega⟩
theorem law_loop {m : Nat} {cnt : Lx} {body : Sx} {ns : List Int} (hc : ∀ sg, ∃ j : Int, cnt (some (.lst (ns.map Val.int)) :: sg) [] = .ok [.int j] [] ∧ small62 j = true)
    (hb : ∀ (k : Nat) r h, r.length = m → ∃ r' h', body (some (.lst (ns.map Val.int)) :: some (.int k) :: r) h = .next (some (.lst (ns.map Val.int)) :: some (.int k) :: r') h' ∧ r'.length = m) :
    ∃ h', fnOf 1 (m + 2) (xSeq (xFor (xIRng1 cnt) (gN 1) body) (xRet (xC (.bl true)))) [] [.lst (ns.map Val.int)] = .ok (.bl true) h' := by
  obtain ⟨j, e, hs⟩ := hc (List.replicate (m + 1) none)
  obtain ⟨sg', h', e2, _⟩ := for_all (body := bodyOf (gN 1) body) (P := fun sg => ∃ x r, sg = some (.lst (ns.map Val.int)) :: x :: r ∧ r.length = m) (rng 0 j.toNat) (fun v hv sg h ⟨x, r, es, hr⟩ => by
    obtain ⟨i, hi, ei⟩ := rng_mem _ _ _ hv
    obtain ⟨r', h', e, hr'⟩ := hb i r h hr
    refine ⟨_, h', ?_, some (.int i), r', rfl, hr'⟩
    subst es ei
    simpa [bodyOf, gN, ResG.bindS] using e) (some (.lst (ns.map Val.int)) :: List.replicate (m + 1) none) [] ⟨none, List.replicate m none, rfl, by simp⟩
  refine ⟨h', fnOf_r rfl ((xSeq_n (sg1 := sg') (h1 := h') ?_).trans rfl)⟩
  show xFor (xIRng1 cnt) (gN 1) body (some (.lst (ns.map Val.int)) :: List.replicate (m + 1) none) [] = _
  unfold xFor xIRng1
  rw [e]
  simp only [hs, if_true]
  exact e2
end Py

namespace Law
open PySem PySem.Spec PyProof.Rows L2 Py
def topS (i : Nat) : Stmt := PySem.Challenge.pw_dimdays_k16_showing_known.main.body.getD i (.Pass ⟨0, 0, 0, 0⟩)
def TB : Tb where
  cn := fun c => match c with
    | 0 => "DimError"
    | 1 => "InvalidDay"
    | 2 => "InvalidRule"
    | 3 => "InvalidText"
    | 4 => "NoMeeting"
    | 5 => "Day"
    | 6 => "Rule"
    | _ => "?"
  fn := fun c => match c with
    | 0 => []
    | 1 => ["word"]
    | 2 => ["word"]
    | 3 => ["at"]
    | 4 => ["at"]
    | 5 => ["length", "meetings"]
    | 6 => ["step", "gap", "least", "private", "hours"]
    | _ => []
  gn := fun _ => "?"
abbrev c_WORDS : Val := .tup [.str [98, 117, 115, 121], .str [112, 114, 105, 118, 97, 116, 101]]
abbrev c_SORTS : Val := .tup [.str [98, 117, 115, 121], .str [110, 111, 110, 101], .str [97, 112, 97, 114, 116], .str [111, 110, 101]]
abbrev s_Lseed : Stmt := topS 32
theorem sc_Lseed : FnScope ["_law_script", "_law_k", "_law_cell"] ["_law_script", "_law_k"] (defScope s_Lseed) := ⟨rfl, rfl, rfl, by decide +kernel, rfl, by decide +kernel, by decide +kernel⟩
abbrev s_Lchoose : Stmt := topS 33
theorem sc_Lchoose : FnScope ["_law_box", "_law_many", "_law_digit", "_law_raw"] ["_law_box", "_law_many"] (defScope s_Lchoose) := ⟨rfl, rfl, rfl, by decide +kernel, rfl, by decide +kernel, by decide +kernel⟩
abbrev s_Lone_of : Stmt := topS 34
theorem sc_Lone_of : FnScope ["_law_box", "_law_some"] ["_law_box", "_law_some"] (defScope s_Lone_of) := ⟨rfl, rfl, rfl, by decide +kernel, rfl, by decide +kernel, by decide +kernel⟩
abbrev s_is_integer : Stmt := topS 11
theorem sc_is_integer : FnScope ["value"] ["value"] (defScope s_is_integer) := ⟨rfl, rfl, rfl, by decide +kernel, rfl, by decide +kernel, by decide +kernel⟩
abbrev s_is_bool : Stmt := topS 13
theorem sc_is_bool : FnScope ["value"] ["value"] (defScope s_is_bool) := ⟨rfl, rfl, rfl, by decide +kernel, rfl, by decide +kernel, by decide +kernel⟩
abbrev s_is_number : Stmt := topS 12
theorem sc_is_number : FnScope ["value"] ["value"] (defScope s_is_number) := ⟨rfl, rfl, rfl, by decide +kernel, rfl, by decide +kernel, by decide +kernel⟩
abbrev s_is_meeting : Stmt := topS 22
theorem sc_is_meeting : FnScope ["value", "begin", "end", "is_private"] ["value"] (defScope s_is_meeting) := ⟨rfl, rfl, rfl, by decide +kernel, rfl, by decide +kernel, by decide +kernel⟩
abbrev s_is_sequence : Stmt := topS 14
theorem sc_is_sequence : FnScope ["value"] ["value"] (defScope s_is_sequence) := ⟨rfl, rfl, rfl, by decide +kernel, rfl, by decide +kernel, by decide +kernel⟩
abbrev s_are_meetings : Stmt := topS 23
theorem sc_are_meetings : FnScope ["length", "value", "last", "begin", "end", "is_private", "meeting"] ["length", "value"] (defScope s_are_meetings) := ⟨rfl, rfl, rfl, by decide +kernel, rfl, by decide +kernel, by decide +kernel⟩
abbrev s_Day_init : Stmt := inClass (topS 24) 0
theorem sc_Day_init : FnScope ["self", "length", "meetings"] ["self", "length", "meetings"] (defScope s_Day_init) := ⟨rfl, rfl, rfl, by decide +kernel, rfl, by decide +kernel, by decide +kernel⟩
abbrev s_Rule_word_of : Stmt := inClass (topS 30) 5
theorem sc_Rule_word_of : FnScope ["self", "is_private"] ["self", "is_private"] (defScope s_Rule_word_of) := ⟨rfl, rfl, rfl, by decide +kernel, rfl, by decide +kernel, by decide +kernel⟩
abbrev s_Rule_down : Stmt := inClass (topS 30) 6
theorem sc_Rule_down : FnScope ["self", "tick"] ["self", "tick"] (defScope s_Rule_down) := ⟨rfl, rfl, rfl, by decide +kernel, rfl, by decide +kernel, by decide +kernel⟩
abbrev s_Rule_up : Stmt := inClass (topS 30) 7
theorem sc_Rule_up : FnScope ["self", "tick"] ["self", "tick"] (defScope s_Rule_up) := ⟨rfl, rfl, rfl, by decide +kernel, rfl, by decide +kernel, by decide +kernel⟩
abbrev s_Rule_joins : Stmt := inClass (topS 30) 8
theorem sc_Rule_joins : FnScope ["self", "word", "end", "low"] ["self", "word", "end", "low"] (defScope s_Rule_joins) := ⟨rfl, rfl, rfl, by decide +kernel, rfl, by decide +kernel, by decide +kernel⟩
abbrev s_blocks_of : Stmt := topS 18
theorem sc_blocks_of : FnScope ["rule", "day", "word", "found", "begin", "end", "is_private", "low", "high"] ["rule", "day", "word"] (defScope s_blocks_of) := ⟨rfl, rfl, rfl, by decide +kernel, rfl, by decide +kernel, by decide +kernel⟩
abbrev s_Rule_shown : Stmt := inClass (topS 30) 9
theorem sc_Rule_shown : FnScope ["self", "begin", "end"] ["self", "begin", "end"] (defScope s_Rule_shown) := ⟨rfl, rfl, rfl, by decide +kernel, rfl, by decide +kernel, by decide +kernel⟩
abbrev s_show : Stmt := topS 19
theorem sc_show : FnScope ["rule", "day", "found", "word", "begin", "end", "block"] ["rule", "day"] (defScope s_show) := ⟨rfl, rfl, rfl, by decide +kernel, rfl, by decide +kernel, by decide +kernel⟩
abbrev s_are_hours : Stmt := topS 29
theorem sc_are_hours : FnScope ["value"] ["value"] (defScope s_are_hours) := ⟨rfl, rfl, rfl, by decide +kernel, rfl, by decide +kernel, by decide +kernel⟩
abbrev s_Rule_init : Stmt := inClass (topS 30) 0
theorem sc_Rule_init : FnScope ["self", "step", "gap", "least", "private", "hours"] ["self", "step", "gap", "least", "private", "hours"] (defScope s_Rule_init) := ⟨rfl, rfl, rfl, by decide +kernel, rfl, by decide +kernel, by decide +kernel⟩
abbrev s_Llast_right : Stmt := topS 37
theorem sc_Llast_right : FnScope ["_law_last"] [] (defScope s_Llast_right) := ⟨rfl, rfl, rfl, by decide +kernel, rfl, by decide +kernel, by decide +kernel⟩
abbrev s_Llone_right : Stmt := topS 36
theorem sc_Llone_right : FnScope ["_law_a", "_law_lone"] ["_law_a"] (defScope s_Llone_right) := ⟨rfl, rfl, rfl, by decide +kernel, rfl, by decide +kernel, by decide +kernel⟩
abbrev s_Lday_right : Stmt := topS 35
theorem sc_Lday_right : FnScope ["_law_a", "_law_day", "_law_due"] ["_law_a"] (defScope s_Lday_right) := ⟨rfl, rfl, rfl, by decide +kernel, rfl, by decide +kernel, by decide +kernel⟩
abbrev s_law : Stmt := topS 38
theorem sc_law : FnScope ["_law_script", "_law_k", "_law_box", "_law_a", "_law_step"] ["_law_script"] (defScope s_law) := ⟨rfl, rfl, rfl, by decide +kernel, rfl, by decide +kernel, by decide +kernel⟩
def f_Lseed : Fx := fnOf 2 3
 (xSeq (xSet 2 (xOp gAdd (xOp gMul (xC (.int 8831)) (xVar 1)) (xC (.int 101))))
 (xSeq (xIfS (xOp gLt (xVar 1) (xCB gLen (xCons (xVar 0) xNil)))
 (xSet 2 (xCB gAbs (xCons (xOp gIx (xVar 0) (xVar 1)) xNil)))
 (xIfS (xOp gGt (xCB gLen (xCons (xVar 0) xNil)) (xC (.int 0)))
 (xSet 2 (xOp gAdd (xVar 2) (xOp gMul (xOp gMod (xCB gInt1 (xCons (xCB gAbs (xCons (xOp gIx (xVar 0) (xOp gMod (xCB gInt1 (xCons (xVar 1) xNil)) (xCB gLen (xCons (xVar 0) xNil)))) xNil)) xNil)) (xC (.int 2147483629))) (xC (.int 40093)))))
 xSkip))
 (xRet (xLst (xCons (xIf (xOp gGe (xVar 2) (xOp gPow (xC (.int 10)) (xC (.int 18)))) (xVar 2) (xC (.int 0))) (xCons (xOp gAdd (xOp gMod (xCB gInt1 (xCons (xOp gAdd (xOp gMul (xOp gMod (xCB gInt1 (xCons (xVar 2) xNil)) (xC (.int 2147483629))) (xC (.int 48271))) (xOp gMul (xC (.int 37021)) (xVar 1))) xNil)) (xC (.int 2147483629))) (xC (.int 1))) xNil))))))
def f_Lchoose : Fx := fnOf 2 4
 (xSeq (xIfS (xOp gGt (xOp gIx (xVar 0) (xC (.int 0))) (xC (.int 0)))
 (xSeq (xSet 2 (xOp gMod (xCB gInt1 (xCons (xOp gIx (xVar 0) (xC (.int 0))) xNil)) (xVar 1)))
 (xSeq (xAsg (xOp gFdiv (xOp gIx (xVar 0) (xC (.int 0))) (xVar 1)) (gSetIx (xVar 0) (xC (.int 0))))
 (xRet (xVar 2))))
 xSkip)
 (xSeq (xSet 3 (xOp gMod (xCB gInt1 (xCons (xOp gAdd (xOp gMul (xOp gIx (xVar 0) (xC (.int 1))) (xC (.int 40014))) (xC (.int 71))) xNil)) (xC (.int 2147483563))))
 (xSeq (xAsg (xOp gAdd (xOp gMod (xCB gInt1 (xCons (xOp gAdd (xOp gMul (xVar 3) (xC (.int 40692))) (xC (.int 4603))) xNil)) (xC (.int 2147483629))) (xC (.int 1))) (gSetIx (xVar 0) (xC (.int 1))))
 (xRet (xOp gMod (xCB gInt1 (xCons (xOp gFdiv (xOp gAdd (xOp gMul (xVar 3) (xC (.int 2147483647))) (xOp gIx (xVar 0) (xC (.int 1)))) (xC (.int 8191))) xNil)) (xVar 1))))))
def f_Lone_of : Fx := fnOf 2 2
 (xRet (xOp gIx (xVar 1) (xCallB TB f_Lchoose [] (xCons (xVar 0) (xCons (xCB gLen (xCons (xVar 1) xNil)) xNil)))))
def f_is_integer : Fx := fnOf 1 1
 (xRet (xAnd (xUn (gIsi .int) (xVar 0)) (xNot (xUn (gIsi .bool) (xVar 0)))))
def f_is_bool : Fx := fnOf 1 1
 (xRet (xUn (gIsi .bool) (xVar 0)))
def f_is_number : Fx := fnOf 1 1
 (xRet (xAnd (xCallP TB f_is_integer [] (xCons (xVar 0) xNil)) (xOp gGe (xVar 0) (xC (.int 0)))))
def f_is_meeting : Fx := fnOf 1 4
 (xSeq (xIfS (xOr (xNot (xUn (gIsi .tuple) (xVar 0))) (xOp gNe (xCB gLen (xCons (xVar 0) xNil)) (xC (.int 3))))
 (xRet (xC (.bl false)))
 xSkip)
 (xSeq (xAsg (xVar 0) (gTu 3 (gsCons (gN 1) (gsCons (gN 2) (gsCons (gN 3) gsNil)))))
 (xRet (xAnd (xCallP TB f_is_number [] (xCons (xVar 1) xNil)) (xAnd (xCallP TB f_is_number [] (xCons (xVar 2) xNil)) (xAnd (xCallP TB f_is_bool [] (xCons (xVar 3) xNil)) (xOp gLt (xVar 1) (xVar 2))))))))
def f_is_sequence : Fx := fnOf 1 1
 (xRet (xUn (gIsi2 .list .tuple) (xVar 0)))
def f_are_meetings : Fx := fnOf 2 7
 (xSeq (xIfS (xOr (xNot (xCallP TB f_is_sequence [] (xCons (xVar 1) xNil))) (xNot (xCB gAll (xCons (xCompF [6] (xISq (xVar 1)) (gN 6) (xC (.bl true)) (xCallP TB f_is_meeting [] (xCons (xVar 6) xNil))) xNil))))
 (xRet (xC (.bl false)))
 xSkip)
 (xSeq (xSet 2 (xC (.int 0)))
 (xSeq (xFor (xISq (xVar 1)) (gTu 3 (gsCons (gN 3) (gsCons (gN 4) (gsCons (gN 5) gsNil))))
 (xSeq (xIfS (xOr (xOp gLt (xVar 3) (xVar 2)) (xOp gGt (xVar 4) (xVar 0)))
 (xRet (xC (.bl false)))
 xSkip)
 (xSet 2 (xVar 4))))
 (xRet (xC (.bl true))))))
def f_Day_init : Fx := fnOf 3 3
 (xSeq (xIfS (xOr (xNot (xCallP TB f_is_integer [] (xCons (xVar 1) xNil))) (xOp gLt (xVar 1) (xC (.int 1))))
 (fun _ _ => .bad)
 xSkip)
 (xSeq (xIfS (xNot (xCallP TB f_are_meetings [] (xCons (xVar 1) (xCons (xVar 2) xNil))))
 (fun _ _ => .bad)
 xSkip)
 (xSeq (xSetAttr [(5, 0)] (xVar 1) (xVar 0))
 (xSetAttr [(5, 1)] (xCB gTuple (xCons (xVar 2) xNil)) (xVar 0)))))
def f_Rule_word_of : Fx := fnOf 2 2
 (xSeq (xIfS (xOr (xNot (xVar 1)) (xOp gEq (xUn (gAttr [(6, 3)]) (xVar 0)) (xC (.str [98, 117, 115, 121]))))
 (xRet (xOp gIx (xC c_WORDS) (xC (.int 0))))
 xSkip)
 (xRet (xIf (xOp gEq (xUn (gAttr [(6, 3)]) (xVar 0)) (xC (.str [110, 111, 110, 101]))) (xC .non) (xOp gIx (xC c_WORDS) (xC (.int 1))))))
def f_Rule_down : Fx := fnOf 2 2
 (xRet (xOp gMul (xOp gFdiv (xVar 1) (xUn (gAttr [(6, 0)]) (xVar 0))) (xUn (gAttr [(6, 0)]) (xVar 0))))
def f_Rule_up : Fx := fnOf 2 2
 (xRet (xOp gMul (xOp gFdiv (xOp gSub (xOp gAdd (xVar 1) (xUn (gAttr [(6, 0)]) (xVar 0))) (xC (.int 1))) (xUn (gAttr [(6, 0)]) (xVar 0))) (xUn (gAttr [(6, 0)]) (xVar 0))))
def f_Rule_joins : Fx := fnOf 4 4
 (xRet (xOr (xOp gLe (xOp gSub (xVar 3) (xVar 2)) (xUn (gAttr [(6, 1)]) (xVar 0))) (xAnd (xOp gEq (xVar 1) (xOp gIx (xC c_WORDS) (xC (.int 1)))) (xOp gEq (xUn (gAttr [(6, 3)]) (xVar 0)) (xC (.str [111, 110, 101]))))))
def f_blocks_of : Fx := fnOf 3 9
 (xSeq (xSet 3 (xLst xNil))
 (xSeq (xFor (xISq (xUn (gAttr [(5, 1)]) (xVar 1))) (gTu 3 (gsCons (gN 4) (gsCons (gN 5) (gsCons (gN 6) gsNil))))
 (xIfS (xOp gEq (xMethP TB 6 f_Rule_word_of [] (xVar 0) (xCons (xVar 6) xNil)) (xVar 2))
 (xSeq (xPar 7 8 (xCons (xMethP TB 6 f_Rule_down [] (xVar 0) (xCons (xVar 4) xNil)) (xCons (xMethP TB 6 f_Rule_up [] (xVar 0) (xCons (xVar 5) xNil)) xNil)))
 (xSeq (xIfS (xAnd (xOp gGt (xCB gLen (xCons (xVar 3) xNil)) (xC (.int 0))) (xMethP TB 6 f_Rule_joins [] (xVar 0) (xCons (xVar 2) (xCons (xOp gIx (xOp gIx (xVar 3) (xUn gNeg (xC (.int 1)))) (xC (.int 1))) (xCons (xVar 7) xNil)))))
 (xSet 7 (xOp gIx (xBM0 "list" gPop (xVar 3)) (xC (.int 0))))
 xSkip)
 (xDrop (xBM "list" gAppend (xVar 3) (xCons (xTup (xCons (xVar 7) (xCons (xVar 8) xNil))) xNil)))))
 xSkip))
 (xRet (xVar 3))))
def f_Rule_shown : Fx := fnOf 3 3
 (xSeq (xIfS (xOp gLt (xOp gSub (xVar 2) (xVar 1)) (xUn (gAttr [(6, 2)]) (xVar 0)))
 (xRet (xC .non))
 xSkip)
 (xSeq (xIfS (xUn (fun _ v => some (.bl (!isNon v))) (xUn (gAttr [(6, 4)]) (xVar 0)))
 (xPar 1 2 (xCons (xCB gMax2 (xCons (xCB gInt1 (xCons (xVar 1) xNil)) (xCons (xCB gInt1 (xCons (xOp gIx (xUn (gAttr [(6, 4)]) (xVar 0)) (xC (.int 0))) xNil)) xNil))) (xCons (xCB gMin2 (xCons (xCB gInt1 (xCons (xVar 2) xNil)) (xCons (xCB gInt1 (xCons (xOp gIx (xUn (gAttr [(6, 4)]) (xVar 0)) (xC (.int 1))) xNil)) xNil))) xNil)))
 xSkip)
 (xRet (xIf (xOp gLt (xVar 1) (xVar 2)) (xTup (xCons (xVar 1) (xCons (xVar 2) xNil))) (xC .non)))))
def f_show : Fx := fnOf 2 7
 (xSeq (xSet 2 (xLst xNil))
 (xSeq (xFor (xISq (xC c_WORDS)) (gN 3)
 (xFor (xISq (xCallP TB f_blocks_of [] (xCons (xVar 0) (xCons (xVar 1) (xCons (xVar 3) xNil))))) (gTu 2 (gsCons (gN 4) (gsCons (gN 5) gsNil)))
 (xSeq (xSet 6 (xMethP TB 6 f_Rule_shown [] (xVar 0) (xCons (xVar 4) (xCons (xVar 5) xNil))))
 (xIfS (xUn (fun _ v => some (.bl (!isNon v))) (xVar 6))
 (xDrop (xBM "list" gAppend (xVar 2) (xCons (xTup (xStar (xVar 6) (xCons (xVar 3) xNil))) xNil)))
 xSkip))))
 (xRet (xCB gTuple (xCons (xCB (gSortT (fun i => decide (i = 2))) (xCons (xVar 2) xNil)) xNil)))))
def f_are_hours : Fx := fnOf 1 1
 (xSeq (xIfS (xUn (fun _ v => some (.bl (isNon v))) (xVar 0))
 (xRet (xC (.bl true)))
 xSkip)
 (xSeq (xIfS (xOr (xNot (xUn (gIsi .tuple) (xVar 0))) (xOr (xOp gNe (xCB gLen (xCons (xVar 0) xNil)) (xC (.int 2))) (xOr (xNot (xCallP TB f_is_number [] (xCons (xOp gIx (xVar 0) (xC (.int 0))) xNil))) (xNot (xCallP TB f_is_number [] (xCons (xOp gIx (xVar 0) (xC (.int 1))) xNil))))))
 (xRet (xC (.bl false)))
 xSkip)
 (xRet (xOp gLt (xOp gIx (xVar 0) (xC (.int 0))) (xOp gIx (xVar 0) (xC (.int 1)))))))
abbrev d_Rule_init_v1 : List Val := [.non]
abbrev d_Rule_init_v2 : List Val := [.str [98, 117, 115, 121], .non]
abbrev d_Rule_init_v3 : List Val := [.int 0, .str [98, 117, 115, 121], .non]
abbrev d_Rule_init_v4 : List Val := [.int 0, .int 0, .str [98, 117, 115, 121], .non]
def f_Rule_init : Fx := fnOf 6 6
 (xSeq (xIfS (xOr (xNot (xCallP TB f_is_integer [] (xCons (xVar 1) xNil))) (xOp gLt (xVar 1) (xC (.int 1))))
 (fun _ _ => .bad)
 xSkip)
 (xSeq (xIfS (xNot (xCallP TB f_is_number [] (xCons (xVar 2) xNil)))
 (fun _ _ => .bad)
 xSkip)
 (xSeq (xIfS (xNot (xCallP TB f_is_number [] (xCons (xVar 3) xNil)))
 (fun _ _ => .bad)
 xSkip)
 (xSeq (xIfS (xOr (xNot (xUn (gIsi .str) (xVar 4))) (xOp (gIn true) (xVar 4) (xC c_SORTS)))
 (fun _ _ => .bad)
 xSkip)
 (xSeq (xIfS (xNot (xCallP TB f_are_hours [] (xCons (xVar 5) xNil)))
 (fun _ _ => .bad)
 xSkip)
 (xSeq (xSetAttr [(6, 0)] (xVar 1) (xVar 0))
 (xSeq (xSetAttr [(6, 1)] (xVar 2) (xVar 0))
 (xSeq (xSetAttr [(6, 2)] (xVar 3) (xVar 0))
 (xSeq (xSetAttr [(6, 3)] (xVar 4) (xVar 0))
 (xSetAttr [(6, 4)] (xVar 5) (xVar 0)))))))))))
def f_Llast_right : Fx := fnOf 0 1
 (xSeq (xSet 0 (xMakeP TB 5 f_Day_init [] (xCons (xC (.int 47)) (xCons (xLstF (xCons (xTup (xCons (xC (.int 45)) (xCons (xC (.int 47)) (xCons (xC (.bl false)) xNil)))) xNil)) xNil))))
 (xSeq (xIfS (xOp gNe (xCallP TB f_show [] (xCons (xMakeP TB 6 f_Rule_init d_Rule_init_v4 (xCons (xC (.int 4)) xNil)) (xCons (xVar 0) xNil))) (xTup (xCons (xTup (xCons (xC (.int 44)) (xCons (xC (.int 48)) (xCons (xC (.str [98, 117, 115, 121])) xNil)))) xNil)))
 (xRet (xC (.bl false)))
 xSkip)
 (xSeq (xIfS (xOp gNe (xCallP TB f_show [] (xCons (xMakeP TB 6 f_Rule_init [] (xCons (xC (.int 4)) (xCons (xC (.int 0)) (xCons (xC (.int 4)) (xCons (xC (.str [98, 117, 115, 121])) (xCons (xTup (xCons (xC (.int 46)) (xCons (xC (.int 48)) xNil))) xNil)))))) (xCons (xVar 0) xNil))) (xTup (xCons (xTup (xCons (xC (.int 46)) (xCons (xC (.int 48)) (xCons (xC (.str [98, 117, 115, 121])) xNil)))) xNil)))
 (xRet (xC (.bl false)))
 xSkip)
 (xRet (xAnd (xOp gEq (xCallP TB f_show [] (xCons (xMakeP TB 6 f_Rule_init d_Rule_init_v2 (xCons (xC (.int 4)) (xCons (xC (.int 0)) (xCons (xC (.int 5)) xNil)))) (xCons (xVar 0) xNil))) (xTup xNil)) (xOp gEq (xCallP TB f_show [] (xCons (xMakeP TB 6 f_Rule_init [] (xCons (xC (.int 4)) (xCons (xC (.int 0)) (xCons (xC (.int 0)) (xCons (xC (.str [98, 117, 115, 121])) (xCons (xTup (xCons (xC (.int 0)) (xCons (xC (.int 44)) xNil))) xNil)))))) (xCons (xVar 0) xNil))) (xTup xNil)))))))
def f_Llone_right : Fx := fnOf 1 2
 (xSeq (xSet 1 (xMakeP TB 5 f_Day_init [] (xCons (xC (.int 48)) (xCons (xLstF (xCons (xTup (xCons (xVar 0) (xCons (xOp gAdd (xVar 0) (xC (.int 1))) (xCons (xC (.bl true)) xNil)))) (xCons (xTup (xCons (xOp gAdd (xVar 0) (xC (.int 9))) (xCons (xOp gAdd (xVar 0) (xC (.int 10))) (xCons (xC (.bl true)) xNil)))) (xCons (xTup (xCons (xOp gAdd (xVar 0) (xC (.int 10))) (xCons (xOp gAdd (xVar 0) (xC (.int 11))) (xCons (xC (.bl false)) xNil)))) xNil)))) xNil))))
 (xSeq (xIfS (xOp gNe (xCallP TB f_show [] (xCons (xMakeP TB 6 f_Rule_init d_Rule_init_v1 (xCons (xC (.int 1)) (xCons (xC (.int 0)) (xCons (xC (.int 0)) (xCons (xC (.str [111, 110, 101])) xNil))))) (xCons (xVar 1) xNil))) (xTup (xCons (xTup (xCons (xVar 0) (xCons (xOp gAdd (xVar 0) (xC (.int 10))) (xCons (xC (.str [112, 114, 105, 118, 97, 116, 101])) xNil)))) (xCons (xTup (xCons (xOp gAdd (xVar 0) (xC (.int 10))) (xCons (xOp gAdd (xVar 0) (xC (.int 11))) (xCons (xC (.str [98, 117, 115, 121])) xNil)))) xNil))))
 (xRet (xC (.bl false)))
 xSkip)
 (xRet (xOp gEq (xCallP TB f_show [] (xCons (xMakeP TB 6 f_Rule_init [] (xCons (xC (.int 1)) (xCons (xC (.int 0)) (xCons (xC (.int 2)) (xCons (xC (.str [111, 110, 101])) (xCons (xTup (xCons (xOp gAdd (xVar 0) (xC (.int 9))) (xCons (xC (.int 48)) xNil))) xNil)))))) (xCons (xVar 1) xNil))) (xTup (xCons (xTup (xCons (xOp gAdd (xVar 0) (xC (.int 9))) (xCons (xOp gAdd (xVar 0) (xC (.int 10))) (xCons (xC (.str [112, 114, 105, 118, 97, 116, 101])) xNil)))) xNil))))))
def f_Lday_right : Fx := fnOf 1 3
 (xSeq (xSet 1 (xMakeP TB 5 f_Day_init [] (xCons (xC (.int 48)) (xCons (xLstF (xCons (xTup (xCons (xOp gAdd (xVar 0) (xC (.int 1))) (xCons (xOp gAdd (xVar 0) (xC (.int 2))) (xCons (xC (.bl false)) xNil)))) (xCons (xTup (xCons (xOp gAdd (xVar 0) (xC (.int 4))) (xCons (xOp gAdd (xVar 0) (xC (.int 6))) (xCons (xC (.bl true)) xNil)))) (xCons (xTup (xCons (xOp gAdd (xVar 0) (xC (.int 9))) (xCons (xOp gAdd (xVar 0) (xC (.int 10))) (xCons (xC (.bl false)) xNil)))) xNil)))) xNil))))
 (xSeq (xIfS (xOp gNe (xCallP TB f_show [] (xCons (xMakeP TB 6 f_Rule_init d_Rule_init_v3 (xCons (xC (.int 1)) (xCons (xC (.int 2)) xNil))) (xCons (xVar 1) xNil))) (xTup (xCons (xTup (xCons (xOp gAdd (xVar 0) (xC (.int 1))) (xCons (xOp gAdd (xVar 0) (xC (.int 6))) (xCons (xC (.str [98, 117, 115, 121])) xNil)))) (xCons (xTup (xCons (xOp gAdd (xVar 0) (xC (.int 9))) (xCons (xOp gAdd (xVar 0) (xC (.int 10))) (xCons (xC (.str [98, 117, 115, 121])) xNil)))) xNil))))
 (xRet (xC (.bl false)))
 xSkip)
 (xSeq (xIfS (xOp gNe (xCallP TB f_show [] (xCons (xMakeP TB 6 f_Rule_init d_Rule_init_v3 (xCons (xC (.int 1)) (xCons (xC (.int 3)) xNil))) (xCons (xVar 1) xNil))) (xTup (xCons (xTup (xCons (xOp gAdd (xVar 0) (xC (.int 1))) (xCons (xOp gAdd (xVar 0) (xC (.int 10))) (xCons (xC (.str [98, 117, 115, 121])) xNil)))) xNil)))
 (xRet (xC (.bl false)))
 xSkip)
 (xSeq (xIfS (xOp gNe (xCallP TB f_show [] (xCons (xMakeP TB 6 f_Rule_init d_Rule_init_v2 (xCons (xC (.int 1)) (xCons (xC (.int 0)) (xCons (xC (.int 2)) xNil)))) (xCons (xVar 1) xNil))) (xTup (xCons (xTup (xCons (xOp gAdd (xVar 0) (xC (.int 4))) (xCons (xOp gAdd (xVar 0) (xC (.int 6))) (xCons (xC (.str [98, 117, 115, 121])) xNil)))) xNil)))
 (xRet (xC (.bl false)))
 xSkip)
 (xSeq (xSet 2 (xTup (xCons (xTup (xCons (xVar 0) (xCons (xOp gAdd (xVar 0) (xC (.int 2))) (xCons (xC (.str [98, 117, 115, 121])) xNil)))) (xCons (xTup (xCons (xOp gAdd (xVar 0) (xC (.int 4))) (xCons (xOp gAdd (xVar 0) (xC (.int 6))) (xCons (xC (.str [112, 114, 105, 118, 97, 116, 101])) xNil)))) (xCons (xTup (xCons (xOp gAdd (xVar 0) (xC (.int 8))) (xCons (xOp gAdd (xVar 0) (xC (.int 10))) (xCons (xC (.str [98, 117, 115, 121])) xNil)))) xNil)))))
 (xSeq (xIfS (xOp gNe (xCallP TB f_show [] (xCons (xMakeP TB 6 f_Rule_init d_Rule_init_v1 (xCons (xC (.int 2)) (xCons (xC (.int 0)) (xCons (xC (.int 0)) (xCons (xC (.str [97, 112, 97, 114, 116])) xNil))))) (xCons (xVar 1) xNil))) (xVar 2))
 (xRet (xC (.bl false)))
 xSkip)
 (xSeq (xIfS (xOp gNe (xCallP TB f_show [] (xCons (xMakeP TB 6 f_Rule_init d_Rule_init_v1 (xCons (xC (.int 1)) (xCons (xC (.int 6)) (xCons (xC (.int 0)) (xCons (xC (.str [110, 111, 110, 101])) xNil))))) (xCons (xVar 1) xNil))) (xTup (xCons (xTup (xCons (xOp gAdd (xVar 0) (xC (.int 1))) (xCons (xOp gAdd (xVar 0) (xC (.int 2))) (xCons (xC (.str [98, 117, 115, 121])) xNil)))) (xCons (xTup (xCons (xOp gAdd (xVar 0) (xC (.int 9))) (xCons (xOp gAdd (xVar 0) (xC (.int 10))) (xCons (xC (.str [98, 117, 115, 121])) xNil)))) xNil))))
 (xRet (xC (.bl false)))
 xSkip)
 (xSeq (xIfS (xOp gNe (xCallP TB f_show [] (xCons (xMakeP TB 6 f_Rule_init d_Rule_init_v1 (xCons (xC (.int 1)) (xCons (xC (.int 7)) (xCons (xC (.int 0)) (xCons (xC (.str [110, 111, 110, 101])) xNil))))) (xCons (xVar 1) xNil))) (xTup (xCons (xTup (xCons (xOp gAdd (xVar 0) (xC (.int 1))) (xCons (xOp gAdd (xVar 0) (xC (.int 10))) (xCons (xC (.str [98, 117, 115, 121])) xNil)))) xNil)))
 (xRet (xC (.bl false)))
 xSkip)
 (xSeq (xIfS (xOp gNe (xCallP TB f_show [] (xCons (xMakeP TB 6 f_Rule_init d_Rule_init_v3 (xCons (xC (.int 6)) (xCons (xC (.int 6)) xNil))) (xCons (xVar 1) xNil))) (xTup (xCons (xTup (xCons (xVar 0) (xCons (xOp gAdd (xVar 0) (xC (.int 12))) (xCons (xC (.str [98, 117, 115, 121])) xNil)))) xNil)))
 (xRet (xC (.bl false)))
 xSkip)
 (xRet (xOp gEq (xCallP TB f_show [] (xCons (xMakeP TB 6 f_Rule_init [] (xCons (xC (.int 6)) (xCons (xC (.int 6)) (xCons (xC (.int 0)) (xCons (xC (.str [98, 117, 115, 121])) (xCons (xTup (xCons (xOp gAdd (xVar 0) (xC (.int 2))) (xCons (xOp gAdd (xVar 0) (xC (.int 3))) xNil))) xNil)))))) (xCons (xVar 1) xNil))) (xTup (xCons (xTup (xCons (xOp gAdd (xVar 0) (xC (.int 2))) (xCons (xOp gAdd (xVar 0) (xC (.int 3))) (xCons (xC (.str [98, 117, 115, 121])) xNil)))) xNil)))))))))))))
def f_law : Fx := fnOf 1 5
 (xSeq (xFor (xIRng1 (xCons (xCB gMax2 (xCons (xC (.int 2)) (xCons (xCB gMin2 (xCons (xC (.int 4)) (xCons (xCB gLen (xCons (xVar 0) xNil)) xNil))) xNil))) xNil)) (gN 1)
 (xSeq (xSet 2 (xCallO TB f_Lseed [] (xCons (xVar 0) (xCons (xVar 1) xNil))))
 (xSeq (xPar 3 4 (xCons (xOp gMul (xC (.int 12)) (xCallB TB f_Lchoose [] (xCons (xVar 2) (xCons (xC (.int 3)) xNil)))) (xCons (xCallB TB f_Lone_of [] (xCons (xVar 2) (xCons (xLstF (xCons (xC (.int 1)) (xCons (xC (.int 2)) (xCons (xC (.int 3)) (xCons (xC (.int 4)) (xCons (xC (.int 6)) xNil)))))) xNil))) xNil)))
 (xSeq (xIfS (xOr (xNot (xCallP TB f_Lday_right [] (xCons (xVar 3) xNil))) (xOr (xNot (xCallP TB f_Llone_right [] (xCons (xVar 3) xNil))) (xNot (xCallP TB f_Llast_right [] xNil))))
 (xRet (xC (.bl false)))
 xSkip)
 (xIfS (xOp gNe (xCallP TB f_show [] (xCons (xMakeP TB 6 f_Rule_init d_Rule_init_v4 (xCons (xVar 4) xNil)) (xCons (xMakeP TB 5 f_Day_init [] (xCons (xC (.int 48)) (xCons (xLstF (xCons (xTup (xCons (xVar 3) (xCons (xOp gAdd (xVar 3) (xC (.int 12))) (xCons (xC (.bl false)) xNil)))) xNil)) xNil))) xNil))) (xTup (xCons (xTup (xCons (xVar 3) (xCons (xOp gAdd (xVar 3) (xC (.int 12))) (xCons (xC (.str [98, 117, 115, 121])) xNil)))) xNil)))
 (xRet (xC (.bl false)))
 xSkip)))))
 (xRet (xC (.bl true))))
structure Tx (K : PySem.W.Frag) (mg : Str → Option Value) : Prop where
  n_abs : mg "abs" = none
  n_all : mg "all" = none
  n_bool : mg "bool" = none
  n_int : mg "int" = none
  n_isinstance : mg "isinstance" = none
  n_len : mg "len" = none
  n_list : mg "list" = none
  n_max : mg "max" = none
  n_min : mg "min" = none
  n_range : mg "range" = none
  n_sorted : mg "sorted" = none
  n_str : mg "str" = none
  n_tuple : mg "tuple" = none
  g_Lseed : mg "_law_seed" = some (.ref (He.ga K "_law_seed"))
  g_Lchoose : mg "_law_choose" = some (.ref (He.ga K "_law_choose"))
  g_Lone_of : mg "_law_one_of" = some (.ref (He.ga K "_law_one_of"))
  g_is_integer : mg "is_integer" = some (.ref (He.ga K "is_integer"))
  g_is_bool : mg "is_bool" = some (.ref (He.ga K "is_bool"))
  g_is_number : mg "is_number" = some (.ref (He.ga K "is_number"))
  g_is_meeting : mg "is_meeting" = some (.ref (He.ga K "is_meeting"))
  g_is_sequence : mg "is_sequence" = some (.ref (He.ga K "is_sequence"))
  g_are_meetings : mg "are_meetings" = some (.ref (He.ga K "are_meetings"))
  g_Day : mg "Day" = some (.ref (He.ga K "Day"))
  g_blocks_of : mg "blocks_of" = some (.ref (He.ga K "blocks_of"))
  g_show : mg "show" = some (.ref (He.ga K "show"))
  g_are_hours : mg "are_hours" = some (.ref (He.ga K "are_hours"))
  g_Rule : mg "Rule" = some (.ref (He.ga K "Rule"))
  g_Llast_right : mg "_law_last_right" = some (.ref (He.ga K "_law_last_right"))
  g_Llone_right : mg "_law_lone_right" = some (.ref (He.ga K "_law_lone_right"))
  g_Lday_right : mg "_law_day_right" = some (.ref (He.ga K "_law_day_right"))
  c_WORDS : GK TB K mg "WORDS" c_WORDS
  c_SORTS : GK TB K mg "SORTS" c_SORTS
  k_Day : Cf TB K 5
  k_Rule : Cf TB K 6
  m_Rule_word_of : Meth K (He.ga K "Rule") "word_of" (He.ma K (He.ga K "Rule") "word_of")
  m_Rule_down : Meth K (He.ga K "Rule") "down" (He.ma K (He.ga K "Rule") "down")
  m_Rule_up : Meth K (He.ga K "Rule") "up" (He.ma K (He.ga K "Rule") "up")
  m_Rule_joins : Meth K (He.ga K "Rule") "joins" (He.ma K (He.ga K "Rule") "joins")
  m_Rule_shown : Meth K (He.ga K "Rule") "shown" (He.ma K (He.ga K "Rule") "shown")
  mk_Day : Mk K (He.ga K "Day") (He.ma K (He.ga K "Day") "__init__")
  mk_Rule : Mk K (He.ga K "Rule") (He.ma K (He.ga K "Rule") "__init__")
  d_Lseed : ∃ fd, FunD K "_law_seed" "_law_seed" (defArgs s_Lseed) (defBody s_Lseed) (defScope s_Lseed) [] [] (He.ga K "_law_seed") fd
  d_Lchoose : ∃ fd, FunD K "_law_choose" "_law_choose" (defArgs s_Lchoose) (defBody s_Lchoose) (defScope s_Lchoose) [] [] (He.ga K "_law_choose") fd
  d_Lone_of : ∃ fd, FunD K "_law_one_of" "_law_one_of" (defArgs s_Lone_of) (defBody s_Lone_of) (defScope s_Lone_of) [] [] (He.ga K "_law_one_of") fd
  d_is_integer : ∃ fd, FunD K "is_integer" "is_integer" (defArgs s_is_integer) (defBody s_is_integer) (defScope s_is_integer) [] [] (He.ga K "is_integer") fd
  d_is_bool : ∃ fd, FunD K "is_bool" "is_bool" (defArgs s_is_bool) (defBody s_is_bool) (defScope s_is_bool) [] [] (He.ga K "is_bool") fd
  d_is_number : ∃ fd, FunD K "is_number" "is_number" (defArgs s_is_number) (defBody s_is_number) (defScope s_is_number) [] [] (He.ga K "is_number") fd
  d_is_meeting : ∃ fd, FunD K "is_meeting" "is_meeting" (defArgs s_is_meeting) (defBody s_is_meeting) (defScope s_is_meeting) [] [] (He.ga K "is_meeting") fd
  d_is_sequence : ∃ fd, FunD K "is_sequence" "is_sequence" (defArgs s_is_sequence) (defBody s_is_sequence) (defScope s_is_sequence) [] [] (He.ga K "is_sequence") fd
  d_are_meetings : ∃ fd, FunD K "are_meetings" "are_meetings" (defArgs s_are_meetings) (defBody s_are_meetings) (defScope s_are_meetings) [] [] (He.ga K "are_meetings") fd
  d_Day_init : ∃ fd, FunD K "__init__" "Day.__init__" (defArgs s_Day_init) (defBody s_Day_init) (defScope s_Day_init) [He.Dv.v K (.adr (He.dflAt ("Day", some "__init__") 0))] [] (He.ma K (He.ga K "Day") "__init__") fd
  d_Rule_word_of : ∃ fd, FunD K "word_of" "Rule.word_of" (defArgs s_Rule_word_of) (defBody s_Rule_word_of) (defScope s_Rule_word_of) [] [] (He.ma K (He.ga K "Rule") "word_of") fd
  d_Rule_down : ∃ fd, FunD K "down" "Rule.down" (defArgs s_Rule_down) (defBody s_Rule_down) (defScope s_Rule_down) [] [] (He.ma K (He.ga K "Rule") "down") fd
  d_Rule_up : ∃ fd, FunD K "up" "Rule.up" (defArgs s_Rule_up) (defBody s_Rule_up) (defScope s_Rule_up) [] [] (He.ma K (He.ga K "Rule") "up") fd
  d_Rule_joins : ∃ fd, FunD K "joins" "Rule.joins" (defArgs s_Rule_joins) (defBody s_Rule_joins) (defScope s_Rule_joins) [] [] (He.ma K (He.ga K "Rule") "joins") fd
  d_blocks_of : ∃ fd, FunD K "blocks_of" "blocks_of" (defArgs s_blocks_of) (defBody s_blocks_of) (defScope s_blocks_of) [] [] (He.ga K "blocks_of") fd
  d_Rule_shown : ∃ fd, FunD K "shown" "Rule.shown" (defArgs s_Rule_shown) (defBody s_Rule_shown) (defScope s_Rule_shown) [] [] (He.ma K (He.ga K "Rule") "shown") fd
  d_show : ∃ fd, FunD K "show" "show" (defArgs s_show) (defBody s_show) (defScope s_show) [] [] (He.ga K "show") fd
  d_are_hours : ∃ fd, FunD K "are_hours" "are_hours" (defArgs s_are_hours) (defBody s_are_hours) (defScope s_are_hours) [] [] (He.ga K "are_hours") fd
  d_Rule_init : ∃ fd, FunD K "__init__" "Rule.__init__" (defArgs s_Rule_init) (defBody s_Rule_init) (defScope s_Rule_init) [He.Dv.v K (.int 1), He.Dv.v K (.int 0), He.Dv.v K (.int 0), He.Dv.v K (.str "busy"), He.Dv.v K (.non)] [] (He.ma K (He.ga K "Rule") "__init__") fd
  d_Llast_right : ∃ fd, FunD K "_law_last_right" "_law_last_right" (defArgs s_Llast_right) (defBody s_Llast_right) (defScope s_Llast_right) [] [] (He.ga K "_law_last_right") fd
  d_Llone_right : ∃ fd, FunD K "_law_lone_right" "_law_lone_right" (defArgs s_Llone_right) (defBody s_Llone_right) (defScope s_Llone_right) [] [] (He.ga K "_law_lone_right") fd
  d_Lday_right : ∃ fd, FunD K "_law_day_right" "_law_day_right" (defArgs s_Lday_right) (defBody s_Lday_right) (defScope s_Lday_right) [] [] (He.ga K "_law_day_right") fd
  d_law : ∃ fd, FunD K "law" "law" (defArgs s_law) (defBody s_law) (defScope s_law) [] [] (He.ga K "law") fd
section
variable {P : Program} {w : World} {K : PySem.W.Frag} {mg : Str → Option Value} {base : Heap}
theorem fo_Lseed (X : Tx K mg) {fd : FuncData} (FD : FunD K "_law_seed" "_law_seed" (defArgs s_Lseed) (defBody s_Lseed) (defScope s_Lseed) [] [] (He.ga K "_law_seed") fd) : FnOk P w K mg base (CX P w) 1 (He.ga K "_law_seed") fd ["_law_script", "_law_k"] (spF TB K f_Lseed) := by
  refine fn_ok FD sc_Lseed (fun cdv A outer s H E hr => ?_)
  have tk := takes_of (X := cxOf (CX P w) P w K mg base ["_law_script", "_law_k", "_law_cell"] "_law_seed" (defScope s_Lseed) (He.ga K "_law_seed") cdv A outer s H E) rfl rfl rfl rfl
  have hp := passes_of (X := cxOf (CX P w) P w K mg base ["_law_script", "_law_k", "_law_cell"] "_law_seed" (defScope s_Lseed) (He.ga K "_law_seed") cdv A outer s H E) rfl
  exact (jss_cons (js_set 2 sc_Lseed.nd (je_op op_add lift_add (je_op op_mul lift_mul je_int (je_var 1)) je_int))
 (jss_cons (js_if (jt_cmp op_lt' lift_lt (je_var 1) (je_callB call_len lift_len X.n_len (ja_cons (je_var 0) ja_nil)))
 (jss_one (js_set 2 sc_Lseed.nd (je_callB call_abs lift_abs X.n_abs (ja_cons (je_ix (je_var 0) (je_var 1)) ja_nil))))
 (jss_one (js_if (jt_cmp op_gt' lift_gt (je_callB call_len lift_len X.n_len (ja_cons (je_var 0) ja_nil)) je_int)
 (jss_one (js_set 2 sc_Lseed.nd (je_op op_add lift_add (je_var 2) (je_op op_mul lift_mul (je_op op_mod lift_mod (je_callTy call_int1 lift_int1 X.n_int (ja_cons (je_callB call_abs lift_abs X.n_abs (ja_cons (je_ix (je_var 0) (je_op op_mod lift_mod (je_callTy call_int1 lift_int1 X.n_int (ja_cons (je_var 1) ja_nil)) (je_callB call_len lift_len X.n_len (ja_cons (je_var 0) ja_nil)))) ja_nil)) ja_nil)) je_int) je_int))))
 jss_nil)))
 (jss_one (js_ret (je_lst (ja_cons (je_if (jt_cmp op_ge' lift_ge (je_var 2) (je_op op_pow lift_pow je_int je_int)) (je_var 2) je_int) (ja_cons (je_op op_add lift_add (je_op op_mod lift_mod (je_callTy call_int1 lift_int1 X.n_int (ja_cons (je_op op_add lift_add (je_op op_mul lift_mul (je_op op_mod lift_mod (je_callTy call_int1 lift_int1 X.n_int (ja_cons (je_var 2) ja_nil)) je_int) je_int) (je_op op_mul lift_mul je_int (je_var 1))) ja_nil)) je_int) je_int) ja_nil)))))))
theorem ok_Lseed (X : Tx K mg) : Callee TB P w K mg base 1 (He.ga K "_law_seed") ["_law_script", "_law_k"] f_Lseed [] := by
  obtain ⟨fd, FD⟩ := X.d_Lseed
  exact ⟨fd, [], fo_Lseed X FD, FD.kp, .nil, FD.bindsN fun _ _ _ _ _ _ us hl => match us, hl with | [_, _], _ => rfl⟩
theorem fo_Lchoose (X : Tx K mg) {fd : FuncData} (FD : FunD K "_law_choose" "_law_choose" (defArgs s_Lchoose) (defBody s_Lchoose) (defScope s_Lchoose) [] [] (He.ga K "_law_choose") fd) : FnOk P w K mg base (CX P w) 1 (He.ga K "_law_choose") fd ["_law_box", "_law_many"] (spF TB K f_Lchoose) := by
  refine fn_ok FD sc_Lchoose (fun cdv A outer s H E hr => ?_)
  have tk := takes_of (X := cxOf (CX P w) P w K mg base ["_law_box", "_law_many", "_law_digit", "_law_raw"] "_law_choose" (defScope s_Lchoose) (He.ga K "_law_choose") cdv A outer s H E) rfl rfl rfl rfl
  have hp := passes_of (X := cxOf (CX P w) P w K mg base ["_law_box", "_law_many", "_law_digit", "_law_raw"] "_law_choose" (defScope s_Lchoose) (He.ga K "_law_choose") cdv A outer s H E) rfl
  exact (jss_cons (js_if (jt_cmp op_gt' lift_gt (je_ix (je_var 0) je_int) je_int)
 (jss_cons (js_set 2 sc_Lchoose.nd (je_op op_mod lift_mod (je_callTy call_int1 lift_int1 X.n_int (ja_cons (je_ix (je_var 0) je_int) ja_nil)) (je_var 1)))
 (jss_cons (js_asg (je_op op_fdiv lift_fdiv (je_ix (je_var 0) je_int) (je_var 1)) (jg_ix (je_var 0) je_int))
 (jss_one (js_ret (je_var 2)))))
 jss_nil)
 (jss_cons (js_set 3 sc_Lchoose.nd (je_op op_mod lift_mod (je_callTy call_int1 lift_int1 X.n_int (ja_cons (je_op op_add lift_add (je_op op_mul lift_mul (je_ix (je_var 0) je_int) je_int) je_int) ja_nil)) je_int))
 (jss_cons (js_asg (je_op op_add lift_add (je_op op_mod lift_mod (je_callTy call_int1 lift_int1 X.n_int (ja_cons (je_op op_add lift_add (je_op op_mul lift_mul (je_var 3) je_int) je_int) ja_nil)) je_int) je_int) (jg_ix (je_var 0) je_int))
 (jss_one (js_ret (je_op op_mod lift_mod (je_callTy call_int1 lift_int1 X.n_int (ja_cons (je_op op_fdiv lift_fdiv (je_op op_add lift_add (je_op op_mul lift_mul (je_var 3) je_int) (je_ix (je_var 0) je_int)) je_int) ja_nil)) (je_var 1)))))))
theorem ok_Lchoose (X : Tx K mg) : Callee TB P w K mg base 1 (He.ga K "_law_choose") ["_law_box", "_law_many"] f_Lchoose [] := by
  obtain ⟨fd, FD⟩ := X.d_Lchoose
  exact ⟨fd, [], fo_Lchoose X FD, FD.kp, .nil, FD.bindsN fun _ _ _ _ _ _ us hl => match us, hl with | [_, _], _ => rfl⟩
theorem fo_Lone_of (X : Tx K mg) {fd : FuncData} (FD : FunD K "_law_one_of" "_law_one_of" (defArgs s_Lone_of) (defBody s_Lone_of) (defScope s_Lone_of) [] [] (He.ga K "_law_one_of") fd) : FnOk P w K mg base (CX P w) 2 (He.ga K "_law_one_of") fd ["_law_box", "_law_some"] (spF TB K f_Lone_of) := by
  refine fn_ok FD sc_Lone_of (fun cdv A outer s H E hr => ?_)
  have tk := takes_of (X := cxOf (CX P w) P w K mg base ["_law_box", "_law_some"] "_law_one_of" (defScope s_Lone_of) (He.ga K "_law_one_of") cdv A outer s H E) rfl rfl rfl rfl
  have hp := passes_of (X := cxOf (CX P w) P w K mg base ["_law_box", "_law_some"] "_law_one_of" (defScope s_Lone_of) (He.ga K "_law_one_of") cdv A outer s H E) rfl
  exact (jss_one (js_ret (je_ix (je_var 1) (jc_B (ok_Lchoose X) (hr.mono (by decide)) X.g_Lchoose Dfl.nil tk (ja_cons (je_var 0) (ja_cons (je_callB call_len lift_len X.n_len (ja_cons (je_var 1) ja_nil)) ja_nil))))))
theorem ok_Lone_of (X : Tx K mg) : Callee TB P w K mg base 2 (He.ga K "_law_one_of") ["_law_box", "_law_some"] f_Lone_of [] := by
  obtain ⟨fd, FD⟩ := X.d_Lone_of
  exact ⟨fd, [], fo_Lone_of X FD, FD.kp, .nil, FD.bindsN fun _ _ _ _ _ _ us hl => match us, hl with | [_, _], _ => rfl⟩
theorem fo_is_integer (X : Tx K mg) {fd : FuncData} (FD : FunD K "is_integer" "is_integer" (defArgs s_is_integer) (defBody s_is_integer) (defScope s_is_integer) [] [] (He.ga K "is_integer") fd) : FnOk P w K mg base (CX P w) 1 (He.ga K "is_integer") fd ["value"] (spF TB K f_is_integer) := by
  refine fn_ok FD sc_is_integer (fun cdv A outer s H E hr => ?_)
  have tk := takes_of (X := cxOf (CX P w) P w K mg base ["value"] "is_integer" (defScope s_is_integer) (He.ga K "is_integer") cdv A outer s H E) rfl rfl rfl rfl
  have hp := passes_of (X := cxOf (CX P w) P w K mg base ["value"] "is_integer" (defScope s_is_integer) (He.ga K "is_integer") cdv A outer s H E) rfl
  exact (jss_one (js_ret (je_and (je_isi .int (je_var 0) X.n_isinstance X.n_int) (je_one (je_not (je_isi .bool (je_var 0) X.n_isinstance X.n_bool))))))
theorem ok_is_integer (X : Tx K mg) : Callee TB P w K mg base 1 (He.ga K "is_integer") ["value"] f_is_integer [] := by
  obtain ⟨fd, FD⟩ := X.d_is_integer
  exact ⟨fd, [], fo_is_integer X FD, FD.kp, .nil, FD.bindsN fun _ _ _ _ _ _ us hl => match us, hl with | [_], _ => rfl⟩
theorem fo_is_bool (X : Tx K mg) {fd : FuncData} (FD : FunD K "is_bool" "is_bool" (defArgs s_is_bool) (defBody s_is_bool) (defScope s_is_bool) [] [] (He.ga K "is_bool") fd) : FnOk P w K mg base (CX P w) 1 (He.ga K "is_bool") fd ["value"] (spF TB K f_is_bool) := by
  refine fn_ok FD sc_is_bool (fun cdv A outer s H E hr => ?_)
  have tk := takes_of (X := cxOf (CX P w) P w K mg base ["value"] "is_bool" (defScope s_is_bool) (He.ga K "is_bool") cdv A outer s H E) rfl rfl rfl rfl
  have hp := passes_of (X := cxOf (CX P w) P w K mg base ["value"] "is_bool" (defScope s_is_bool) (He.ga K "is_bool") cdv A outer s H E) rfl
  exact (jss_one (js_ret (je_isi .bool (je_var 0) X.n_isinstance X.n_bool)))
theorem ok_is_bool (X : Tx K mg) : Callee TB P w K mg base 1 (He.ga K "is_bool") ["value"] f_is_bool [] := by
  obtain ⟨fd, FD⟩ := X.d_is_bool
  exact ⟨fd, [], fo_is_bool X FD, FD.kp, .nil, FD.bindsN fun _ _ _ _ _ _ us hl => match us, hl with | [_], _ => rfl⟩
theorem fo_is_number (X : Tx K mg) {fd : FuncData} (FD : FunD K "is_number" "is_number" (defArgs s_is_number) (defBody s_is_number) (defScope s_is_number) [] [] (He.ga K "is_number") fd) : FnOk P w K mg base (CX P w) 2 (He.ga K "is_number") fd ["value"] (spF TB K f_is_number) := by
  refine fn_ok FD sc_is_number (fun cdv A outer s H E hr => ?_)
  have tk := takes_of (X := cxOf (CX P w) P w K mg base ["value"] "is_number" (defScope s_is_number) (He.ga K "is_number") cdv A outer s H E) rfl rfl rfl rfl
  have hp := passes_of (X := cxOf (CX P w) P w K mg base ["value"] "is_number" (defScope s_is_number) (He.ga K "is_number") cdv A outer s H E) rfl
  exact (jss_one (js_ret (je_and (jc_P (ok_is_integer X) (hr.mono (by decide)) X.g_is_integer Dfl.nil tk (ja_cons (je_var 0) ja_nil)) (je_one (je_cmp op_ge' lift_ge (je_var 0) je_int)))))
theorem ok_is_number (X : Tx K mg) : Callee TB P w K mg base 2 (He.ga K "is_number") ["value"] f_is_number [] := by
  obtain ⟨fd, FD⟩ := X.d_is_number
  exact ⟨fd, [], fo_is_number X FD, FD.kp, .nil, FD.bindsN fun _ _ _ _ _ _ us hl => match us, hl with | [_], _ => rfl⟩
theorem fo_is_meeting (X : Tx K mg) {fd : FuncData} (FD : FunD K "is_meeting" "is_meeting" (defArgs s_is_meeting) (defBody s_is_meeting) (defScope s_is_meeting) [] [] (He.ga K "is_meeting") fd) : FnOk P w K mg base (CX P w) 3 (He.ga K "is_meeting") fd ["value"] (spF TB K f_is_meeting) := by
  refine fn_ok FD sc_is_meeting (fun cdv A outer s H E hr => ?_)
  have tk := takes_of (X := cxOf (CX P w) P w K mg base ["value", "begin", "end", "is_private"] "is_meeting" (defScope s_is_meeting) (He.ga K "is_meeting") cdv A outer s H E) rfl rfl rfl rfl
  have hp := passes_of (X := cxOf (CX P w) P w K mg base ["value", "begin", "end", "is_private"] "is_meeting" (defScope s_is_meeting) (He.ga K "is_meeting") cdv A outer s H E) rfl
  exact (jss_cons (js_if (jt_w (jw_or (jt_not (jt_val (je_isi .tuple (je_var 0) X.n_isinstance X.n_tuple))) (jw_one (jt_cmp (op_neD hr.units) lift_neD (je_callB call_len lift_len X.n_len (ja_cons (je_var 0) ja_nil)) je_int))))
 (jss_one (js_ret je_bl))
 jss_nil)
 (jss_cons (js_asg (je_var 0) (jg_tup rfl (jgs_cons (jg_name 1 sc_is_meeting.nd) (jgs_cons (jg_name 2 sc_is_meeting.nd) (jgs_cons (jg_name 3 sc_is_meeting.nd) jgs_nil)))))
 (jss_one (js_ret (je_and (jc_P (ok_is_number X) (hr.mono (by decide)) X.g_is_number Dfl.nil tk (ja_cons (je_var 1) ja_nil)) (je_and (jc_P (ok_is_number X) (hr.mono (by decide)) X.g_is_number Dfl.nil tk (ja_cons (je_var 2) ja_nil)) (je_and (jc_P (ok_is_bool X) (hr.mono (by decide)) X.g_is_bool Dfl.nil tk (ja_cons (je_var 3) ja_nil)) (je_one (je_cmp op_lt' lift_lt (je_var 1) (je_var 2))))))))))
theorem ok_is_meeting (X : Tx K mg) : Callee TB P w K mg base 3 (He.ga K "is_meeting") ["value"] f_is_meeting [] := by
  obtain ⟨fd, FD⟩ := X.d_is_meeting
  exact ⟨fd, [], fo_is_meeting X FD, FD.kp, .nil, FD.bindsN fun _ _ _ _ _ _ us hl => match us, hl with | [_], _ => rfl⟩
theorem fo_is_sequence (X : Tx K mg) {fd : FuncData} (FD : FunD K "is_sequence" "is_sequence" (defArgs s_is_sequence) (defBody s_is_sequence) (defScope s_is_sequence) [] [] (He.ga K "is_sequence") fd) : FnOk P w K mg base (CX P w) 1 (He.ga K "is_sequence") fd ["value"] (spF TB K f_is_sequence) := by
  refine fn_ok FD sc_is_sequence (fun cdv A outer s H E hr => ?_)
  have tk := takes_of (X := cxOf (CX P w) P w K mg base ["value"] "is_sequence" (defScope s_is_sequence) (He.ga K "is_sequence") cdv A outer s H E) rfl rfl rfl rfl
  have hp := passes_of (X := cxOf (CX P w) P w K mg base ["value"] "is_sequence" (defScope s_is_sequence) (He.ga K "is_sequence") cdv A outer s H E) rfl
  exact (jss_one (js_ret (je_isi2 .list .tuple (je_var 0) X.n_isinstance X.n_list X.n_tuple)))
theorem ok_is_sequence (X : Tx K mg) : Callee TB P w K mg base 1 (He.ga K "is_sequence") ["value"] f_is_sequence [] := by
  obtain ⟨fd, FD⟩ := X.d_is_sequence
  exact ⟨fd, [], fo_is_sequence X FD, FD.kp, .nil, FD.bindsN fun _ _ _ _ _ _ us hl => match us, hl with | [_], _ => rfl⟩
theorem fo_are_meetings (X : Tx K mg) {fd : FuncData} (FD : FunD K "are_meetings" "are_meetings" (defArgs s_are_meetings) (defBody s_are_meetings) (defScope s_are_meetings) [] [] (He.ga K "are_meetings") fd) : FnOk P w K mg base (CX P w) 4 (He.ga K "are_meetings") fd ["length", "value"] (spF TB K f_are_meetings) := by
  refine fn_ok FD sc_are_meetings (fun cdv A outer s H E hr => ?_)
  have tk := takes_of (X := cxOf (CX P w) P w K mg base ["length", "value", "last", "begin", "end", "is_private", "meeting"] "are_meetings" (defScope s_are_meetings) (He.ga K "are_meetings") cdv A outer s H E) rfl rfl rfl rfl
  have hp := passes_of (X := cxOf (CX P w) P w K mg base ["length", "value", "last", "begin", "end", "is_private", "meeting"] "are_meetings" (defScope s_are_meetings) (He.ga K "are_meetings") cdv A outer s H E) rfl
  exact (jss_cons (js_if (jt_w (jw_or (jt_not (jt_val (jc_P (ok_is_sequence X) (hr.mono (by decide)) X.g_is_sequence Dfl.nil tk (ja_cons (je_var 1) ja_nil)))) (jw_one (jt_not (jt_val (je_callB (cr_all rfl) lift_all X.n_all (ja_cons (je_lcF [("meeting", 6)] rfl sc_are_meetings.nd (ji_seq (je_var 1)) (blkOk_by (N := ["length", "value", "last", "begin", "end", "is_private", "meeting"]) (sc := defScope s_are_meetings) (by decide +kernel)) (by decide) (fun _ _ _ _ _ => (jgw_name 6 sc_are_meetings.nd)) (fun _ _ _ _ _ => jts_nil) (fun _ _ _ _ _ => (jc_P (ok_is_meeting X) (hr.mono (by decide)) X.g_is_meeting Dfl.nil takesNo (ja_cons (je_var 6) ja_nil)))) ja_nil)))))))
 (jss_one (js_ret je_bl))
 jss_nil)
 (jss_cons (js_set 2 sc_are_meetings.nd je_int)
 (jss_cons (js_for hp rfl (ji_seq (je_var 1)) (jg_tup rfl (jgs_cons (jg_name 3 sc_are_meetings.nd) (jgs_cons (jg_name 4 sc_are_meetings.nd) (jgs_cons (jg_name 5 sc_are_meetings.nd) jgs_nil))))
 (jss_cons (js_if (jt_w (jw_or (jt_cmp op_lt' lift_lt (je_var 3) (je_var 2)) (jw_one (jt_cmp op_gt' lift_gt (je_var 4) (je_var 0)))))
 (jss_one (js_ret je_bl))
 jss_nil)
 (jss_one (js_set 2 sc_are_meetings.nd (je_var 4)))))
 (jss_one (js_ret je_bl)))))
theorem ok_are_meetings (X : Tx K mg) : Callee TB P w K mg base 4 (He.ga K "are_meetings") ["length", "value"] f_are_meetings [] := by
  obtain ⟨fd, FD⟩ := X.d_are_meetings
  exact ⟨fd, [], fo_are_meetings X FD, FD.kp, .nil, FD.bindsN fun _ _ _ _ _ _ us hl => match us, hl with | [_, _], _ => rfl⟩
theorem fo_Day_init (X : Tx K mg) {fd : FuncData} (FD : FunD K "__init__" "Day.__init__" (defArgs s_Day_init) (defBody s_Day_init) (defScope s_Day_init) [He.Dv.v K (.adr (He.dflAt ("Day", some "__init__") 0))] [] (He.ma K (He.ga K "Day") "__init__") fd) : FnOk P w K mg base (CX P w) 5 (He.ma K (He.ga K "Day") "__init__") fd ["self", "length", "meetings"] (spF TB K f_Day_init) := by
  refine fn_ok FD sc_Day_init (fun cdv A outer s H E hr => ?_)
  have tk := takes_of (X := cxOf (CX P w) P w K mg base ["self", "length", "meetings"] "Day.__init__" (defScope s_Day_init) (He.ma K (He.ga K "Day") "__init__") cdv A outer s H E) rfl rfl rfl rfl
  have hp := passes_of (X := cxOf (CX P w) P w K mg base ["self", "length", "meetings"] "Day.__init__" (defScope s_Day_init) (He.ma K (He.ga K "Day") "__init__") cdv A outer s H E) rfl
  exact (jss_cons (js_if (jt_w (jw_or (jt_not (jt_val (jc_P (ok_is_integer X) (hr.mono (by decide)) X.g_is_integer Dfl.nil tk (ja_cons (je_var 1) ja_nil)))) (jw_one (jt_cmp op_lt' lift_lt (je_var 1) je_int))))
 (jss_one js_never)
 jss_nil)
 (jss_cons (js_if (jt_not (jt_val (jc_P (ok_are_meetings X) (hr.mono (by decide)) X.g_are_meetings Dfl.nil tk (ja_cons (je_var 1) (ja_cons (je_var 2) ja_nil)))))
 (jss_one js_never)
 jss_nil)
 (jss_cons (js_setattr (AttOk.cons rfl X.k_Day AttOk.nil) (je_var 1) (je_var 0))
 (jss_one (js_setattr (AttOk.cons rfl X.k_Day AttOk.nil) (je_callTy call_tuple_of lift_tuple X.n_tuple (ja_cons (je_var 2) ja_nil)) (je_var 0))))))
theorem ok_Day_init (X : Tx K mg) : Callee TB P w K mg base 5 (He.ma K (He.ga K "Day") "__init__") ["self", "length", "meetings"] f_Day_init [] := by
  obtain ⟨fd, FD⟩ := X.d_Day_init
  obtain ⟨ds, hv, hb⟩ := FD.binds1 (ps := ["self", "length", "meetings"]) 3 1 (by simp) rfl (fun _ _ _ _ _ _ _ us its h1 h2 => match us, its, h1, h2 with | [_, _, _], [_], _, _ => ⟨_, rfl, rfl⟩)
  exact ⟨fd, ds, fo_Day_init X FD, FD.kp, hv, hb⟩
theorem nr_Day_init : ∀ as h v h', f_Day_init h as = .ok v h' → v = .non := fnOf_non (nr_seq (nr_if nr_bad nr_skip) (nr_seq (nr_if nr_bad nr_skip) (nr_seq nr_att nr_att)))
theorem nf_Rule_word_of : ("word_of" : Str) ∉ TB.fn 6 := by decide +kernel
theorem fo_Rule_word_of (X : Tx K mg) {fd : FuncData} (FD : FunD K "word_of" "Rule.word_of" (defArgs s_Rule_word_of) (defBody s_Rule_word_of) (defScope s_Rule_word_of) [] [] (He.ma K (He.ga K "Rule") "word_of") fd) : FnOk P w K mg base (CX P w) 1 (He.ma K (He.ga K "Rule") "word_of") fd ["self", "is_private"] (spF TB K f_Rule_word_of) := by
  refine fn_ok FD sc_Rule_word_of (fun cdv A outer s H E hr => ?_)
  have tk := takes_of (X := cxOf (CX P w) P w K mg base ["self", "is_private"] "Rule.word_of" (defScope s_Rule_word_of) (He.ma K (He.ga K "Rule") "word_of") cdv A outer s H E) rfl rfl rfl rfl
  have hp := passes_of (X := cxOf (CX P w) P w K mg base ["self", "is_private"] "Rule.word_of" (defScope s_Rule_word_of) (He.ma K (He.ga K "Rule") "word_of") cdv A outer s H E) rfl
  exact (jss_cons (js_if (jt_w (jw_or (jt_not (jt_val (je_var 1))) (jw_one (jt_cmp (op_eqD hr.units) lift_eqD (je_attr (je_var 0) (AttOk.cons rfl X.k_Rule AttOk.nil)) (je_str [98, 117, 115, 121])))))
 (jss_one (js_ret (je_ix (je_gk X.c_WORDS) je_int)))
 jss_nil)
 (jss_one (js_ret (je_if (jt_cmp (op_eqD hr.units) lift_eqD (je_attr (je_var 0) (AttOk.cons rfl X.k_Rule AttOk.nil)) (je_str [110, 111, 110, 101])) je_non (je_ix (je_gk X.c_WORDS) je_int)))))
theorem ok_Rule_word_of (X : Tx K mg) : Callee TB P w K mg base 1 (He.ma K (He.ga K "Rule") "word_of") ["self", "is_private"] f_Rule_word_of [] := by
  obtain ⟨fd, FD⟩ := X.d_Rule_word_of
  exact ⟨fd, [], fo_Rule_word_of X FD, FD.kp, .nil, FD.bindsN fun _ _ _ _ _ _ us hl => match us, hl with | [_, _], _ => rfl⟩
theorem nf_Rule_down : ("down" : Str) ∉ TB.fn 6 := by decide +kernel
theorem fo_Rule_down (X : Tx K mg) {fd : FuncData} (FD : FunD K "down" "Rule.down" (defArgs s_Rule_down) (defBody s_Rule_down) (defScope s_Rule_down) [] [] (He.ma K (He.ga K "Rule") "down") fd) : FnOk P w K mg base (CX P w) 1 (He.ma K (He.ga K "Rule") "down") fd ["self", "tick"] (spF TB K f_Rule_down) := by
  refine fn_ok FD sc_Rule_down (fun cdv A outer s H E hr => ?_)
  have tk := takes_of (X := cxOf (CX P w) P w K mg base ["self", "tick"] "Rule.down" (defScope s_Rule_down) (He.ma K (He.ga K "Rule") "down") cdv A outer s H E) rfl rfl rfl rfl
  have hp := passes_of (X := cxOf (CX P w) P w K mg base ["self", "tick"] "Rule.down" (defScope s_Rule_down) (He.ma K (He.ga K "Rule") "down") cdv A outer s H E) rfl
  exact (jss_one (js_ret (je_op op_mul lift_mul (je_op op_fdiv lift_fdiv (je_var 1) (je_attr (je_var 0) (AttOk.cons rfl X.k_Rule AttOk.nil))) (je_attr (je_var 0) (AttOk.cons rfl X.k_Rule AttOk.nil)))))
theorem ok_Rule_down (X : Tx K mg) : Callee TB P w K mg base 1 (He.ma K (He.ga K "Rule") "down") ["self", "tick"] f_Rule_down [] := by
  obtain ⟨fd, FD⟩ := X.d_Rule_down
  exact ⟨fd, [], fo_Rule_down X FD, FD.kp, .nil, FD.bindsN fun _ _ _ _ _ _ us hl => match us, hl with | [_, _], _ => rfl⟩
theorem nf_Rule_up : ("up" : Str) ∉ TB.fn 6 := by decide +kernel
theorem fo_Rule_up (X : Tx K mg) {fd : FuncData} (FD : FunD K "up" "Rule.up" (defArgs s_Rule_up) (defBody s_Rule_up) (defScope s_Rule_up) [] [] (He.ma K (He.ga K "Rule") "up") fd) : FnOk P w K mg base (CX P w) 1 (He.ma K (He.ga K "Rule") "up") fd ["self", "tick"] (spF TB K f_Rule_up) := by
  refine fn_ok FD sc_Rule_up (fun cdv A outer s H E hr => ?_)
  have tk := takes_of (X := cxOf (CX P w) P w K mg base ["self", "tick"] "Rule.up" (defScope s_Rule_up) (He.ma K (He.ga K "Rule") "up") cdv A outer s H E) rfl rfl rfl rfl
  have hp := passes_of (X := cxOf (CX P w) P w K mg base ["self", "tick"] "Rule.up" (defScope s_Rule_up) (He.ma K (He.ga K "Rule") "up") cdv A outer s H E) rfl
  exact (jss_one (js_ret (je_op op_mul lift_mul (je_op op_fdiv lift_fdiv (je_op op_sub lift_sub (je_op op_add lift_add (je_var 1) (je_attr (je_var 0) (AttOk.cons rfl X.k_Rule AttOk.nil))) je_int) (je_attr (je_var 0) (AttOk.cons rfl X.k_Rule AttOk.nil))) (je_attr (je_var 0) (AttOk.cons rfl X.k_Rule AttOk.nil)))))
theorem ok_Rule_up (X : Tx K mg) : Callee TB P w K mg base 1 (He.ma K (He.ga K "Rule") "up") ["self", "tick"] f_Rule_up [] := by
  obtain ⟨fd, FD⟩ := X.d_Rule_up
  exact ⟨fd, [], fo_Rule_up X FD, FD.kp, .nil, FD.bindsN fun _ _ _ _ _ _ us hl => match us, hl with | [_, _], _ => rfl⟩
theorem nf_Rule_joins : ("joins" : Str) ∉ TB.fn 6 := by decide +kernel
theorem fo_Rule_joins (X : Tx K mg) {fd : FuncData} (FD : FunD K "joins" "Rule.joins" (defArgs s_Rule_joins) (defBody s_Rule_joins) (defScope s_Rule_joins) [] [] (He.ma K (He.ga K "Rule") "joins") fd) : FnOk P w K mg base (CX P w) 1 (He.ma K (He.ga K "Rule") "joins") fd ["self", "word", "end", "low"] (spF TB K f_Rule_joins) := by
  refine fn_ok FD sc_Rule_joins (fun cdv A outer s H E hr => ?_)
  have tk := takes_of (X := cxOf (CX P w) P w K mg base ["self", "word", "end", "low"] "Rule.joins" (defScope s_Rule_joins) (He.ma K (He.ga K "Rule") "joins") cdv A outer s H E) rfl rfl rfl rfl
  have hp := passes_of (X := cxOf (CX P w) P w K mg base ["self", "word", "end", "low"] "Rule.joins" (defScope s_Rule_joins) (He.ma K (He.ga K "Rule") "joins") cdv A outer s H E) rfl
  exact (jss_one (js_ret (je_or (je_cmp op_le' lift_le (je_op op_sub lift_sub (je_var 3) (je_var 2)) (je_attr (je_var 0) (AttOk.cons rfl X.k_Rule AttOk.nil))) (je_one (je_and (je_cmp (op_eqD hr.units) lift_eqD (je_var 1) (je_ix (je_gk X.c_WORDS) je_int)) (je_one (je_cmp (op_eqD hr.units) lift_eqD (je_attr (je_var 0) (AttOk.cons rfl X.k_Rule AttOk.nil)) (je_str [111, 110, 101]))))))))
theorem ok_Rule_joins (X : Tx K mg) : Callee TB P w K mg base 1 (He.ma K (He.ga K "Rule") "joins") ["self", "word", "end", "low"] f_Rule_joins [] := by
  obtain ⟨fd, FD⟩ := X.d_Rule_joins
  exact ⟨fd, [], fo_Rule_joins X FD, FD.kp, .nil, FD.bindsN fun _ _ _ _ _ _ us hl => match us, hl with | [_, _, _, _], _ => rfl⟩
theorem fo_blocks_of (X : Tx K mg) {fd : FuncData} (FD : FunD K "blocks_of" "blocks_of" (defArgs s_blocks_of) (defBody s_blocks_of) (defScope s_blocks_of) [] [] (He.ga K "blocks_of") fd) : FnOk P w K mg base (CX P w) 2 (He.ga K "blocks_of") fd ["rule", "day", "word"] (spF TB K f_blocks_of) := by
  refine fn_ok FD sc_blocks_of (fun cdv A outer s H E hr => ?_)
  have tk := takes_of (X := cxOf (CX P w) P w K mg base ["rule", "day", "word", "found", "begin", "end", "is_private", "low", "high"] "blocks_of" (defScope s_blocks_of) (He.ga K "blocks_of") cdv A outer s H E) rfl rfl rfl rfl
  have hp := passes_of (X := cxOf (CX P w) P w K mg base ["rule", "day", "word", "found", "begin", "end", "is_private", "low", "high"] "blocks_of" (defScope s_blocks_of) (He.ga K "blocks_of") cdv A outer s H E) rfl
  exact (jss_cons (js_set 3 sc_blocks_of.nd (je_lst ja_nil))
 (jss_cons (js_for hp rfl (ji_seq (je_attr (je_var 1) (AttOk.cons rfl X.k_Day AttOk.nil))) (jg_tup rfl (jgs_cons (jg_name 4 sc_blocks_of.nd) (jgs_cons (jg_name 5 sc_blocks_of.nd) (jgs_cons (jg_name 6 sc_blocks_of.nd) jgs_nil))))
 (jss_one (js_if (jt_cmp (op_eqD hr.units) lift_eqD (jc_M (je_var 0) X.k_Rule X.m_Rule_word_of nf_Rule_word_of (ok_Rule_word_of X) (hr.mono (by decide)) Dfl.nil tk (ja_cons (je_var 6) ja_nil)) (je_var 2))
 (jss_cons (js_par 7 8 rfl sc_blocks_of.nd (by decide) (ja_cons (jc_M (je_var 0) X.k_Rule X.m_Rule_down nf_Rule_down (ok_Rule_down X) (hr.mono (by decide)) Dfl.nil tk (ja_cons (je_var 4) ja_nil)) (ja_cons (jc_M (je_var 0) X.k_Rule X.m_Rule_up nf_Rule_up (ok_Rule_up X) (hr.mono (by decide)) Dfl.nil tk (ja_cons (je_var 5) ja_nil)) ja_nil)))
 (jss_cons (js_if (jt_w (jw_and (jt_cmp op_gt' lift_gt (je_callB call_len lift_len X.n_len (ja_cons (je_var 3) ja_nil)) je_int) (jw_one (jt_val (jc_M (je_var 0) X.k_Rule X.m_Rule_joins nf_Rule_joins (ok_Rule_joins X) (hr.mono (by decide)) Dfl.nil tk (ja_cons (je_var 2) (ja_cons (je_ix (je_ix (je_var 3) (je_neg je_int)) je_int) (ja_cons (je_var 7) ja_nil))))))))
 (jss_one (js_set 7 sc_blocks_of.nd (je_ix (je_bm0 PySem.F.plainAttrs_list PySem.F.slot_list_pop PySem.F.type_list_pop mt_pop lift_pop (je_var 3)) je_int)))
 jss_nil)
 (jss_one (js_expr (je_bm PySem.F.plainAttrs_list PySem.F.slot_list_append PySem.F.type_list_append mt_append lift_append (je_var 3) (ja_cons (je_tup (ja_cons (je_var 7) (ja_cons (je_var 8) ja_nil))) ja_nil))))))
 jss_nil)))
 (jss_one (js_ret (je_var 3)))))
theorem ok_blocks_of (X : Tx K mg) : Callee TB P w K mg base 2 (He.ga K "blocks_of") ["rule", "day", "word"] f_blocks_of [] := by
  obtain ⟨fd, FD⟩ := X.d_blocks_of
  exact ⟨fd, [], fo_blocks_of X FD, FD.kp, .nil, FD.bindsN fun _ _ _ _ _ _ us hl => match us, hl with | [_, _, _], _ => rfl⟩
theorem nf_Rule_shown : ("shown" : Str) ∉ TB.fn 6 := by decide +kernel
theorem fo_Rule_shown (X : Tx K mg) {fd : FuncData} (FD : FunD K "shown" "Rule.shown" (defArgs s_Rule_shown) (defBody s_Rule_shown) (defScope s_Rule_shown) [] [] (He.ma K (He.ga K "Rule") "shown") fd) : FnOk P w K mg base (CX P w) 1 (He.ma K (He.ga K "Rule") "shown") fd ["self", "begin", "end"] (spF TB K f_Rule_shown) := by
  refine fn_ok FD sc_Rule_shown (fun cdv A outer s H E hr => ?_)
  have tk := takes_of (X := cxOf (CX P w) P w K mg base ["self", "begin", "end"] "Rule.shown" (defScope s_Rule_shown) (He.ma K (He.ga K "Rule") "shown") cdv A outer s H E) rfl rfl rfl rfl
  have hp := passes_of (X := cxOf (CX P w) P w K mg base ["self", "begin", "end"] "Rule.shown" (defScope s_Rule_shown) (He.ma K (He.ga K "Rule") "shown") cdv A outer s H E) rfl
  exact (jss_cons (js_if (jt_cmp op_lt' lift_lt (je_op op_sub lift_sub (je_var 2) (je_var 1)) (je_attr (je_var 0) (AttOk.cons rfl X.k_Rule AttOk.nil)))
 (jss_one (js_ret je_non))
 jss_nil)
 (jss_cons (js_if (jt_notN (je_attr (je_var 0) (AttOk.cons rfl X.k_Rule AttOk.nil)))
 (jss_one (js_par 1 2 rfl sc_Rule_shown.nd (by decide) (ja_cons (je_callB (call_max2 rfl) lift_max2 X.n_max (ja_cons (je_callTy call_int1 lift_int1 X.n_int (ja_cons (je_var 1) ja_nil)) (ja_cons (je_callTy call_int1 lift_int1 X.n_int (ja_cons (je_ix (je_attr (je_var 0) (AttOk.cons rfl X.k_Rule AttOk.nil)) je_int) ja_nil)) ja_nil))) (ja_cons (je_callB (call_min2 rfl) lift_min2 X.n_min (ja_cons (je_callTy call_int1 lift_int1 X.n_int (ja_cons (je_var 2) ja_nil)) (ja_cons (je_callTy call_int1 lift_int1 X.n_int (ja_cons (je_ix (je_attr (je_var 0) (AttOk.cons rfl X.k_Rule AttOk.nil)) je_int) ja_nil)) ja_nil))) ja_nil))))
 jss_nil)
 (jss_one (js_ret (je_if (jt_cmp op_lt' lift_lt (je_var 1) (je_var 2)) (je_tup (ja_cons (je_var 1) (ja_cons (je_var 2) ja_nil))) je_non)))))
theorem ok_Rule_shown (X : Tx K mg) : Callee TB P w K mg base 1 (He.ma K (He.ga K "Rule") "shown") ["self", "begin", "end"] f_Rule_shown [] := by
  obtain ⟨fd, FD⟩ := X.d_Rule_shown
  exact ⟨fd, [], fo_Rule_shown X FD, FD.kp, .nil, FD.bindsN fun _ _ _ _ _ _ us hl => match us, hl with | [_, _, _], _ => rfl⟩
theorem fo_show (X : Tx K mg) {fd : FuncData} (FD : FunD K "show" "show" (defArgs s_show) (defBody s_show) (defScope s_show) [] [] (He.ga K "show") fd) : FnOk P w K mg base (CX P w) 3 (He.ga K "show") fd ["rule", "day"] (spF TB K f_show) := by
  refine fn_ok FD sc_show (fun cdv A outer s H E hr => ?_)
  have tk := takes_of (X := cxOf (CX P w) P w K mg base ["rule", "day", "found", "word", "begin", "end", "block"] "show" (defScope s_show) (He.ga K "show") cdv A outer s H E) rfl rfl rfl rfl
  have hp := passes_of (X := cxOf (CX P w) P w K mg base ["rule", "day", "found", "word", "begin", "end", "block"] "show" (defScope s_show) (He.ga K "show") cdv A outer s H E) rfl
  exact (jss_cons (js_set 2 sc_show.nd (je_lst ja_nil))
 (jss_cons (js_for hp rfl (ji_seq (je_gk X.c_WORDS)) (jg_name 3 sc_show.nd)
 (jss_one (js_for hp rfl (ji_seq (jc_P (ok_blocks_of X) (hr.mono (by decide)) X.g_blocks_of Dfl.nil tk (ja_cons (je_var 0) (ja_cons (je_var 1) (ja_cons (je_var 3) ja_nil))))) (jg_tup rfl (jgs_cons (jg_name 4 sc_show.nd) (jgs_cons (jg_name 5 sc_show.nd) jgs_nil)))
 (jss_cons (js_set 6 sc_show.nd (jc_M (je_var 0) X.k_Rule X.m_Rule_shown nf_Rule_shown (ok_Rule_shown X) (hr.mono (by decide)) Dfl.nil tk (ja_cons (je_var 4) (ja_cons (je_var 5) ja_nil))))
 (jss_one (js_if (jt_notN (je_var 6))
 (jss_one (js_expr (je_bm PySem.F.plainAttrs_list PySem.F.slot_list_append PySem.F.type_list_append mt_append lift_append (je_var 2) (ja_cons (je_tup (ja_star (je_var 6) (ja_cons (je_var 3) ja_nil))) ja_nil))))
 jss_nil))))))
 (jss_one (js_ret (je_callTy call_tuple_of lift_tuple X.n_tuple (ja_cons (je_callB (cr_sortedT (fun i => decide (i = 2))) (lift_sortT (fun i => decide (i = 2))) X.n_sorted (ja_cons (je_var 2) ja_nil)) ja_nil))))))
theorem ok_show (X : Tx K mg) : Callee TB P w K mg base 3 (He.ga K "show") ["rule", "day"] f_show [] := by
  obtain ⟨fd, FD⟩ := X.d_show
  exact ⟨fd, [], fo_show X FD, FD.kp, .nil, FD.bindsN fun _ _ _ _ _ _ us hl => match us, hl with | [_, _], _ => rfl⟩
theorem fo_are_hours (X : Tx K mg) {fd : FuncData} (FD : FunD K "are_hours" "are_hours" (defArgs s_are_hours) (defBody s_are_hours) (defScope s_are_hours) [] [] (He.ga K "are_hours") fd) : FnOk P w K mg base (CX P w) 3 (He.ga K "are_hours") fd ["value"] (spF TB K f_are_hours) := by
  refine fn_ok FD sc_are_hours (fun cdv A outer s H E hr => ?_)
  have tk := takes_of (X := cxOf (CX P w) P w K mg base ["value"] "are_hours" (defScope s_are_hours) (He.ga K "are_hours") cdv A outer s H E) rfl rfl rfl rfl
  have hp := passes_of (X := cxOf (CX P w) P w K mg base ["value"] "are_hours" (defScope s_are_hours) (He.ga K "are_hours") cdv A outer s H E) rfl
  exact (jss_cons (js_if (jt_isN (je_var 0))
 (jss_one (js_ret je_bl))
 jss_nil)
 (jss_cons (js_if (jt_w (jw_or (jt_not (jt_val (je_isi .tuple (je_var 0) X.n_isinstance X.n_tuple))) (jw_or (jt_cmp (op_neD hr.units) lift_neD (je_callB call_len lift_len X.n_len (ja_cons (je_var 0) ja_nil)) je_int) (jw_or (jt_not (jt_val (jc_P (ok_is_number X) (hr.mono (by decide)) X.g_is_number Dfl.nil tk (ja_cons (je_ix (je_var 0) je_int) ja_nil)))) (jw_one (jt_not (jt_val (jc_P (ok_is_number X) (hr.mono (by decide)) X.g_is_number Dfl.nil tk (ja_cons (je_ix (je_var 0) je_int) ja_nil)))))))))
 (jss_one (js_ret je_bl))
 jss_nil)
 (jss_one (js_ret (je_cmp op_lt' lift_lt (je_ix (je_var 0) je_int) (je_ix (je_var 0) je_int))))))
theorem ok_are_hours (X : Tx K mg) : Callee TB P w K mg base 3 (He.ga K "are_hours") ["value"] f_are_hours [] := by
  obtain ⟨fd, FD⟩ := X.d_are_hours
  exact ⟨fd, [], fo_are_hours X FD, FD.kp, .nil, FD.bindsN fun _ _ _ _ _ _ us hl => match us, hl with | [_], _ => rfl⟩
theorem d_Rule_init_1 : Dfl TB K d_Rule_init_v1 [He.Dv.v K (.non)] := Dfl.of (ds := [.non]) (by kernel_rfl)
theorem d_Rule_init_2 : Dfl TB K d_Rule_init_v2 [He.Dv.v K (.str "busy"), He.Dv.v K (.non)] := Dfl.of (ds := [.str "busy", .non]) (by kernel_rfl)
theorem d_Rule_init_3 : Dfl TB K d_Rule_init_v3 [He.Dv.v K (.int 0), He.Dv.v K (.str "busy"), He.Dv.v K (.non)] := Dfl.of (ds := [.int 0, .str "busy", .non]) (by kernel_rfl)
theorem d_Rule_init_4 : Dfl TB K d_Rule_init_v4 [He.Dv.v K (.int 0), He.Dv.v K (.int 0), He.Dv.v K (.str "busy"), He.Dv.v K (.non)] := Dfl.of (ds := [.int 0, .int 0, .str "busy", .non]) (by kernel_rfl)
theorem fo_Rule_init (X : Tx K mg) {fd : FuncData} (FD : FunD K "__init__" "Rule.__init__" (defArgs s_Rule_init) (defBody s_Rule_init) (defScope s_Rule_init) [He.Dv.v K (.int 1), He.Dv.v K (.int 0), He.Dv.v K (.int 0), He.Dv.v K (.str "busy"), He.Dv.v K (.non)] [] (He.ma K (He.ga K "Rule") "__init__") fd) : FnOk P w K mg base (CX P w) 4 (He.ma K (He.ga K "Rule") "__init__") fd ["self", "step", "gap", "least", "private", "hours"] (spF TB K f_Rule_init) := by
  refine fn_ok FD sc_Rule_init (fun cdv A outer s H E hr => ?_)
  have tk := takes_of (X := cxOf (CX P w) P w K mg base ["self", "step", "gap", "least", "private", "hours"] "Rule.__init__" (defScope s_Rule_init) (He.ma K (He.ga K "Rule") "__init__") cdv A outer s H E) rfl rfl rfl rfl
  have hp := passes_of (X := cxOf (CX P w) P w K mg base ["self", "step", "gap", "least", "private", "hours"] "Rule.__init__" (defScope s_Rule_init) (He.ma K (He.ga K "Rule") "__init__") cdv A outer s H E) rfl
  exact (jss_cons (js_if (jt_w (jw_or (jt_not (jt_val (jc_P (ok_is_integer X) (hr.mono (by decide)) X.g_is_integer Dfl.nil tk (ja_cons (je_var 1) ja_nil)))) (jw_one (jt_cmp op_lt' lift_lt (je_var 1) je_int))))
 (jss_one js_never)
 jss_nil)
 (jss_cons (js_if (jt_not (jt_val (jc_P (ok_is_number X) (hr.mono (by decide)) X.g_is_number Dfl.nil tk (ja_cons (je_var 2) ja_nil))))
 (jss_one js_never)
 jss_nil)
 (jss_cons (js_if (jt_not (jt_val (jc_P (ok_is_number X) (hr.mono (by decide)) X.g_is_number Dfl.nil tk (ja_cons (je_var 3) ja_nil))))
 (jss_one js_never)
 jss_nil)
 (jss_cons (js_if (jt_w (jw_or (jt_not (jt_val (je_isi .str (je_var 4) X.n_isinstance X.n_str))) (jw_one (jt_cmp op_notIn_seq (lift_in true) (je_var 4) (je_gk X.c_SORTS)))))
 (jss_one js_never)
 jss_nil)
 (jss_cons (js_if (jt_not (jt_val (jc_P (ok_are_hours X) (hr.mono (by decide)) X.g_are_hours Dfl.nil tk (ja_cons (je_var 5) ja_nil))))
 (jss_one js_never)
 jss_nil)
 (jss_cons (js_setattr (AttOk.cons rfl X.k_Rule AttOk.nil) (je_var 1) (je_var 0))
 (jss_cons (js_setattr (AttOk.cons rfl X.k_Rule AttOk.nil) (je_var 2) (je_var 0))
 (jss_cons (js_setattr (AttOk.cons rfl X.k_Rule AttOk.nil) (je_var 3) (je_var 0))
 (jss_cons (js_setattr (AttOk.cons rfl X.k_Rule AttOk.nil) (je_var 4) (je_var 0))
 (jss_one (js_setattr (AttOk.cons rfl X.k_Rule AttOk.nil) (je_var 5) (je_var 0))))))))))))
theorem ok_Rule_init (X : Tx K mg) : Callee TB P w K mg base 4 (He.ma K (He.ga K "Rule") "__init__") ["self", "step", "gap", "least", "private", "hours"] f_Rule_init [] := by
  obtain ⟨fd, FD⟩ := X.d_Rule_init
  obtain ⟨ds, hv, hb⟩ := FD.binds1 (ps := ["self", "step", "gap", "least", "private", "hours"]) 6 5 (by simp) rfl (fun _ _ _ _ _ _ _ us its h1 h2 => match us, its, h1, h2 with | [_, _, _, _, _, _], [_, _, _, _, _], _, _ => ⟨_, rfl, rfl⟩)
  exact ⟨fd, ds, fo_Rule_init X FD, FD.kp, hv, hb⟩
theorem ok_Rule_init_1 (X : Tx K mg) : Callee TB P w K mg base 4 (He.ma K (He.ga K "Rule") "__init__") ["self", "step", "gap", "least", "private", "hours"] f_Rule_init [He.Dv.v K (.non)] := by
  obtain ⟨fd, FD⟩ := X.d_Rule_init
  obtain ⟨ds, hv, hb⟩ := FD.binds1 (ps := ["self", "step", "gap", "least", "private", "hours"]) 5 4 (by simp) rfl (fun _ _ _ _ _ _ _ us its h1 h2 => match us, its, h1, h2 with | [_, _, _, _, _], [_, _, _, _, _], _, _ => ⟨_, rfl, rfl⟩)
  exact ⟨fd, ds, fo_Rule_init X FD, FD.kp, hv, hb⟩
theorem ok_Rule_init_2 (X : Tx K mg) : Callee TB P w K mg base 4 (He.ma K (He.ga K "Rule") "__init__") ["self", "step", "gap", "least", "private", "hours"] f_Rule_init [He.Dv.v K (.str "busy"), He.Dv.v K (.non)] := by
  obtain ⟨fd, FD⟩ := X.d_Rule_init
  obtain ⟨ds, hv, hb⟩ := FD.binds1 (ps := ["self", "step", "gap", "least", "private", "hours"]) 4 3 (by simp) rfl (fun _ _ _ _ _ _ _ us its h1 h2 => match us, its, h1, h2 with | [_, _, _, _], [_, _, _, _, _], _, _ => ⟨_, rfl, rfl⟩)
  exact ⟨fd, ds, fo_Rule_init X FD, FD.kp, hv, hb⟩
theorem ok_Rule_init_3 (X : Tx K mg) : Callee TB P w K mg base 4 (He.ma K (He.ga K "Rule") "__init__") ["self", "step", "gap", "least", "private", "hours"] f_Rule_init [He.Dv.v K (.int 0), He.Dv.v K (.str "busy"), He.Dv.v K (.non)] := by
  obtain ⟨fd, FD⟩ := X.d_Rule_init
  obtain ⟨ds, hv, hb⟩ := FD.binds1 (ps := ["self", "step", "gap", "least", "private", "hours"]) 3 2 (by simp) rfl (fun _ _ _ _ _ _ _ us its h1 h2 => match us, its, h1, h2 with | [_, _, _], [_, _, _, _, _], _, _ => ⟨_, rfl, rfl⟩)
  exact ⟨fd, ds, fo_Rule_init X FD, FD.kp, hv, hb⟩
theorem ok_Rule_init_4 (X : Tx K mg) : Callee TB P w K mg base 4 (He.ma K (He.ga K "Rule") "__init__") ["self", "step", "gap", "least", "private", "hours"] f_Rule_init [He.Dv.v K (.int 0), He.Dv.v K (.int 0), He.Dv.v K (.str "busy"), He.Dv.v K (.non)] := by
  obtain ⟨fd, FD⟩ := X.d_Rule_init
  obtain ⟨ds, hv, hb⟩ := FD.binds1 (ps := ["self", "step", "gap", "least", "private", "hours"]) 2 1 (by simp) rfl (fun _ _ _ _ _ _ _ us its h1 h2 => match us, its, h1, h2 with | [_, _], [_, _, _, _, _], _, _ => ⟨_, rfl, rfl⟩)
  exact ⟨fd, ds, fo_Rule_init X FD, FD.kp, hv, hb⟩
theorem nr_Rule_init : ∀ as h v h', f_Rule_init h as = .ok v h' → v = .non := fnOf_non (nr_seq (nr_if nr_bad nr_skip) (nr_seq (nr_if nr_bad nr_skip) (nr_seq (nr_if nr_bad nr_skip) (nr_seq (nr_if nr_bad nr_skip) (nr_seq (nr_if nr_bad nr_skip) (nr_seq nr_att (nr_seq nr_att (nr_seq nr_att (nr_seq nr_att nr_att)))))))))
theorem fo_Llast_right (X : Tx K mg) {fd : FuncData} (FD : FunD K "_law_last_right" "_law_last_right" (defArgs s_Llast_right) (defBody s_Llast_right) (defScope s_Llast_right) [] [] (He.ga K "_law_last_right") fd) : FnOk P w K mg base (CX P w) 7 (He.ga K "_law_last_right") fd [] (spF TB K f_Llast_right) := by
  refine fn_ok FD sc_Llast_right (fun cdv A outer s H E hr => ?_)
  have tk := takes_of (X := cxOf (CX P w) P w K mg base ["_law_last"] "_law_last_right" (defScope s_Llast_right) (He.ga K "_law_last_right") cdv A outer s H E) rfl rfl rfl rfl
  have hp := passes_of (X := cxOf (CX P w) P w K mg base ["_law_last"] "_law_last_right" (defScope s_Llast_right) (He.ga K "_law_last_right") cdv A outer s H E) rfl
  exact (jss_cons (js_set 0 sc_Llast_right.nd (jc_K nr_Day_init X.mk_Day (ok_Day_init X) (hr.mono (by decide)) X.g_Day Dfl.nil tk (ja_cons je_int (ja_cons (je_lstF (ja_cons (je_tup (ja_cons je_int (ja_cons je_int (ja_cons je_bl ja_nil)))) ja_nil)) ja_nil))))
 (jss_cons (js_if (jt_cmp (op_neD hr.units) lift_neD (jc_P (ok_show X) (hr.mono (by decide)) X.g_show Dfl.nil tk (ja_cons (jc_K nr_Rule_init X.mk_Rule (ok_Rule_init_4 X) (hr.mono (by decide)) X.g_Rule d_Rule_init_4 tk (ja_cons je_int ja_nil)) (ja_cons (je_var 0) ja_nil))) (je_tup (ja_cons (je_tup (ja_cons je_int (ja_cons je_int (ja_cons (je_str [98, 117, 115, 121]) ja_nil)))) ja_nil)))
 (jss_one (js_ret je_bl))
 jss_nil)
 (jss_cons (js_if (jt_cmp (op_neD hr.units) lift_neD (jc_P (ok_show X) (hr.mono (by decide)) X.g_show Dfl.nil tk (ja_cons (jc_K nr_Rule_init X.mk_Rule (ok_Rule_init X) (hr.mono (by decide)) X.g_Rule Dfl.nil tk (ja_cons je_int (ja_cons je_int (ja_cons je_int (ja_cons (je_str [98, 117, 115, 121]) (ja_cons (je_tup (ja_cons je_int (ja_cons je_int ja_nil))) ja_nil)))))) (ja_cons (je_var 0) ja_nil))) (je_tup (ja_cons (je_tup (ja_cons je_int (ja_cons je_int (ja_cons (je_str [98, 117, 115, 121]) ja_nil)))) ja_nil)))
 (jss_one (js_ret je_bl))
 jss_nil)
 (jss_one (js_ret (je_and (je_cmp (op_eqD hr.units) lift_eqD (jc_P (ok_show X) (hr.mono (by decide)) X.g_show Dfl.nil tk (ja_cons (jc_K nr_Rule_init X.mk_Rule (ok_Rule_init_2 X) (hr.mono (by decide)) X.g_Rule d_Rule_init_2 tk (ja_cons je_int (ja_cons je_int (ja_cons je_int ja_nil)))) (ja_cons (je_var 0) ja_nil))) (je_tup ja_nil)) (je_one (je_cmp (op_eqD hr.units) lift_eqD (jc_P (ok_show X) (hr.mono (by decide)) X.g_show Dfl.nil tk (ja_cons (jc_K nr_Rule_init X.mk_Rule (ok_Rule_init X) (hr.mono (by decide)) X.g_Rule Dfl.nil tk (ja_cons je_int (ja_cons je_int (ja_cons je_int (ja_cons (je_str [98, 117, 115, 121]) (ja_cons (je_tup (ja_cons je_int (ja_cons je_int ja_nil))) ja_nil)))))) (ja_cons (je_var 0) ja_nil))) (je_tup ja_nil)))))))))
theorem ok_Llast_right (X : Tx K mg) : Callee TB P w K mg base 7 (He.ga K "_law_last_right") [] f_Llast_right [] := by
  obtain ⟨fd, FD⟩ := X.d_Llast_right
  exact ⟨fd, [], fo_Llast_right X FD, FD.kp, .nil, FD.bindsN fun _ _ _ _ _ _ us hl => match us, hl with | [], _ => rfl⟩
theorem fo_Llone_right (X : Tx K mg) {fd : FuncData} (FD : FunD K "_law_lone_right" "_law_lone_right" (defArgs s_Llone_right) (defBody s_Llone_right) (defScope s_Llone_right) [] [] (He.ga K "_law_lone_right") fd) : FnOk P w K mg base (CX P w) 7 (He.ga K "_law_lone_right") fd ["_law_a"] (spF TB K f_Llone_right) := by
  refine fn_ok FD sc_Llone_right (fun cdv A outer s H E hr => ?_)
  have tk := takes_of (X := cxOf (CX P w) P w K mg base ["_law_a", "_law_lone"] "_law_lone_right" (defScope s_Llone_right) (He.ga K "_law_lone_right") cdv A outer s H E) rfl rfl rfl rfl
  have hp := passes_of (X := cxOf (CX P w) P w K mg base ["_law_a", "_law_lone"] "_law_lone_right" (defScope s_Llone_right) (He.ga K "_law_lone_right") cdv A outer s H E) rfl
  exact (jss_cons (js_set 1 sc_Llone_right.nd (jc_K nr_Day_init X.mk_Day (ok_Day_init X) (hr.mono (by decide)) X.g_Day Dfl.nil tk (ja_cons je_int (ja_cons (je_lstF (ja_cons (je_tup (ja_cons (je_var 0) (ja_cons (je_op op_add lift_add (je_var 0) je_int) (ja_cons je_bl ja_nil)))) (ja_cons (je_tup (ja_cons (je_op op_add lift_add (je_var 0) je_int) (ja_cons (je_op op_add lift_add (je_var 0) je_int) (ja_cons je_bl ja_nil)))) (ja_cons (je_tup (ja_cons (je_op op_add lift_add (je_var 0) je_int) (ja_cons (je_op op_add lift_add (je_var 0) je_int) (ja_cons je_bl ja_nil)))) ja_nil)))) ja_nil))))
 (jss_cons (js_if (jt_cmp (op_neD hr.units) lift_neD (jc_P (ok_show X) (hr.mono (by decide)) X.g_show Dfl.nil tk (ja_cons (jc_K nr_Rule_init X.mk_Rule (ok_Rule_init_1 X) (hr.mono (by decide)) X.g_Rule d_Rule_init_1 tk (ja_cons je_int (ja_cons je_int (ja_cons je_int (ja_cons (je_str [111, 110, 101]) ja_nil))))) (ja_cons (je_var 1) ja_nil))) (je_tup (ja_cons (je_tup (ja_cons (je_var 0) (ja_cons (je_op op_add lift_add (je_var 0) je_int) (ja_cons (je_str [112, 114, 105, 118, 97, 116, 101]) ja_nil)))) (ja_cons (je_tup (ja_cons (je_op op_add lift_add (je_var 0) je_int) (ja_cons (je_op op_add lift_add (je_var 0) je_int) (ja_cons (je_str [98, 117, 115, 121]) ja_nil)))) ja_nil))))
 (jss_one (js_ret je_bl))
 jss_nil)
 (jss_one (js_ret (je_cmp (op_eqD hr.units) lift_eqD (jc_P (ok_show X) (hr.mono (by decide)) X.g_show Dfl.nil tk (ja_cons (jc_K nr_Rule_init X.mk_Rule (ok_Rule_init X) (hr.mono (by decide)) X.g_Rule Dfl.nil tk (ja_cons je_int (ja_cons je_int (ja_cons je_int (ja_cons (je_str [111, 110, 101]) (ja_cons (je_tup (ja_cons (je_op op_add lift_add (je_var 0) je_int) (ja_cons je_int ja_nil))) ja_nil)))))) (ja_cons (je_var 1) ja_nil))) (je_tup (ja_cons (je_tup (ja_cons (je_op op_add lift_add (je_var 0) je_int) (ja_cons (je_op op_add lift_add (je_var 0) je_int) (ja_cons (je_str [112, 114, 105, 118, 97, 116, 101]) ja_nil)))) ja_nil)))))))
theorem ok_Llone_right (X : Tx K mg) : Callee TB P w K mg base 7 (He.ga K "_law_lone_right") ["_law_a"] f_Llone_right [] := by
  obtain ⟨fd, FD⟩ := X.d_Llone_right
  exact ⟨fd, [], fo_Llone_right X FD, FD.kp, .nil, FD.bindsN fun _ _ _ _ _ _ us hl => match us, hl with | [_], _ => rfl⟩
theorem fo_Lday_right (X : Tx K mg) {fd : FuncData} (FD : FunD K "_law_day_right" "_law_day_right" (defArgs s_Lday_right) (defBody s_Lday_right) (defScope s_Lday_right) [] [] (He.ga K "_law_day_right") fd) : FnOk P w K mg base (CX P w) 7 (He.ga K "_law_day_right") fd ["_law_a"] (spF TB K f_Lday_right) := by
  refine fn_ok FD sc_Lday_right (fun cdv A outer s H E hr => ?_)
  have tk := takes_of (X := cxOf (CX P w) P w K mg base ["_law_a", "_law_day", "_law_due"] "_law_day_right" (defScope s_Lday_right) (He.ga K "_law_day_right") cdv A outer s H E) rfl rfl rfl rfl
  have hp := passes_of (X := cxOf (CX P w) P w K mg base ["_law_a", "_law_day", "_law_due"] "_law_day_right" (defScope s_Lday_right) (He.ga K "_law_day_right") cdv A outer s H E) rfl
  exact (jss_cons (js_set 1 sc_Lday_right.nd (jc_K nr_Day_init X.mk_Day (ok_Day_init X) (hr.mono (by decide)) X.g_Day Dfl.nil tk (ja_cons je_int (ja_cons (je_lstF (ja_cons (je_tup (ja_cons (je_op op_add lift_add (je_var 0) je_int) (ja_cons (je_op op_add lift_add (je_var 0) je_int) (ja_cons je_bl ja_nil)))) (ja_cons (je_tup (ja_cons (je_op op_add lift_add (je_var 0) je_int) (ja_cons (je_op op_add lift_add (je_var 0) je_int) (ja_cons je_bl ja_nil)))) (ja_cons (je_tup (ja_cons (je_op op_add lift_add (je_var 0) je_int) (ja_cons (je_op op_add lift_add (je_var 0) je_int) (ja_cons je_bl ja_nil)))) ja_nil)))) ja_nil))))
 (jss_cons (js_if (jt_cmp (op_neD hr.units) lift_neD (jc_P (ok_show X) (hr.mono (by decide)) X.g_show Dfl.nil tk (ja_cons (jc_K nr_Rule_init X.mk_Rule (ok_Rule_init_3 X) (hr.mono (by decide)) X.g_Rule d_Rule_init_3 tk (ja_cons je_int (ja_cons je_int ja_nil))) (ja_cons (je_var 1) ja_nil))) (je_tup (ja_cons (je_tup (ja_cons (je_op op_add lift_add (je_var 0) je_int) (ja_cons (je_op op_add lift_add (je_var 0) je_int) (ja_cons (je_str [98, 117, 115, 121]) ja_nil)))) (ja_cons (je_tup (ja_cons (je_op op_add lift_add (je_var 0) je_int) (ja_cons (je_op op_add lift_add (je_var 0) je_int) (ja_cons (je_str [98, 117, 115, 121]) ja_nil)))) ja_nil))))
 (jss_one (js_ret je_bl))
 jss_nil)
 (jss_cons (js_if (jt_cmp (op_neD hr.units) lift_neD (jc_P (ok_show X) (hr.mono (by decide)) X.g_show Dfl.nil tk (ja_cons (jc_K nr_Rule_init X.mk_Rule (ok_Rule_init_3 X) (hr.mono (by decide)) X.g_Rule d_Rule_init_3 tk (ja_cons je_int (ja_cons je_int ja_nil))) (ja_cons (je_var 1) ja_nil))) (je_tup (ja_cons (je_tup (ja_cons (je_op op_add lift_add (je_var 0) je_int) (ja_cons (je_op op_add lift_add (je_var 0) je_int) (ja_cons (je_str [98, 117, 115, 121]) ja_nil)))) ja_nil)))
 (jss_one (js_ret je_bl))
 jss_nil)
 (jss_cons (js_if (jt_cmp (op_neD hr.units) lift_neD (jc_P (ok_show X) (hr.mono (by decide)) X.g_show Dfl.nil tk (ja_cons (jc_K nr_Rule_init X.mk_Rule (ok_Rule_init_2 X) (hr.mono (by decide)) X.g_Rule d_Rule_init_2 tk (ja_cons je_int (ja_cons je_int (ja_cons je_int ja_nil)))) (ja_cons (je_var 1) ja_nil))) (je_tup (ja_cons (je_tup (ja_cons (je_op op_add lift_add (je_var 0) je_int) (ja_cons (je_op op_add lift_add (je_var 0) je_int) (ja_cons (je_str [98, 117, 115, 121]) ja_nil)))) ja_nil)))
 (jss_one (js_ret je_bl))
 jss_nil)
 (jss_cons (js_set 2 sc_Lday_right.nd (je_tup (ja_cons (je_tup (ja_cons (je_var 0) (ja_cons (je_op op_add lift_add (je_var 0) je_int) (ja_cons (je_str [98, 117, 115, 121]) ja_nil)))) (ja_cons (je_tup (ja_cons (je_op op_add lift_add (je_var 0) je_int) (ja_cons (je_op op_add lift_add (je_var 0) je_int) (ja_cons (je_str [112, 114, 105, 118, 97, 116, 101]) ja_nil)))) (ja_cons (je_tup (ja_cons (je_op op_add lift_add (je_var 0) je_int) (ja_cons (je_op op_add lift_add (je_var 0) je_int) (ja_cons (je_str [98, 117, 115, 121]) ja_nil)))) ja_nil)))))
 (jss_cons (js_if (jt_cmp (op_neD hr.units) lift_neD (jc_P (ok_show X) (hr.mono (by decide)) X.g_show Dfl.nil tk (ja_cons (jc_K nr_Rule_init X.mk_Rule (ok_Rule_init_1 X) (hr.mono (by decide)) X.g_Rule d_Rule_init_1 tk (ja_cons je_int (ja_cons je_int (ja_cons je_int (ja_cons (je_str [97, 112, 97, 114, 116]) ja_nil))))) (ja_cons (je_var 1) ja_nil))) (je_var 2))
 (jss_one (js_ret je_bl))
 jss_nil)
 (jss_cons (js_if (jt_cmp (op_neD hr.units) lift_neD (jc_P (ok_show X) (hr.mono (by decide)) X.g_show Dfl.nil tk (ja_cons (jc_K nr_Rule_init X.mk_Rule (ok_Rule_init_1 X) (hr.mono (by decide)) X.g_Rule d_Rule_init_1 tk (ja_cons je_int (ja_cons je_int (ja_cons je_int (ja_cons (je_str [110, 111, 110, 101]) ja_nil))))) (ja_cons (je_var 1) ja_nil))) (je_tup (ja_cons (je_tup (ja_cons (je_op op_add lift_add (je_var 0) je_int) (ja_cons (je_op op_add lift_add (je_var 0) je_int) (ja_cons (je_str [98, 117, 115, 121]) ja_nil)))) (ja_cons (je_tup (ja_cons (je_op op_add lift_add (je_var 0) je_int) (ja_cons (je_op op_add lift_add (je_var 0) je_int) (ja_cons (je_str [98, 117, 115, 121]) ja_nil)))) ja_nil))))
 (jss_one (js_ret je_bl))
 jss_nil)
 (jss_cons (js_if (jt_cmp (op_neD hr.units) lift_neD (jc_P (ok_show X) (hr.mono (by decide)) X.g_show Dfl.nil tk (ja_cons (jc_K nr_Rule_init X.mk_Rule (ok_Rule_init_1 X) (hr.mono (by decide)) X.g_Rule d_Rule_init_1 tk (ja_cons je_int (ja_cons je_int (ja_cons je_int (ja_cons (je_str [110, 111, 110, 101]) ja_nil))))) (ja_cons (je_var 1) ja_nil))) (je_tup (ja_cons (je_tup (ja_cons (je_op op_add lift_add (je_var 0) je_int) (ja_cons (je_op op_add lift_add (je_var 0) je_int) (ja_cons (je_str [98, 117, 115, 121]) ja_nil)))) ja_nil)))
 (jss_one (js_ret je_bl))
 jss_nil)
 (jss_cons (js_if (jt_cmp (op_neD hr.units) lift_neD (jc_P (ok_show X) (hr.mono (by decide)) X.g_show Dfl.nil tk (ja_cons (jc_K nr_Rule_init X.mk_Rule (ok_Rule_init_3 X) (hr.mono (by decide)) X.g_Rule d_Rule_init_3 tk (ja_cons je_int (ja_cons je_int ja_nil))) (ja_cons (je_var 1) ja_nil))) (je_tup (ja_cons (je_tup (ja_cons (je_var 0) (ja_cons (je_op op_add lift_add (je_var 0) je_int) (ja_cons (je_str [98, 117, 115, 121]) ja_nil)))) ja_nil)))
 (jss_one (js_ret je_bl))
 jss_nil)
 (jss_one (js_ret (je_cmp (op_eqD hr.units) lift_eqD (jc_P (ok_show X) (hr.mono (by decide)) X.g_show Dfl.nil tk (ja_cons (jc_K nr_Rule_init X.mk_Rule (ok_Rule_init X) (hr.mono (by decide)) X.g_Rule Dfl.nil tk (ja_cons je_int (ja_cons je_int (ja_cons je_int (ja_cons (je_str [98, 117, 115, 121]) (ja_cons (je_tup (ja_cons (je_op op_add lift_add (je_var 0) je_int) (ja_cons (je_op op_add lift_add (je_var 0) je_int) ja_nil))) ja_nil)))))) (ja_cons (je_var 1) ja_nil))) (je_tup (ja_cons (je_tup (ja_cons (je_op op_add lift_add (je_var 0) je_int) (ja_cons (je_op op_add lift_add (je_var 0) je_int) (ja_cons (je_str [98, 117, 115, 121]) ja_nil)))) ja_nil))))))))))))))
theorem ok_Lday_right (X : Tx K mg) : Callee TB P w K mg base 7 (He.ga K "_law_day_right") ["_law_a"] f_Lday_right [] := by
  obtain ⟨fd, FD⟩ := X.d_Lday_right
  exact ⟨fd, [], fo_Lday_right X FD, FD.kp, .nil, FD.bindsN fun _ _ _ _ _ _ us hl => match us, hl with | [_], _ => rfl⟩
theorem fo_law (X : Tx K mg) {fd : FuncData} (FD : FunD K "law" "law" (defArgs s_law) (defBody s_law) (defScope s_law) [] [] (He.ga K "law") fd) : FnOk P w K mg base (CX P w) 8 (He.ga K "law") fd ["_law_script"] (spF TB K f_law) := by
  refine fn_ok FD sc_law (fun cdv A outer s H E hr => ?_)
  have tk := takes_of (X := cxOf (CX P w) P w K mg base ["_law_script", "_law_k", "_law_box", "_law_a", "_law_step"] "law" (defScope s_law) (He.ga K "law") cdv A outer s H E) rfl rfl rfl rfl
  have hp := passes_of (X := cxOf (CX P w) P w K mg base ["_law_script", "_law_k", "_law_box", "_law_a", "_law_step"] "law" (defScope s_law) (He.ga K "law") cdv A outer s H E) rfl
  exact (jss_cons (js_for hp rfl (ji_range1 rfl X.n_range (ja_cons (je_callB (call_max2 rfl) lift_max2 X.n_max (ja_cons je_int (ja_cons (je_callB (call_min2 rfl) lift_min2 X.n_min (ja_cons je_int (ja_cons (je_callB call_len lift_len X.n_len (ja_cons (je_var 0) ja_nil)) ja_nil))) ja_nil))) ja_nil)) (jg_name 1 sc_law.nd)
 (jss_cons (js_set 2 sc_law.nd (jc_O (ok_Lseed X) (hr.mono (by decide)) X.g_Lseed Dfl.nil tk (ja_cons (je_var 0) (ja_cons (je_var 1) ja_nil))))
 (jss_cons (js_par 3 4 rfl sc_law.nd (by decide) (ja_cons (je_op op_mul lift_mul je_int (jc_B (ok_Lchoose X) (hr.mono (by decide)) X.g_Lchoose Dfl.nil tk (ja_cons (je_var 2) (ja_cons je_int ja_nil)))) (ja_cons (jc_B (ok_Lone_of X) (hr.mono (by decide)) X.g_Lone_of Dfl.nil tk (ja_cons (je_var 2) (ja_cons (je_lstF (ja_cons je_int (ja_cons je_int (ja_cons je_int (ja_cons je_int (ja_cons je_int ja_nil)))))) ja_nil))) ja_nil)))
 (jss_cons (js_if (jt_w (jw_or (jt_not (jt_val (jc_P (ok_Lday_right X) (hr.mono (by decide)) X.g_Lday_right Dfl.nil tk (ja_cons (je_var 3) ja_nil)))) (jw_or (jt_not (jt_val (jc_P (ok_Llone_right X) (hr.mono (by decide)) X.g_Llone_right Dfl.nil tk (ja_cons (je_var 3) ja_nil)))) (jw_one (jt_not (jt_val (jc_P0 (ok_Llast_right X) (hr.mono (by decide)) X.g_Llast_right Dfl.nil tk)))))))
 (jss_one (js_ret je_bl))
 jss_nil)
 (jss_one (js_if (jt_cmp (op_neD hr.units) lift_neD (jc_P (ok_show X) (hr.mono (by decide)) X.g_show Dfl.nil tk (ja_cons (jc_K nr_Rule_init X.mk_Rule (ok_Rule_init_4 X) (hr.mono (by decide)) X.g_Rule d_Rule_init_4 tk (ja_cons (je_var 4) ja_nil)) (ja_cons (jc_K nr_Day_init X.mk_Day (ok_Day_init X) (hr.mono (by decide)) X.g_Day Dfl.nil tk (ja_cons je_int (ja_cons (je_lstF (ja_cons (je_tup (ja_cons (je_var 3) (ja_cons (je_op op_add lift_add (je_var 3) je_int) (ja_cons je_bl ja_nil)))) ja_nil)) ja_nil))) ja_nil))) (je_tup (ja_cons (je_tup (ja_cons (je_var 3) (ja_cons (je_op op_add lift_add (je_var 3) je_int) (ja_cons (je_str [98, 117, 115, 121]) ja_nil)))) ja_nil)))
 (jss_one (js_ret je_bl))
 jss_nil))))))
 (jss_one (js_ret je_bl)))
theorem ok_law (X : Tx K mg) : Callee TB P w K mg base 8 (He.ga K "law") ["_law_script"] f_law [] := by
  obtain ⟨fd, FD⟩ := X.d_law
  exact ⟨fd, [], fo_law X FD, FD.kp, .nil, FD.bindsN fun _ _ _ _ _ _ us hl => match us, hl with | [_], _ => rfl⟩
end
def names0 : List PySem.Str := [("_wall" : PySem.Str), ("DimError" : PySem.Str), ("InvalidDay" : PySem.Str), ("InvalidRule" : PySem.Str), ("InvalidText" : PySem.Str), ("NoMeeting" : PySem.Str), ("WORDS" : PySem.Str), ("DIGITS" : PySem.Str), ("MOST_DIGITS" : PySem.Str), ("is_integer" : PySem.Str), ("is_number" : PySem.Str), ("is_bool" : PySem.Str), ("is_sequence" : PySem.Str), ("number_in" : PySem.Str), ("range_in" : PySem.Str), ("blocks_of" : PySem.Str), ("show" : PySem.Str), ("ENDING" : PySem.Str), ("is_meeting" : PySem.Str), ("are_meetings" : PySem.Str), ("Day" : PySem.Str), ("meeting_in" : PySem.Str), ("SORTS" : PySem.Str), ("HEADS" : PySem.Str), ("are_hours" : PySem.Str), ("Rule" : PySem.Str), ("_law_seed" : PySem.Str), ("_law_choose" : PySem.Str), ("_law_one_of" : PySem.Str), ("_law_day_right" : PySem.Str)]
def names1 : List PySem.Str := [("_law_lone_right" : PySem.Str), ("_law_last_right" : PySem.Str)]
def names : List PySem.Str := names0 ++ names1
def D_Lseed : He.DefD := ⟨("_law_seed", none), "_law_seed", "_law_seed", defArgs s_Lseed, defBody s_Lseed, defScope s_Lseed, [], []⟩
def D_Lchoose : He.DefD := ⟨("_law_choose", none), "_law_choose", "_law_choose", defArgs s_Lchoose, defBody s_Lchoose, defScope s_Lchoose, [], []⟩
def D_Lone_of : He.DefD := ⟨("_law_one_of", none), "_law_one_of", "_law_one_of", defArgs s_Lone_of, defBody s_Lone_of, defScope s_Lone_of, [], []⟩
def D_is_integer : He.DefD := ⟨("is_integer", none), "is_integer", "is_integer", defArgs s_is_integer, defBody s_is_integer, defScope s_is_integer, [], []⟩
def D_is_bool : He.DefD := ⟨("is_bool", none), "is_bool", "is_bool", defArgs s_is_bool, defBody s_is_bool, defScope s_is_bool, [], []⟩
def D_is_number : He.DefD := ⟨("is_number", none), "is_number", "is_number", defArgs s_is_number, defBody s_is_number, defScope s_is_number, [], []⟩
def D_is_meeting : He.DefD := ⟨("is_meeting", none), "is_meeting", "is_meeting", defArgs s_is_meeting, defBody s_is_meeting, defScope s_is_meeting, [], []⟩
def D_is_sequence : He.DefD := ⟨("is_sequence", none), "is_sequence", "is_sequence", defArgs s_is_sequence, defBody s_is_sequence, defScope s_is_sequence, [], []⟩
def D_are_meetings : He.DefD := ⟨("are_meetings", none), "are_meetings", "are_meetings", defArgs s_are_meetings, defBody s_are_meetings, defScope s_are_meetings, [], []⟩
def D_Day_init : He.DefD := ⟨("Day", some "__init__"), "__init__", "Day.__init__", defArgs s_Day_init, defBody s_Day_init, defScope s_Day_init, [.adr (He.dflAt ("Day", some "__init__") 0)], []⟩
def D_Rule_word_of : He.DefD := ⟨("Rule", some "word_of"), "word_of", "Rule.word_of", defArgs s_Rule_word_of, defBody s_Rule_word_of, defScope s_Rule_word_of, [], []⟩
def D_Rule_down : He.DefD := ⟨("Rule", some "down"), "down", "Rule.down", defArgs s_Rule_down, defBody s_Rule_down, defScope s_Rule_down, [], []⟩
def D_Rule_up : He.DefD := ⟨("Rule", some "up"), "up", "Rule.up", defArgs s_Rule_up, defBody s_Rule_up, defScope s_Rule_up, [], []⟩
def D_Rule_joins : He.DefD := ⟨("Rule", some "joins"), "joins", "Rule.joins", defArgs s_Rule_joins, defBody s_Rule_joins, defScope s_Rule_joins, [], []⟩
def D_blocks_of : He.DefD := ⟨("blocks_of", none), "blocks_of", "blocks_of", defArgs s_blocks_of, defBody s_blocks_of, defScope s_blocks_of, [], []⟩
def D_Rule_shown : He.DefD := ⟨("Rule", some "shown"), "shown", "Rule.shown", defArgs s_Rule_shown, defBody s_Rule_shown, defScope s_Rule_shown, [], []⟩
def D_show : He.DefD := ⟨("show", none), "show", "show", defArgs s_show, defBody s_show, defScope s_show, [], []⟩
def D_are_hours : He.DefD := ⟨("are_hours", none), "are_hours", "are_hours", defArgs s_are_hours, defBody s_are_hours, defScope s_are_hours, [], []⟩
def D_Rule_init : He.DefD := ⟨("Rule", some "__init__"), "__init__", "Rule.__init__", defArgs s_Rule_init, defBody s_Rule_init, defScope s_Rule_init, [.int 1, .int 0, .int 0, .str "busy", .non], []⟩
def D_Llast_right : He.DefD := ⟨("_law_last_right", none), "_law_last_right", "_law_last_right", defArgs s_Llast_right, defBody s_Llast_right, defScope s_Llast_right, [], []⟩
def D_Llone_right : He.DefD := ⟨("_law_lone_right", none), "_law_lone_right", "_law_lone_right", defArgs s_Llone_right, defBody s_Llone_right, defScope s_Llone_right, [], []⟩
def D_Lday_right : He.DefD := ⟨("_law_day_right", none), "_law_day_right", "_law_day_right", defArgs s_Lday_right, defBody s_Lday_right, defScope s_Lday_right, [], []⟩
def D_law : He.DefD := ⟨("law", none), "law", "law", defArgs s_law, defBody s_law, defScope s_law, [], []⟩
def fn0 : List He.DefD := [D_Lseed, D_Lchoose, D_Lone_of, D_is_integer, D_is_bool, D_is_number, D_is_meeting, D_is_sequence, D_are_meetings, D_Day_init, D_Rule_word_of, D_Rule_down, D_Rule_up, D_Rule_joins, D_blocks_of, D_Rule_shown, D_show, D_are_hours, D_Rule_init, D_Llast_right, D_Llone_right, D_Lday_right, D_law]
def fn : List He.DefD := fn0
def fa0 : List He.Fa := [.free "abs", .free "all", .free "bool", .free "int", .free "isinstance", .free "len", .free "list", .free "max", .free "min", .free "range", .free "sorted", .free "str", .free "tuple", .glo "_law_seed", .glo "_law_choose", .glo "_law_one_of", .glo "is_integer", .glo "is_bool", .glo "is_number", .glo "is_meeting", .glo "is_sequence", .glo "are_meetings", .glo "Day", .glo "blocks_of", .glo "show", .glo "are_hours", .glo "Rule", .glo "_law_last_right", .glo "_law_lone_right", .glo "_law_day_right"]
def fa1 : List He.Fa := [.glo "WORDS", .glo "SORTS", .meth "Rule" "word_of", .meth "Rule" "down", .meth "Rule" "up", .meth "Rule" "joins", .meth "Rule" "shown", .mkr "Day", .mkr "Rule", .glo "law"]
def fa : List He.Fa := fa0 ++ fa1
def tps : List (Str × List He.Dv) := [("WORDS", [.str "busy", .str "private"]), ("SORTS", [.str "busy", .str "none", .str "apart", .str "one"])]
def ccs : List Nat := [5, 6]
def chk (K : PySem.W.Frag) : Bool := (fa.all fun f => f.ok K) && ((tps.all fun t => He.tupB K t.1 t.2) && (ccs.all fun c => cfB K (TB.cn c) (TB.fn c)))
abbrev R : PySem.W.OpenRow := PySem.W.OpenLaw.row PySem.Challenge.rw_dimdays_k16_showing_known
abbrev hk : PySem.W.Hook := hookM 5 chk fn
def ob (s : PySem.W.SharedT) : He.AlD := obsMG 5 chk fn (HandSHeadRun.getT s)
theorem ob_eq (s : PySem.W.SharedT) : ob s = hk.obs s.abs := obsMG_eq (HandSHeadRun.getT_eq s)
theorem run (w : World) : HandSHeadRun.RunEq R (PySem.W.view R.prog [38]) hk ob 60000 names w := by
  intro os
  kernel_rfl
theorem facts {K : PySem.W.Frag} {h : Heap} {mg : Str → Option Value} (X : K.In h) (G : h.Ns mainGlobals mg) (c : SaysM chk fn K) : Tx K mg := by
  obtain ⟨c1, c0⟩ := He.ba c.look
  obtain ⟨c2, c3⟩ := He.ba c0
  exact {
    n_abs := He.free_ok X G (all_at c1 (i := 0) (a := .free "abs") rfl),
    n_all := He.free_ok X G (all_at c1 (i := 1) (a := .free "all") rfl),
    n_bool := He.free_ok X G (all_at c1 (i := 2) (a := .free "bool") rfl),
    n_int := He.free_ok X G (all_at c1 (i := 3) (a := .free "int") rfl),
    n_isinstance := He.free_ok X G (all_at c1 (i := 4) (a := .free "isinstance") rfl),
    n_len := He.free_ok X G (all_at c1 (i := 5) (a := .free "len") rfl),
    n_list := He.free_ok X G (all_at c1 (i := 6) (a := .free "list") rfl),
    n_max := He.free_ok X G (all_at c1 (i := 7) (a := .free "max") rfl),
    n_min := He.free_ok X G (all_at c1 (i := 8) (a := .free "min") rfl),
    n_range := He.free_ok X G (all_at c1 (i := 9) (a := .free "range") rfl),
    n_sorted := He.free_ok X G (all_at c1 (i := 10) (a := .free "sorted") rfl),
    n_str := He.free_ok X G (all_at c1 (i := 11) (a := .free "str") rfl),
    n_tuple := He.free_ok X G (all_at c1 (i := 12) (a := .free "tuple") rfl),
    g_Lseed := He.glo_ok X G (all_at c1 (i := 13) (a := .glo "_law_seed") rfl),
    g_Lchoose := He.glo_ok X G (all_at c1 (i := 14) (a := .glo "_law_choose") rfl),
    g_Lone_of := He.glo_ok X G (all_at c1 (i := 15) (a := .glo "_law_one_of") rfl),
    g_is_integer := He.glo_ok X G (all_at c1 (i := 16) (a := .glo "is_integer") rfl),
    g_is_bool := He.glo_ok X G (all_at c1 (i := 17) (a := .glo "is_bool") rfl),
    g_is_number := He.glo_ok X G (all_at c1 (i := 18) (a := .glo "is_number") rfl),
    g_is_meeting := He.glo_ok X G (all_at c1 (i := 19) (a := .glo "is_meeting") rfl),
    g_is_sequence := He.glo_ok X G (all_at c1 (i := 20) (a := .glo "is_sequence") rfl),
    g_are_meetings := He.glo_ok X G (all_at c1 (i := 21) (a := .glo "are_meetings") rfl),
    g_Day := He.glo_ok X G (all_at c1 (i := 22) (a := .glo "Day") rfl),
    g_blocks_of := He.glo_ok X G (all_at c1 (i := 23) (a := .glo "blocks_of") rfl),
    g_show := He.glo_ok X G (all_at c1 (i := 24) (a := .glo "show") rfl),
    g_are_hours := He.glo_ok X G (all_at c1 (i := 25) (a := .glo "are_hours") rfl),
    g_Rule := He.glo_ok X G (all_at c1 (i := 26) (a := .glo "Rule") rfl),
    g_Llast_right := He.glo_ok X G (all_at c1 (i := 27) (a := .glo "_law_last_right") rfl),
    g_Llone_right := He.glo_ok X G (all_at c1 (i := 28) (a := .glo "_law_lone_right") rfl),
    g_Lday_right := He.glo_ok X G (all_at c1 (i := 29) (a := .glo "_law_day_right") rfl),
    c_WORDS := gk_tup X G (all_at c1 (i := 30) (a := .glo "WORDS") rfl) (all_at c2 (i := 0) rfl) (by kernel_rfl),
    c_SORTS := gk_tup X G (all_at c1 (i := 31) (a := .glo "SORTS") rfl) (all_at c2 (i := 1) rfl) (by kernel_rfl),
    k_Day := cf_of (all_at c3 (i := 0) (a := 5) rfl) (by decide +kernel) (by decide +kernel),
    k_Rule := cf_of (all_at c3 (i := 1) (a := 6) rfl) (by decide +kernel) (by decide +kernel),
    m_Rule_word_of := meth_of (all_at c1 (i := 32) (a := .meth "Rule" "word_of") rfl),
    m_Rule_down := meth_of (all_at c1 (i := 33) (a := .meth "Rule" "down") rfl),
    m_Rule_up := meth_of (all_at c1 (i := 34) (a := .meth "Rule" "up") rfl),
    m_Rule_joins := meth_of (all_at c1 (i := 35) (a := .meth "Rule" "joins") rfl),
    m_Rule_shown := meth_of (all_at c1 (i := 36) (a := .meth "Rule" "shown") rfl),
    mk_Day := mk_of (all_at c1 (i := 37) (a := .mkr "Day") rfl),
    mk_Rule := mk_of (all_at c1 (i := 38) (a := .mkr "Rule") rfl),
    d_Lseed := c.def_ 0 (d := D_Lseed) rfl,
    d_Lchoose := c.def_ 1 (d := D_Lchoose) rfl,
    d_Lone_of := c.def_ 2 (d := D_Lone_of) rfl,
    d_is_integer := c.def_ 3 (d := D_is_integer) rfl,
    d_is_bool := c.def_ 4 (d := D_is_bool) rfl,
    d_is_number := c.def_ 5 (d := D_is_number) rfl,
    d_is_meeting := c.def_ 6 (d := D_is_meeting) rfl,
    d_is_sequence := c.def_ 7 (d := D_is_sequence) rfl,
    d_are_meetings := c.def_ 8 (d := D_are_meetings) rfl,
    d_Day_init := c.def_ 9 (d := D_Day_init) rfl,
    d_Rule_word_of := c.def_ 10 (d := D_Rule_word_of) rfl,
    d_Rule_down := c.def_ 11 (d := D_Rule_down) rfl,
    d_Rule_up := c.def_ 12 (d := D_Rule_up) rfl,
    d_Rule_joins := c.def_ 13 (d := D_Rule_joins) rfl,
    d_blocks_of := c.def_ 14 (d := D_blocks_of) rfl,
    d_Rule_shown := c.def_ 15 (d := D_Rule_shown) rfl,
    d_show := c.def_ 16 (d := D_show) rfl,
    d_are_hours := c.def_ 17 (d := D_are_hours) rfl,
    d_Rule_init := c.def_ 18 (d := D_Rule_init) rfl,
    d_Llast_right := c.def_ 19 (d := D_Llast_right) rfl,
    d_Llone_right := c.def_ 20 (d := D_Llone_right) rfl,
    d_Lday_right := c.def_ 21 (d := D_Lday_right) rfl,
    d_law := c.def_ 22 (d := D_law) rfl }
theorem ends (ok : ∀ ns : List Int, ns.length ≤ 63 → (∀ z ∈ ns, Builtin.Int.intBits z ≤ 1048576) → ∃ h', f_law [] [.lst (ns.map Val.int)] = .ok (.bl true) h') : PySem.Challenge.rw_dimdays_k16_showing_known.Holds := by
  w_on; o_law
  refine HandSHeadRun.head_any (r := PySem.W.OpenLaw.row PySem.Challenge.rw_dimdays_k16_showing_known) (q := PySem.W.view (PySem.W.OpenLaw.row PySem.Challenge.rw_dimdays_k16_showing_known).prog [38]) (H := hk) (ob := ob) (M := 60000) (loose := names) (d := HandSHeadRun.topDef (PySem.W.OpenLaw.row PySem.Challenge.rw_dimdays_k16_showing_known).prog 38) (kwd := []) ob_eq
    (by kernel_rfl) (fun s => by kernel_rfl) run (by kernel_rfl) (by kernel_rfl) (by kernel_rfl) (by rfl) (by first | assumption | decide +kernel) (by decide +kernel) ⟨rfl, rfl, rfl, rfl, rfl, by decide +kernel⟩ ?hw ?hc
  case hw => w_witness2
  case hc =>
    refine law_end (l := PySem.Challenge.rw_dimdays_k16_showing_known) (k := 8) (T := TB) (fl := f_law) rfl (by kernel_rfl) ⟨rfl, by decide, by decide⟩ ?F ok
    intro w mg fa h Y G hmg0
    obtain ⟨K, KX, c⟩ := Y
    have hmg : mg ("law" : PySem.Str) = some (.ref fa) := by
      have e : (HandSHeadRun.topDef (PySem.W.OpenLaw.row PySem.Challenge.rw_dimdays_k16_showing_known).prog 38).name = ("law" : PySem.Str) := by kernel_rfl
      rw [← e]
      exact hmg0
    have T := facts KX G c
    obtain ⟨fd, FD⟩ := T.d_law
    have e := hmg.symm.trans (He.glo_ok KX G (all_at (He.ba c.look).1 (i := 39) (a := .glo "law") rfl))
    cases e
    exact ⟨K, fd, KX, fun s u => FD.bindsA (ps := ["_law_script"]) (fun _ _ _ _ _ _ us hl => match us, hl with | [_], _ => rfl) s [u] rfl, fun base _ _ => fo_law T FD⟩
end Law


namespace Law
open PySem Py
theorem seed_is : f_Lseed = seedF 40093 := rfl
theorem choose_is : f_Lchoose = chooseF := rfl
theorem one_is : f_Lone_of = oneF TB := rfl
def bodyA : Sx := (xSet 2 (xCallO TB f_Lseed [] (xCons (xVar 0) (xCons (xVar 1) xNil))))
def bodyB : Sx := (xPar 3 4 (xCons (xOp gMul (xC (.int 12)) (xCallB TB f_Lchoose [] (xCons (xVar 2) (xCons (xC (.int 3)) xNil)))) (xCons (xCallB TB f_Lone_of [] (xCons (xVar 2) (xCons (xLstF (xCons (xC (.int 1)) (xCons (xC (.int 2)) (xCons (xC (.int 3)) (xCons (xC (.int 4)) (xCons (xC (.int 6)) xNil)))))) xNil))) xNil)))
def bodyC : Sx := (xSeq (xIfS (xOr (xNot (xCallP TB f_Lday_right [] (xCons (xVar 3) xNil))) (xOr (xNot (xCallP TB f_Llone_right [] (xCons (xVar 3) xNil))) (xNot (xCallP TB f_Llast_right [] xNil))))
 (xRet (xC (.bl false)))
 xSkip)
 (xIfS (xOp gNe (xCallP TB f_show [] (xCons (xMakeP TB 6 f_Rule_init d_Rule_init_v4 (xCons (xVar 4) xNil)) (xCons (xMakeP TB 5 f_Day_init [] (xCons (xC (.int 48)) (xCons (xLstF (xCons (xTup (xCons (xVar 3) (xCons (xOp gAdd (xVar 3) (xC (.int 12))) (xCons (xC (.bl false)) xNil)))) xNil)) xNil))) xNil))) (xTup (xCons (xTup (xCons (xVar 3) (xCons (xOp gAdd (xVar 3) (xC (.int 12))) (xCons (xC (.str [98, 117, 115, 121])) xNil)))) xNil)))
 (xRet (xC (.bl false)))
 xSkip))
theorem stepA (l : List Int) (k : Nat) (x y z : Option Val) (h : Hh) : ∃ a b, bodyA [some (.lst (l.map Val.int)), some (.int k), x, y, z] h = .next [some (.lst (l.map Val.int)), some (.int k), some (.ref h.length), y, z] (h ++ [.lst [.int a, .int b]]) := by
  obtain ⟨a, b, e⟩ := callO_seed TB 40093 (by decide) l k h
  refine ⟨a, b, ?_⟩
  simp [bodyA, seed_is, xSet, xCallO, xCons, xVar, xNil, Res.bindL, ResL.bindL, ResL.bind, Res.bindS, e]
theorem stepB (x y z w : Option Val) (a b : Int) (h : Hh) : ∃ a' b' d e, (d = 0 ∨ d = 12 ∨ d = 24) ∧ (e = 1 ∨ e = 2 ∨ e = 3 ∨ e = 4 ∨ e = 6) ∧ bodyB [x, y, some (.ref h.length), z, w] (h ++ [.lst [.int a, .int b]]) = .next [x, y, some (.ref h.length), some (.int d), some (.int e)] (h ++ [.lst [.int a', .int b']]) := by
  have e1 := callB_choose TB a b 3 (by decide) (by decide) h.length (h ++ [.lst [.int a, .int b]]) (by simp)
  have q1 := cD_lo a b 3 (by decide)
  have q2 := cD_hi a b 3 (by decide)
  rw [set_last] at e1
  generalize cD a b 3 = d at *
  generalize cA a 3 = a1 at *
  generalize cB a b = b1 at *
  have q3 := cD_lo a1 b1 5 (by decide)
  have q4 := cD_hi a1 b1 5 (by decide)
  obtain ⟨n, hn, hv⟩ : ∃ n : Int, (n = 1 ∨ n = 2 ∨ n = 3 ∨ n = 4 ∨ n = 6) ∧ ([.int 1, .int 2, .int 3, .int 4, .int 6] : List Val)[(cD a1 b1 5).toNat]? = some (.int n) := by
    generalize cD a1 b1 5 = d at *
    rcases (by omega : d = 0 ∨ d = 1 ∨ d = 2 ∨ d = 3 ∨ d = 4) with q | q | q | q | q <;> subst q <;> simp
  have e2 := callB_one TB a1 b1 [.int 1, .int 2, .int 3, .int 4, .int 6] (.int n) rfl (by decide) (by decide) hv h.length (h ++ [.lst [.int a1, .int b1]]) (by simp)
  rw [set_last] at e2
  refine ⟨cA a1 5, cB a1 b1, 12 * d, n, by omega, hn, ?_⟩
  have e3 : xLstF (xCons (xC (.int 1)) (xCons (xC (.int 2)) (xCons (xC (.int 3)) (xCons (xC (.int 4)) (xCons (xC (.int 6)) xNil))))) = xC (.lst [.int 1, .int 2, .int 3, .int 4, .int 6]) := rfl
  rw [bodyB, choose_is, one_is, e3]
  simp [xPar, xCons, xOp, xC, xCallB, xVar, xNil, Res.bindL, ResL.bindL, ResL.bind, Res.bind, e1, e2, gIc, okMul, Res.ofO]
theorem stepC (x y z : Option Val) (d e : Int) (h : Hh) (o : Py.Obj) (hd : d = 0 ∨ d = 12 ∨ d = 24) (he : e = 1 ∨ e = 2 ∨ e = 3 ∨ e = 4 ∨ e = 6) : bodyC [x, y, z, some (.int d), some (.int e)] (o :: h) = .next [x, y, z, some (.int d), some (.int e)] (o :: h) := by
  rcases hd with q | q | q <;> subst q <;> rcases he with q | q | q | q | q <;> subst q <;> kernel_rfl
theorem cons_of (h : Hh) (x : Py.Obj) : ∃ o t, h ++ [x] = o :: t := by cases h with
  | nil => exact ⟨x, [], rfl⟩
  | cons o t => exact ⟨o, t ++ [x], rfl⟩
theorem law_says (ns : List Int) : ∃ h', f_law [] [.lst (ns.map Val.int)] = .ok (.bl true) h' := by
  refine law_loop (m := 3) (body := xSeq bodyA (xSeq bodyB bodyC)) (fun sg => ?_) fun k r h hr => ?_
  · refine ⟨(if (2 : Int) < if (ns.length : Int) < 4 then (ns.length : Int) else 4 then if (ns.length : Int) < 4 then (ns.length : Int) else 4 else 2), ?_, ?_⟩
    · simp [xCons, xC, xCB, xVar, xNil, gMax2, gMin2, gLen, lstOf, Res.bindL, ResL.bindL, ResL.bind, Res.ofP]
    · unfold small62; split <;> split <;> simp <;> omega
  · match r, hr with
    | [x, y, z], _ =>
      obtain ⟨a, b, e1⟩ := stepA ns k x y z h
      obtain ⟨a', b', d, e, hd, he, e2⟩ := stepB (some (.lst (ns.map Val.int))) (some (.int k)) y z a b h
      obtain ⟨o, t, e3⟩ := cons_of h (.lst [.int a', .int b'])
      refine ⟨[some (.ref h.length), some (.int d), some (.int e)], o :: t, ?_, rfl⟩
      rw [xSeq_n e1, xSeq_n e2, e3, stepC _ _ _ _ _ _ _ hd he]
end Law
theorem PySem.Challenge.cw_dimdays_k16_showing_known_holds : PySem.Challenge.rw_dimdays_k16_showing_known.Holds := by
  exact Law.ends fun ns _ _ => Law.law_says ns
