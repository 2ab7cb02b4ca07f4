import PyProof.Rows.All
import Wide.All
import OpenK.AllK
import Wide.FinOn
import HandS.Base
import HandS.Call
import HandS.List
import HandS.Comp
import HandS.Ends
import HandS.Dict
import HandS.Iter
import HandS.Text
import HandS.Exc
import HandS.Words
import HandS.Defaults
import HandS.HeadHook2
import KE.KDictKeyed
import HandS.ExcOwn
import HandS.CallSlots
import HandS.HeadEnd
import HandS.EndBits
import HandS.IsInst
import HandS.Property
import HandS.Star
import HandS.SortRule
import KE.KSortTupAny
import HandS.Head2
import HandS.TryOnly
import HandS.FStr
import HandS.TupAny
import HandS.More
import HandS.RaiseMore
import HandS.OwnEq
import KE.KCallOwn
import PyProof.InstNe
import HandS.Conv
import HandS.Style
import HandS.Deep
import HandS.ClsMeth
import HandS.DictComp
import KE.GoesEnum
import KE.GoesZip
import HandS.MakeKwOnly
import HandS.Strs
import HandS.Replace
import HandS.ReplaceLit
import HandS.ReplaceDef
import PyProof.ToksMono
import HandS.NoneIn
import HandS.SetFor
import KE.KDictCopyH
import KE.SortData
import PyProof.AutoSeq1
import PyProof.SliceList
import KE.KDictSum
import PySem.Challenge.RW_dimdays_k47_comparing_known
set_option Elab.async false
set_option linter.all false
set_option maxRecDepth 100000
set_option maxHeartbeats 4000000
namespace Py
open PySem PySem.Spec PyProof.Rows L2

/-! ### values, objects, results -/
inductive Val where
  | non | bl (b : Bool) | int (i : Int) | str (s : List Nat) | tup (xs : List Val) | lst (xs : List Val) | obj (c : Nat) (fs : List Val) | ref (k : Nat) | glo (g : Nat) | dct (ks vs : List Val)
inductive Obj where
  | lst (xs : List Val) | ins (c : Nat) (fs : List Val) | dct (ks vs : List Val)
abbrev Hh := List Obj
abbrev Sg := List (Option Val)
inductive Res where
  | ok (v : Val) (h : Hh) | exc (c : Nat) (fs : List Val) (h : Hh) | bad
inductive ResS where
  | next (sg : Sg) (h : Hh) | ret (v : Val) (h : Hh) | brk (sg : Sg) (h : Hh) | cont (sg : Sg) (h : Hh) | exc (c : Nat) (fs : List Val) (sg : Sg) (h : Hh) | bad
inductive ResG where
  | ok (sg : Sg) (h : Hh) | bad
inductive ResL where
  | ok (vs : List Val) (h : Hh) | exc (c : Nat) (fs : List Val) (h : Hh) | bad
abbrev Ex := Sg → Hh → Res
abbrev Sx := Sg → Hh → ResS
abbrev Gx := Val → Sg → Hh → ResG
abbrev Lx := Sg → Hh → ResL
def Res.bind : Res → (Val → Hh → Res) → Res
  | .ok v h, k => k v h
  | .exc c fs h, _ => .exc c fs h
  | .bad, _ => .bad
def Res.bindS (sg : Sg) : Res → (Val → Hh → ResS) → ResS
  | .ok v h, k => k v h
  | .exc c fs h, _ => .exc c fs sg h
  | .bad, _ => .bad
def Res.bindL : Res → (Val → Hh → ResL) → ResL
  | .ok v h, k => k v h
  | .exc c fs h, _ => .exc c fs h
  | .bad, _ => .bad
def ResL.bind : ResL → (List Val → Hh → Res) → Res
  | .ok v h, k => k v h
  | .exc c fs h, _ => .exc c fs h
  | .bad, _ => .bad
def ResL.bindL : ResL → (List Val → Hh → ResL) → ResL
  | .ok v h, k => k v h
  | .exc c fs h, _ => .exc c fs h
  | .bad, _ => .bad
def ResG.bindS : ResG → (Sg → Hh → ResS) → ResS
  | .ok sg h, k => k sg h
  | .bad, _ => .bad

/-- the names behind the numbers: classes, their fields, the module's names -/
structure Tb where
  cn : Nat → Str
  fn : Nat → List Str
  gn : Nat → Str
  P : Program
  w : World

/-! ### dicts: their keys, their entries -/
mutual
def nkV : Val → Option NestedKey
  | .non => some .none
  | .bl b => some (.num (if b = true then 1 else 0))
  | .int i => some (.num i)
  | .str s => some (.text ⟨s.toArray⟩)
  | .tup vs => (nkVs vs).map .tup
  | _ => none
def nkVs : List Val → Option (List NestedKey)
  | [] => some []
  | v :: vs => match nkV v, nkVs vs with
    | some a, some b => some (a :: b)
    | _, _ => none
end
def KeyT (k : Val) : Prop := ∃ l, nkV k = some (.tup l) ∧ (NestedKey.tup l).depth ≤ 8
def KeyL (k : Val) : Prop := (∃ i, k = .int i) ∨ ∃ s, k = .str s
def KeysOk (ks : List Val) : Prop := ((∀ k ∈ ks, KeyT k) ∨ (∀ k ∈ ks, KeyL k)) ∧ (ks.map nkV).Nodup
def hashV (w : World) (k : Val) : Int := match nkV k with
  | some n => n.hash w
  | none => 0
/-- the plain dict at d, by its entries -/
def DO (d : Addr) (es : Array DictEntry) (ep : Nat) : HO := .ext fun h => (d == sysModules) = false ∧ es.size ≤ sizeLine ∧ ∃ o, h.get? d = some o ∧ o.ExactDict ∧ o.data = .dict es ep
def Ents (w : World) : List DictEntry → List Val → List V → List V → Prop
  | [], [], [], [] => True
  | e :: es, k :: ks, x :: xs, y :: ys => (e.hash = hashV w k ∧ RelV x e.key ∧ RelV y e.val) ∧ Ents w es ks xs ys
  | _, _, _, _ => False
/-! ### values and the layer's values -/
mutual
inductive VR (T : Tb) (K : PySem.W.Frag) (io : Nat → Addr) (n : Nat) (F : Hp) : Val → V → Prop where
  | non : VR T K io n F .non .non
  | bl (b : Bool) : VR T K io n F (.bl b) (.bl b)
  | int (i : Int) : VR T K io n F (.int i) (.int i)
  | str (s : List Nat) : VR T K io n F (.str s) (.str ⟨s.toArray⟩)
  | ref (k : Nat) (h : k < n) : VR T K io n F (.ref k) (.ref (io k))
  | tup {vs : List Val} {a : Addr} {xs : List V} (h : SqT K F a xs) (r : VRs T K io n F vs xs) : VR T K io n F (.tup vs) (.ref a)
  | lst {vs : List Val} {a : Addr} {xs : List V} (h : SqL K F a xs) (r : VRs T K io n F vs xs) : VR T K io n F (.lst vs) (.ref a)
  | obj {c : Nat} {vs : List Val} {a dx : Addr} {xs : List V} (h : F a = some (.ins (He.ga K (T.cn c)) dx ((T.fn c).zip xs))) (hd : F dx = some (.own a)) (r : VRs T K io n F vs xs) (hl : xs.length = (T.fn c).length) : VR T K io n F (.obj c vs) (.ref a)
  | glo (g : Nat) : VR T K io n F (.glo g) (.ref (He.ga K (T.gn g)))
  | dct {ks vs : List Val} {a : Addr} {es : Array DictEntry} {ep : Nat} {xs ys : List V} (h : F a = some (DO a es ep)) (hk : KeysOk ks) (he : Ents T.w es.toList ks xs ys) (r1 : VRs T K io n F ks xs) (r2 : VRs T K io n F vs ys) : VR T K io n F (.dct ks vs) (.ref a)
inductive VRs (T : Tb) (K : PySem.W.Frag) (io : Nat → Addr) (n : Nat) (F : Hp) : List Val → List V → Prop where
  | nil : VRs T K io n F [] []
  | cons {v : Val} {x : V} {vs : List Val} {xs : List V} (h : VR T K io n F v x) (t : VRs T K io n F vs xs) : VRs T K io n F (v :: vs) (x :: xs)
end

section
variable {T : Tb} {K : PySem.W.Frag} {io io' : Nat → Addr} {n n' : Nat} {F F' H H' : Hp}
theorem sqT_mono (hF : ∀ b o, F b = some o → F' b = some o) {a : Addr} {xs : List V} (h : SqT K F a xs) : SqT K F' a xs := by
  rcases h with (h | ⟨o, h⟩) | h
  · exact .inl (.inl (hF _ _ h))
  · exact .inl (.inr ⟨o, hF _ _ h⟩)
  · exact .inr h
theorem sqL_mono (hF : ∀ b o, F b = some o → F' b = some o) {a : Addr} {xs : List V} (h : SqL K F a xs) : SqL K F' a xs := by
  rcases h with (h | ⟨o, h⟩) | h
  · exact .inl (.inl (hF _ _ h))
  · exact .inl (.inr ⟨o, hF _ _ h⟩)
  · exact .inr h
mutual
theorem VR.mono (hn : n ≤ n') (hi : ∀ k, k < n → io' k = io k) (hF : ∀ b o, F b = some o → F' b = some o) : ∀ {v : Val} {x : V}, VR T K io n F v x → VR T K io' n' F' v x
  | _, _, .non => .non
  | _, _, .bl b => .bl b
  | _, _, .int i => .int i
  | _, _, .str s => .str s
  | _, _, .ref k h => by rw [← hi k h]; exact .ref k (Nat.lt_of_lt_of_le h hn)
  | _, _, .tup h r => .tup (sqT_mono hF h) (VRs.mono hn hi hF r)
  | _, _, .lst h r => .lst (sqL_mono hF h) (VRs.mono hn hi hF r)
  | _, _, .obj h hd r hl => .obj (hF _ _ h) (hF _ _ hd) (VRs.mono hn hi hF r) hl
  | _, _, .glo g => .glo g
  | _, _, .dct h hk he r1 r2 => .dct (hF _ _ h) hk he (VRs.mono hn hi hF r1) (VRs.mono hn hi hF r2)
theorem VRs.mono (hn : n ≤ n') (hi : ∀ k, k < n → io' k = io k) (hF : ∀ b o, F b = some o → F' b = some o) : ∀ {v : List Val} {x : List V}, VRs T K io n F v x → VRs T K io' n' F' v x
  | _, _, .nil => .nil
  | _, _, .cons h t => .cons (VR.mono hn hi hF h) (VRs.mono hn hi hF t)
end
theorem VRs.length : ∀ {vs : List Val} {xs : List V}, VRs T K io n F vs xs → vs.length = xs.length
  | _, _, .nil => rfl
  | _, _, .cons _ t => congrArg Nat.succ (VRs.length t)
theorem VRs.append : ∀ {vs ws : List Val} {xs ys : List V}, VRs T K io n F vs xs → VRs T K io n F ws ys → VRs T K io n F (vs ++ ws) (xs ++ ys)
  | _, _, _, _, .nil, h => h
  | _, _, _, _, .cons a t, h => .cons a (VRs.append t h)
theorem VRs.get : ∀ {vs : List Val} {xs : List V} {i : Nat} {v : Val}, VRs T K io n F vs xs → vs[i]? = some v → ∃ x, xs[i]? = some x ∧ VR T K io n F v x
  | _, _, _, _, .nil, h => by simp at h
  | _, _, 0, _, .cons a t, h => by simp at h; subst h; exact ⟨_, rfl, a⟩
  | _, _, i + 1, v, .cons a t, h => by
    obtain ⟨x, e, r⟩ := VRs.get (i := i) (v := v) t (by simpa using h)
    exact ⟨x, by simpa using e, r⟩
theorem VRs.set {v : Val} {x : V} (r : VR T K io n F v x) : ∀ {vs : List Val} {xs : List V} (i : Nat), VRs T K io n F vs xs → VRs T K io n F (vs.set i v) (xs.set i x)
  | _, _, _, .nil => .nil
  | _, _, 0, .cons _ t => .cons r t
  | _, _, i + 1, .cons a t => .cons a (VRs.set r i t)
theorem VRs.take : ∀ {vs : List Val} {xs : List V} (i : Nat), VRs T K io n F vs xs → VRs T K io n F (vs.take i) (xs.take i)
  | _, _, 0, _ => .nil
  | _, _, _ + 1, .nil => .nil
  | _, _, i + 1, .cons a t => .cons a (VRs.take i t)
theorem VRs.drop : ∀ {vs : List Val} {xs : List V} (i : Nat), VRs T K io n F vs xs → VRs T K io n F (vs.drop i) (xs.drop i)
  | _, _, 0, h => h
  | _, _, _ + 1, .nil => .nil
  | _, _, i + 1, .cons a t => VRs.drop i t
end

/-! ### the mutable objects, the state -/
def OR (T : Tb) (K : PySem.W.Frag) (io : Nat → Addr) (n : Nat) (F H : Hp) (a : Addr) : Obj → Prop
  | .lst vs => ∃ xs, H a = some (.lst xs) ∧ VRs T K io n F vs xs
  | .dct ks vs => ∃ es ep xs ys, H a = some (DO a es ep) ∧ (ep = es.size ∧ KeysOk ks) ∧ Ents T.w es.toList ks xs ys ∧ VRs T K io n F ks xs ∧ VRs T K io n F vs ys
  | .ins c vs => ∃ dx xs, H a = some (.ins (He.ga K (T.cn c)) dx (((T.fn c).take vs.length).zip xs)) ∧ H dx = some (.own a) ∧ VRs T K io n F vs xs ∧ vs.length ≤ (T.fn c).length

structure SR (T : Tb) (K : PySem.W.Frag) (io : Nat → Addr) (h : Hh) (F H : Hp) : Prop where
  sub : ∀ b o, F b = some o → H b = some o
  dis : ∀ k, k < h.length → F (io k) = none
  inj : ∀ j k, j < h.length → k < h.length → io j = io k → j = k
  obj : ∀ k o, h[k]? = some o → OR T K io h.length F H (io k) o

structure Step (io : Nat → Addr) (n : Nat) (F H : Hp) (io' : Nat → Addr) (n' : Nat) (F' H' : Hp) : Prop where
  le : n ≤ n'
  eq : ∀ k, k < n → io' k = io k
  phi : ∀ b o, F b = some o → F' b = some o
  frame : ∀ b o, H b = some o → (∀ k, k < n → io k ≠ b) → H' b = some o
  new : ∀ k, n ≤ k → k < n' → H (io' k) = none
  fresh : ∀ b o, F' b = some o → F b = some o ∨ H b = none ∨ ∃ y, o = .own y

section
variable {T : Tb} {K : PySem.W.Frag} {io io1 io2 : Nat → Addr} {n n1 n2 : Nat} {F F1 F2 H H1 H2 : Hp} {h h1 h2 : Hh}
theorem OR.there {a : Addr} {o : Obj} (r : OR T K io n F H a o) : ∃ u, H a = some u := by
  cases o with
  | lst vs => obtain ⟨xs, e, _⟩ := r; exact ⟨_, e⟩
  | ins c vs => obtain ⟨dx, xs, e, _⟩ := r; exact ⟨_, e⟩
  | dct ks vs => obtain ⟨es, ep, xs, ys, e, _⟩ := r; exact ⟨_, e⟩
theorem SR.there (s : SR T K io h F H) {k : Nat} (hk : k < h.length) : ∃ u, H (io k) = some u := (s.obj k h[k] (by simp [hk])).there
theorem Step.refl : Step io n F H io n F H := ⟨Nat.le_refl _, fun _ _ => rfl, fun _ _ e => e, fun _ _ e _ => e, fun k a b => absurd b (Nat.not_lt.mpr a), fun _ _ e => .inl e⟩
theorem Step.trans (a : Step io n F H io1 h1.length F1 H1) (s : SR T K io1 h1 F1 H1) (b : Step io1 h1.length F1 H1 io2 n2 F2 H2) : Step io n F H io2 n2 F2 H2 where
  le := Nat.le_trans a.le b.le
  eq := fun k hk => (b.eq k (Nat.lt_of_lt_of_le hk a.le)).trans (a.eq k hk)
  phi := fun c o e => b.phi c o (a.phi c o e)
  frame := fun c o e hc => b.frame c o (a.frame c o e hc) fun k hk q => by
    by_cases hk' : k < n
    · exact hc k hk' ((a.eq k hk').symm.trans q)
    · have z := a.new k (by omega) hk
      rw [q, e] at z
      cases z
  new := fun k h1' h2' => by
    by_cases hk : k < h1.length
    · rw [b.eq k hk]; exact a.new k h1' hk
    · have z := b.new k (by omega) h2'
      cases q : H (io2 k) with
      | none => rfl
      | some o =>
        by_cases hc : ∀ j, j < n → io j ≠ io2 k
        · rw [a.frame _ o q hc] at z; cases z
        · exfalso
          apply hc
          intro j hj e
          obtain ⟨u, hu⟩ := s.there (k := j) (Nat.lt_of_lt_of_le hj a.le)
          rw [a.eq j hj, e, z] at hu
          cases hu
  fresh := fun c o e => by
    rcases b.fresh c o e with q | q | q
    · exact a.fresh c o q
    · refine .inr (.inl ?_)
      cases z : H c with
      | none => rfl
      | some u =>
        by_cases hc : ∀ j, j < n → io j ≠ c
        · rw [a.frame c u z hc] at q; cases q
        · exfalso
          apply hc
          intro j hj e2
          obtain ⟨u2, hu⟩ := s.there (k := j) (Nat.lt_of_lt_of_le hj a.le)
          rw [a.eq j hj, e2, q] at hu
          cases hu
    · exact .inr (.inr q)
theorem VR.step {v : Val} {x : V} (r : VR T K io n F v x) (a : Step io n F H io1 n1 F1 H1) : VR T K io1 n1 F1 v x := r.mono a.le a.eq a.phi
theorem VRs.step {v : List Val} {x : List V} (r : VRs T K io n F v x) (a : Step io n F H io1 n1 F1 H1) : VRs T K io1 n1 F1 v x := r.mono a.le a.eq a.phi
end

/-- slots -/
structure RSt (T : Tb) (K : PySem.W.Frag) (io : Nat → Addr) (n : Nat) (F : Hp) (sg : Sg) (σ : L2.St) : Prop where
  len : sg.length = σ.length
  at_ : ∀ (i : Nat) (v : Val), sg[i]? = some (some v) → ∃ x, σ[i]? = some (some x) ∧ VR T K io n F v x
section
variable {T : Tb} {K : PySem.W.Frag} {io io1 : Nat → Addr} {n n1 : Nat} {F F1 H H1 : Hp} {sg : Sg} {σ : L2.St}
theorem RSt.step (r : RSt T K io n F sg σ) (a : Step io n F H io1 n1 F1 H1) : RSt T K io1 n1 F1 sg σ :=
  ⟨r.len, fun i v e => let ⟨x, e1, e2⟩ := r.at_ i v e; ⟨x, e1, e2.step a⟩⟩
theorem RSt.set (r : RSt T K io n F sg σ) (i : Nat) {v : Val} {x : V} (q : VR T K io n F v x) : RSt T K io n F (sg.set i (some v)) (σ.set i (some x)) := by
  refine ⟨by simp [r.len], fun j w e => ?_⟩
  by_cases hj : i = j
  · subst hj
    by_cases hl : i < sg.length
    · rw [List.getElem?_set_self hl] at e
      obtain rfl : v = w := by simpa using e
      exact ⟨x, by rw [List.getElem?_set_self (by rw [← r.len]; exact hl)], q⟩
    · rw [List.getElem?_eq_none (by simpa using hl)] at e; cases e
  · rw [List.getElem?_set_ne hj] at e
    obtain ⟨y, e1, e2⟩ := r.at_ j w e
    exact ⟨y, by rw [List.getElem?_set_ne hj]; exact e1, e2⟩
end

/-! ### what is wanted of a result -/
/-- the exception as the layer has it -/
def XR (T : Tb) (K : PySem.W.Frag) (io : Nat → Addr) (n : Nat) (F H : Hp) (c : Nat) (fs : List Val) (d : Option Addr) : Prop :=
  match T.fn c with
  | [] => d = none ∧ fs = []
  | f => ∃ dd xs, d = some dd ∧ H dd = some (.xd (f.zip xs)) ∧ VRs T K io n F fs xs ∧ xs.length = f.length
abbrev KV1 := Val → (Nat → Addr) → Hh → Hp → Hp → Prop
structure Pt where
  T : Tb
  K : PySem.W.Frag
  io : Nat → Addr
  h : Hh
  F : Hp
  H : Hp
def WExc (T : Tb) (K : PySem.W.Frag) (io : Nat → Addr) (n : Nat) (F H : Hp) (c : Nat) (fs : List Val) (h' : Hh) (W : XK) : Prop :=
  ∀ io' F' H' d, Step io n F H io' h'.length F' H' → SR T K io' h' F' H' → XR T K io' h'.length F' H' c fs d → W (.ref (He.ga K (T.cn c))) d H'
def Wants (T : Tb) (K : PySem.W.Frag) (io : Nat → Addr) (n : Nat) (F H : Hp) (W : XK) (Q : VK) : Res → Prop
  | .ok v h' => ∀ io' F' H' x, Step io n F H io' h'.length F' H' → SR T K io' h' F' H' → VR T K io' h'.length F' v x → Q x H'
  | .exc c fs h' => WExc T K io n F H c fs h' W
  | .bad => False
def WantsL (T : Tb) (K : PySem.W.Frag) (io : Nat → Addr) (n : Nat) (F H : Hp) (W : XK) (Q : List V → Hp → Prop) : ResL → Prop
  | .ok v h' => ∀ io' F' H' x, Step io n F H io' h'.length F' H' → SR T K io' h' F' H' → VRs T K io' h'.length F' v x → Q x H'
  | .exc c fs h' => WExc T K io n F H c fs h' W
  | .bad => False
def WantsB (T : Tb) (K : PySem.W.Frag) (io : Nat → Addr) (n : Nat) (F H : Hp) (W : XK) (Q : Bool → Hp → Prop) : Res → Prop
  | .ok (.bl b) h' => ∀ io' F' H', Step io n F H io' h'.length F' H' → SR T K io' h' F' H' → Q b H'
  | .exc c fs h' => WExc T K io n F H c fs h' W
  | _ => False
def WantsG (T : Tb) (K : PySem.W.Frag) (io : Nat → Addr) (n : Nat) (F H : Hp) (Q : L2.St → Hp → Prop) : ResG → Prop
  | .ok sg' h' => ∀ io' F' H' σ', Step io n F H io' h'.length F' H' → SR T K io' h' F' H' → RSt T K io' h'.length F' sg' σ' → Q σ' H'
  | .bad => False
def WantsS (T : Tb) (K : PySem.W.Frag) (io : Nat → Addr) (n : Nat) (F H : Hp) (W : WX) (D : Ends) : ResS → Prop
  | .next sg' h' => ∀ io' F' H' σ', Step io n F H io' h'.length F' H' → SR T K io' h' F' H' → RSt T K io' h'.length F' sg' σ' → D.nx σ' H'
  | .brk sg' h' => ∀ io' F' H' σ', Step io n F H io' h'.length F' H' → SR T K io' h' F' H' → RSt T K io' h'.length F' sg' σ' → D.bk σ' H'
  | .cont sg' h' => ∀ io' F' H' σ', Step io n F H io' h'.length F' H' → SR T K io' h' F' H' → RSt T K io' h'.length F' sg' σ' → D.ct σ' H'
  | .ret v h' => ∀ io' F' H' x, Step io n F H io' h'.length F' H' → SR T K io' h' F' H' → VR T K io' h'.length F' v x → D.rt x H'
  | .exc c fs sg' h' => ∀ io' F' H' σ' d, Step io n F H io' h'.length F' H' → SR T K io' h' F' H' → RSt T K io' h'.length F' sg' σ' → XR T K io' h'.length F' H' c fs d → W (.ref (He.ga K (T.cn c))) d σ' H'
  | .bad => False

/-! ### the readings -/
def tE (T : Tb) (K : PySem.W.Frag) (W : WX) (f : Ex) : TE := fun σ H Q => ∃ io h F sg, SR T K io h F H ∧ RSt T K io h.length F sg σ ∧ Wants T K io h.length F H (fun c d H' => W c d σ H') Q (f sg h)
def tL (T : Tb) (K : PySem.W.Frag) (W : WX) (f : Lx) : TA := fun σ H Q => ∃ io h F sg, SR T K io h F H ∧ RSt T K io h.length F sg σ ∧ WantsL T K io h.length F H (fun c d H' => W c d σ H') Q (f sg h)
def tB1 (T : Tb) (K : PySem.W.Frag) (W : WX) (f : Ex) : TT := fun σ H Q => ∃ io h F sg, SR T K io h F H ∧ RSt T K io h.length F sg σ ∧ WantsB T K io h.length F H (fun c d H' => W c d σ H') Q (f sg h)
def tS (T : Tb) (K : PySem.W.Frag) (W : WX) (f : Sx) : TS := fun D σ H => ∃ io h F sg, SR T K io h F H ∧ RSt T K io h.length F sg σ ∧ WantsS T K io h.length F H W D (f sg h)
def tG1 (T : Tb) (K : PySem.W.Frag) (g : Gx) : TG := fun x σ H Q => ∃ io h F sg v, SR T K io h F H ∧ RSt T K io h.length F sg σ ∧ VR T K io h.length F v x ∧ WantsG T K io h.length F H Q (g v sg h)

theorem pe_imp {X : Cx} {e : Expr} {t t' : TE} (h : PE X e t) (i : ∀ σ H Q, t' σ H Q → t σ H Q) : PE X e t' := ⟨fun pins s σ H Q I q => h.run pins s σ H Q I (i σ H Q q)⟩
theorem pt_imp {X : Cx} {e : Expr} {t t' : TT} (h : PT X e t) (i : ∀ σ H Q, t' σ H Q → t σ H Q) : PT X e t' := ⟨fun pins s σ H Q I q => h.run pins s σ H Q I (i σ H Q q)⟩
theorem pw_imp {X : Cx} {e : Expr} {t t' : TT} (h : PW X e t) (i : ∀ σ H Q, t' σ H Q → t σ H Q) : PW X e t' := ⟨fun wh pins s σ H Q I q => h.run wh pins s σ H Q I (i σ H Q q)⟩
theorem pa_imp {X : Cx} {e : List Expr} {t t' : TA} (h : PA X e t) (i : ∀ σ H Q, t' σ H Q → t σ H Q) : PA X e t' := ⟨fun pos pins s σ H Q I q => h.run pos pins s σ H Q I (i σ H Q q)⟩
theorem ps_imp {X : Cx} {e : Stmt} {t t' : TS} (h : PS X e t) (i : ∀ D σ H, t' D σ H → t D σ H) : PS X e t' := ⟨fun pins s σ H Q I q => h.run pins s σ H Q I (i Q σ H q)⟩
theorem pss_imp {X : Cx} {e : List Stmt} {t t' : TS} (h : PSs X e t) (i : ∀ D σ H, t' D σ H → t D σ H) : PSs X e t' := ⟨fun pins s σ H Q I q => h.run pins s σ H Q I (i Q σ H q)⟩
theorem pg_imp {X : Cx} {e : Expr} {t t' : TG} (h : PG X e t) (i : ∀ x σ H Q, t' x σ H Q → t x σ H Q) : PG X e t' := ⟨fun pins s σ H v u Q I r q => h.run pins s σ H v u Q I r (i v σ H Q q)⟩
end Py

namespace Py
open PySem PySem.Spec PyProof.Rows L2

abbrev JE (T : Tb) (X : Cx) (W : WX) (e : Expr) (f : Ex) : Prop := PE X e (tE T X.K W f)
abbrev JT (T : Tb) (X : Cx) (W : WX) (e : Expr) (f : Ex) : Prop := PT X e (tB1 T X.K W f)
abbrev JW (T : Tb) (X : Cx) (W : WX) (e : Expr) (f : Ex) : Prop := PW X e (tB1 T X.K W f)
abbrev JA (T : Tb) (X : Cx) (W : WX) (e : List Expr) (f : Lx) : Prop := PA X e (tL T X.K W f)
abbrev JS (T : Tb) (X : Cx) (W : WX) (e : Stmt) (f : Sx) : Prop := PS X e (tS T X.K W f)
abbrev JSs (T : Tb) (X : Cx) (W : WX) (e : List Stmt) (f : Sx) : Prop := PSs X e (tS T X.K W f)
abbrev JG (T : Tb) (X : Cx) (e : Expr) (g : Gx) : Prop := PG X e (tG1 T X.K g)

section
variable {T : Tb} {K : PySem.W.Frag} {io io1 io2 : Nat → Addr} {n n1 n2 : Nat} {F F1 F2 H H1 H2 : Hp} {h h1 h2 : Hh} {W : XK} {Q : VK}
theorem WExc.rebase {c : Nat} {fs : List Val} {h' : Hh} (w : WExc T K io n F H c fs h' W) (a : Step io n F H io1 h1.length F1 H1) (s : SR T K io1 h1 F1 H1) : WExc T K io1 h1.length F1 H1 c fs h' W :=
  fun io' F' H' d st sr xr => w io' F' H' d (a.trans s st) sr xr
theorem Wants.rebase {r : Res} (w : Wants T K io n F H W Q r) (a : Step io n F H io1 h1.length F1 H1) (s : SR T K io1 h1 F1 H1) : Wants T K io1 h1.length F1 H1 W Q r := by
  cases r with
  | ok v h' => exact fun io' F' H' x st sr vr => w io' F' H' x (a.trans s st) sr vr
  | exc c fs h' => exact WExc.rebase w a s
  | bad => exact w
theorem WantsL.rebase {Q : List V → Hp → Prop} {r : ResL} (w : WantsL T K io n F H W Q r) (a : Step io n F H io1 h1.length F1 H1) (s : SR T K io1 h1 F1 H1) : WantsL T K io1 h1.length F1 H1 W Q r := by
  cases r with
  | ok v h' => exact fun io' F' H' x st sr vr => w io' F' H' x (a.trans s st) sr vr
  | exc c fs h' => exact WExc.rebase w a s
  | bad => exact w
theorem WantsB.rebase {Q : Bool → Hp → Prop} {r : Res} (w : WantsB T K io n F H W Q r) (a : Step io n F H io1 h1.length F1 H1) (s : SR T K io1 h1 F1 H1) : WantsB T K io1 h1.length F1 H1 W Q r := by
  cases r with
  | ok v h' => cases v with
    | bl b => exact fun io' F' H' st sr => w io' F' H' (a.trans s st) sr
    | _ => exact w
  | exc c fs h' => exact WExc.rebase w a s
  | bad => exact w
theorem WantsG.rebase {Q : L2.St → Hp → Prop} {r : ResG} (w : WantsG T K io n F H Q r) (a : Step io n F H io1 h1.length F1 H1) (s : SR T K io1 h1 F1 H1) : WantsG T K io1 h1.length F1 H1 Q r := by
  cases r with
  | ok v h' => exact fun io' F' H' x st sr vr => w io' F' H' x (a.trans s st) sr vr
  | bad => exact w
theorem WantsS.rebase {W : WX} {D : Ends} {r : ResS} (w : WantsS T K io n F H W D r) (a : Step io n F H io1 h1.length F1 H1) (s : SR T K io1 h1 F1 H1) : WantsS T K io1 h1.length F1 H1 W D r := by
  cases r with
  | next v h' => exact fun io' F' H' x st sr vr => w io' F' H' x (a.trans s st) sr vr
  | brk v h' => exact fun io' F' H' x st sr vr => w io' F' H' x (a.trans s st) sr vr
  | cont v h' => exact fun io' F' H' x st sr vr => w io' F' H' x (a.trans s st) sr vr
  | ret v h' => exact fun io' F' H' x st sr vr => w io' F' H' x (a.trans s st) sr vr
  | exc c fs sg h' => exact fun io' F' H' x d st sr rs xr => w io' F' H' x d (a.trans s st) sr rs xr
  | bad => exact w
/-- from a bind: to the first part -/
theorem Wants.bind {R : VK} {r : Res} {k : Val → Hh → Res} (w : Wants T K io n F H W Q (r.bind k))
    (hk : ∀ v h1 io1 F1 H1 x, Step io n F H io1 h1.length F1 H1 → SR T K io1 h1 F1 H1 → VR T K io1 h1.length F1 v x → Wants T K io1 h1.length F1 H1 W Q (k v h1) → R x H1) : Wants T K io n F H W R r := by
  cases r with
  | ok v h1 => exact fun io1 F1 H1 x st sr vr => hk v h1 io1 F1 H1 x st sr vr (Wants.rebase w st sr)
  | exc c fs h' => exact w
  | bad => exact w
theorem WantsL.ofBind {R : VK} {Q : List V → Hp → Prop} {r : Res} {k : Val → Hh → ResL} (w : WantsL T K io n F H W Q (r.bindL k))
    (hk : ∀ v h1 io1 F1 H1 x, Step io n F H io1 h1.length F1 H1 → SR T K io1 h1 F1 H1 → VR T K io1 h1.length F1 v x → WantsL T K io1 h1.length F1 H1 W Q (k v h1) → R x H1) : Wants T K io n F H W R r := by
  cases r with
  | ok v h1 => exact fun io1 F1 H1 x st sr vr => hk v h1 io1 F1 H1 x st sr vr (WantsL.rebase w st sr)
  | exc c fs h' => exact w
  | bad => exact w
theorem WantsL.bindL {R Q : List V → Hp → Prop} {r : ResL} {k : List Val → Hh → ResL} (w : WantsL T K io n F H W Q (r.bindL k))
    (hk : ∀ v h1 io1 F1 H1 x, Step io n F H io1 h1.length F1 H1 → SR T K io1 h1 F1 H1 → VRs T K io1 h1.length F1 v x → WantsL T K io1 h1.length F1 H1 W Q (k v h1) → R x H1) : WantsL T K io n F H W R r := by
  cases r with
  | ok v h1 => exact fun io1 F1 H1 x st sr vr => hk v h1 io1 F1 H1 x st sr vr (WantsL.rebase w st sr)
  | exc c fs h' => exact w
  | bad => exact w
theorem Wants.bindOfL {R : List V → Hp → Prop} {r : ResL} {k : List Val → Hh → Res} (w : Wants T K io n F H W Q (r.bind k))
    (hk : ∀ v h1 io1 F1 H1 x, Step io n F H io1 h1.length F1 H1 → SR T K io1 h1 F1 H1 → VRs T K io1 h1.length F1 v x → Wants T K io1 h1.length F1 H1 W Q (k v h1) → R x H1) : WantsL T K io n F H W R r := by
  cases r with
  | ok v h1 => exact fun io1 F1 H1 x st sr vr => hk v h1 io1 F1 H1 x st sr vr (Wants.rebase w st sr)
  | exc c fs h' => exact w
  | bad => exact w
theorem WantsB.bind {R : VK} {Q : Bool → Hp → Prop} {r : Res} {k : Val → Hh → Res} (w : WantsB T K io n F H W Q (r.bind k))
    (hk : ∀ v h1 io1 F1 H1 x, Step io n F H io1 h1.length F1 H1 → SR T K io1 h1 F1 H1 → VR T K io1 h1.length F1 v x → WantsB T K io1 h1.length F1 H1 W Q (k v h1) → R x H1) : Wants T K io n F H W R r := by
  cases r with
  | ok v h1 => exact fun io1 F1 H1 x st sr vr => hk v h1 io1 F1 H1 x st sr vr (WantsB.rebase w st sr)
  | exc c fs h' => exact w
  | bad => exact w
end

/-- the truth of a result's bool -/
def Res.test (r : Res) (a b : Hh → Res) : Res := match r with
  | .ok (.bl true) h => a h
  | .ok (.bl false) h => b h
  | .ok _ _ => .bad
  | .exc c fs h => .exc c fs h
  | .bad => .bad
def Res.testS (sg : Sg) (r : Res) (a b : Hh → ResS) : ResS := match r with
  | .ok (.bl true) h => a h
  | .ok (.bl false) h => b h
  | .ok _ _ => .bad
  | .exc c fs h => .exc c fs sg h
  | .bad => .bad
section
variable {T : Tb} {K : PySem.W.Frag} {io io1 io2 : Nat → Addr} {n n1 n2 : Nat} {F F1 F2 H H1 H2 : Hp} {h h1 h2 : Hh} {W : XK} {Q : VK}
theorem Wants.test {R : Bool → Hp → Prop} {r : Res} {a b : Hh → Res} (w : Wants T K io n F H W Q (r.test a b))
    (hk : ∀ v h1 io1 F1 H1, Step io n F H io1 h1.length F1 H1 → SR T K io1 h1 F1 H1 → Wants T K io1 h1.length F1 H1 W Q (if v = true then a h1 else b h1) → R v H1) : WantsB T K io n F H W R r := by
  cases r with
  | ok v h1 => cases v with
    | bl v =>
      cases v with
      | true => exact fun io1 F1 H1 st sr => hk true h1 io1 F1 H1 st sr (Wants.rebase w st sr)
      | false => exact fun io1 F1 H1 st sr => hk false h1 io1 F1 H1 st sr (Wants.rebase w st sr)
    | _ => exact w
  | exc c fs h' => exact w
  | bad => exact w
theorem WantsB.test {R Q : Bool → Hp → Prop} {r : Res} {a b : Hh → Res} (w : WantsB T K io n F H W Q (r.test a b))
    (hk : ∀ v h1 io1 F1 H1, Step io n F H io1 h1.length F1 H1 → SR T K io1 h1 F1 H1 → WantsB T K io1 h1.length F1 H1 W Q (if v = true then a h1 else b h1) → R v H1) : WantsB T K io n F H W R r := by
  cases r with
  | ok v h1 => cases v with
    | bl v =>
      cases v with
      | true => exact fun io1 F1 H1 st sr => hk true h1 io1 F1 H1 st sr (WantsB.rebase w st sr)
      | false => exact fun io1 F1 H1 st sr => hk false h1 io1 F1 H1 st sr (WantsB.rebase w st sr)
    | _ => exact w
  | exc c fs h' => exact w
  | bad => exact w
end

/-! ### the state: allocations -/
section
variable {T : Tb} {K : PySem.W.Frag} {io : Nat → Addr} {F H : Hp} {h : Hh} {p : Addr} {o : HO}
theorem SR.none_of (s : SR T K io h F H) (hp : H p = none) : F p = none := by
  cases q : F p with
  | none => rfl
  | some u => rw [s.sub p u q] at hp; cases hp
theorem upd_sub (F : Hp) (hp : F p = none) : ∀ b u, F b = some u → upd F p o b = some u := fun b u e => by
  rw [upd_ne (ne_of_none e hp)]; exact e
theorem OR.mono {io io' : Nat → Addr} {n n' : Nat} {F F' H H' : Hp} (hn : n ≤ n') (hi : ∀ k, k < n → io' k = io k) (hF : ∀ b o, F b = some o → F' b = some o) (hH : ∀ b o, H b = some o → H' b = some o) {a : Addr} {ob : Obj} (r : OR T K io n F H a ob) : OR T K io' n' F' H' a ob := by
  cases ob with
  | lst vs => obtain ⟨xs, e, r⟩ := r; exact ⟨xs, hH _ _ e, r.mono hn hi hF⟩
  | ins c vs => obtain ⟨dx, xs, e, d, r, l⟩ := r; exact ⟨dx, xs, hH _ _ e, hH _ _ d, r.mono hn hi hF, l⟩
  | dct ks vs => obtain ⟨es, ep, xs, ys, e, hk, he, r1, r2⟩ := r; exact ⟨es, ep, xs, ys, hH _ _ e, hk, he, r1.mono hn hi hF, r2.mono hn hi hF⟩
/-- a new thing that never changes -/
theorem SR.alloc (s : SR T K io h F H) (hp : H p = none) (o : HO) : SR T K io h (upd F p o) (upd H p o) := by
  have fp := s.none_of hp
  refine ⟨fun b u e => ?_, fun k hk => ?_, s.inj, fun k ob e => (s.obj k ob e).mono (Nat.le_refl _) (fun _ _ => rfl) (upd_sub F fp) (upd_sub H hp)⟩
  · by_cases hb : b = p
    · subst hb; rw [upd_same] at e ⊢; exact e
    · rw [upd_ne hb] at e ⊢; exact s.sub b u e
  · obtain ⟨u, e⟩ := s.there hk
    rw [upd_ne (ne_of_none e hp)]; exact s.dis k hk
theorem SR.allocStep (s : SR T K io h F H) (hp : H p = none) (o : HO) : Step io h.length F H io h.length (upd F p o) (upd H p o) :=
  ⟨Nat.le_refl _, fun _ _ => rfl, upd_sub F (s.none_of hp), fun b u e _ => upd_sub H hp b u e, fun k a b => absurd b (Nat.not_lt.mpr a), fun b u e => by
    by_cases hb : b = p
    · subst hb; exact .inr (.inl hp)
    · rw [upd_ne hb] at e; exact .inl e⟩
/-- a new thing that nobody names -/
theorem SR.garb (s : SR T K io h F H) (hp : H p = none) (o : HO) : SR T K io h F (upd H p o) :=
  ⟨fun b u e => upd_sub H hp b u (s.sub b u e), s.dis, s.inj, fun k ob e => (s.obj k ob e).mono (Nat.le_refl _) (fun _ _ => rfl) (fun _ _ e => e) (upd_sub H hp)⟩
theorem SR.garbStep (s : SR T K io h F H) (hp : H p = none) (o : HO) : Step io h.length F H io h.length F (upd H p o) :=
  ⟨Nat.le_refl _, fun _ _ => rfl, fun _ _ e => e, fun b u e _ => upd_sub H hp b u e, fun k a b => absurd b (Nat.not_lt.mpr a), fun _ _ e => .inl e⟩
/-- a new mutable object -/
def ioPush (io : Nat → Addr) (n : Nat) (p : Addr) : Nat → Addr := fun k => if k = n then p else io k
theorem ioPush_lt (io : Nat → Addr) (p : Addr) {n k : Nat} (hk : k < n) : ioPush io n p k = io k := by unfold ioPush; rw [if_neg (Nat.ne_of_lt hk)]
theorem ioPush_at (io : Nat → Addr) (p : Addr) (n : Nat) : ioPush io n p n = p := by unfold ioPush; rw [if_pos rfl]
theorem SR.push (s : SR T K io h F H) (hp : H p = none) {H' : Hp} {ob : Obj} (hH : ∀ b u, H b = some u → H' b = some u) (new : OR T K (ioPush io h.length p) (h.length + 1) F H' p ob) : SR T K (ioPush io h.length p) (h ++ [ob]) F H' := by
  have nek : ∀ k, k < h.length → io k ≠ p := fun k hk => by obtain ⟨u, e⟩ := s.there hk; exact ne_of_none e hp
  have len : (h ++ [ob]).length = h.length + 1 := by simp
  refine ⟨fun b u e => hH b u (s.sub b u e), fun k hk => ?_, fun j k hj hk e => ?_, fun k o e => ?_⟩
  · rw [len] at hk
    by_cases q : k = h.length
    · subst q; rw [ioPush_at]; exact s.none_of hp
    · rw [ioPush_lt io p (by omega)]; exact s.dis k (by omega)
  · rw [len] at hj hk
    by_cases qj : j = h.length
    · by_cases qk : k = h.length
      · rw [qj, qk]
      · rw [qj, ioPush_at, ioPush_lt io p (by omega)] at e; exact absurd e.symm (nek k (by omega))
    · by_cases qk : k = h.length
      · rw [qk, ioPush_at, ioPush_lt io p (by omega)] at e; exact absurd e (nek j (by omega))
      · rw [ioPush_lt io p (by omega), ioPush_lt io p (by omega)] at e; exact s.inj j k (by omega) (by omega) e
  · rw [len]
    by_cases q : k < h.length
    · rw [List.getElem?_append_left q] at e
      rw [ioPush_lt io p q]
      exact (s.obj k o e).mono (Nat.le_succ _) (fun j hj => ioPush_lt io p hj) (fun _ _ e => e) hH
    · rw [List.getElem?_append_right (by omega)] at e
      by_cases q2 : k = h.length
      · subst q2
        simp at e
        subst e
        rw [ioPush_at]; exact new
      · rw [List.getElem?_eq_none (by simp; omega)] at e; cases e
theorem SR.pushStep (s : SR T K io h F H) (hp : H p = none) {H' : Hp} {ob : Obj} (hH : ∀ b u, H b = some u → H' b = some u) : Step io h.length F H (ioPush io h.length p) (h ++ [ob]).length F H' := by
  refine ⟨by simp, fun k hk => ioPush_lt io p hk, fun _ _ e => e, fun b u e _ => hH b u e, fun k a b => ?_, fun _ _ e => .inl e⟩
  have : k = h.length := by simp at b; omega
  subst this
  rw [ioPush_at]; exact hp
/-- a mutable object changed -/
theorem SR.write (s : SR T K io h F H) {k : Nat} (hk : k < h.length) {o' : HO} {ob : Obj} (hno : ∀ y, H (io k) ≠ some (.own y)) (new : OR T K io h.length F (upd H (io k) o') (io k) ob) : SR T K io (h.set k ob) F (upd H (io k) o') := by
  have len : (h.set k ob).length = h.length := by simp
  refine ⟨fun b u e => ?_, fun j hj => s.dis j (by rwa [len] at hj), fun i j hi hj e => s.inj i j (by rwa [len] at hi) (by rwa [len] at hj) e, fun j o e => ?_⟩
  · have : b ≠ io k := fun z => by rw [z, s.dis k hk] at e; cases e
    rw [upd_ne this]; exact s.sub b u e
  · rw [len]
    by_cases q : k = j
    · subst q
      rw [List.getElem?_set_self hk] at e
      cases e; exact new
    · rw [List.getElem?_set_ne q] at e
      have hj : j < h.length := (List.getElem?_eq_some_iff.mp e).1
      have ne : io j ≠ io k := fun z => q (s.inj k j hk hj z.symm)
      have r := s.obj j o e
      cases o with
      | lst vs => obtain ⟨xs, e1, r⟩ := r; exact ⟨xs, by rw [upd_ne ne]; exact e1, r⟩
      | dct ks vs => obtain ⟨es, ep, xs, ys, e1, r⟩ := r; exact ⟨es, ep, xs, ys, by rw [upd_ne ne]; exact e1, r⟩
      | ins c vs =>
        obtain ⟨dx, xs, e1, d, r, l⟩ := r
        exact ⟨dx, xs, by rw [upd_ne ne]; exact e1, by rw [upd_ne (fun z => hno _ (z ▸ d))]; exact d, r, l⟩
theorem SR.writeStep (s : SR T K io h F H) {k : Nat} (hk : k < h.length) {o' : HO} {ob : Obj} : Step io h.length F H io (h.set k ob).length F (upd H (io k) o') := by
  refine ⟨by simp, fun _ _ => rfl, fun _ _ e => e, fun b u e hb => ?_, fun j a b => absurd (by simpa using b) (Nat.not_lt.mpr a), fun _ _ e => .inl e⟩
  rw [upd_ne (fun z => hb k hk z.symm)]; exact e
end

/-! ### expressions: names, constants -/
def xVar (i : Nat) : Ex := fun sg h => match sg[i]? with
  | some (some v) => .ok v h
  | _ => .bad
def xC (v : Val) : Ex := fun _ h => .ok v h
section
variable {T : Tb} {X : Cx} {W : WX}
theorem je_var (i : Nat) {x : Str} {pos : Pos} (hN : X.N[i]? = some x := by rfl) (hv : Vis X.env.scope x := by first | exact Or.inl rfl | exact Or.inr (Or.inl rfl) | exact Or.inr (Or.inr rfl)) (hd : (x == ("__debug__" : Str)) = false := by decide)
    (hcd : (x == ("__classdict__" : Str)) = false := by decide) : JE T X W (.Name x pos) (xVar i) := by
  refine pe_imp (pe_var hN hv hd hcd) fun σ H Q ⟨io, h, F, sg, sr, rs, w⟩ => ?_
  unfold xVar at w
  cases e : sg[i]? with
  | none => rw [e] at w; exact w.elim
  | some o =>
    cases o with
    | none => rw [e] at w; exact w.elim
    | some v =>
      rw [e] at w
      obtain ⟨x', e1, r⟩ := rs.at_ i v e
      exact ⟨x', e1, w io F H x' .refl sr r⟩
theorem je_int {i j pos} : JE T X W (.Constant (.int i) j pos) (xC (.int i)) := pe_imp pe_int fun σ H Q ⟨io, h, F, sg, sr, rs, w⟩ => w io F H _ .refl sr (.int i)
theorem je_bl {i j pos} : JE T X W (.Constant (.bool i) j pos) (xC (.bl i)) := pe_imp pe_bl fun σ H Q ⟨io, h, F, sg, sr, rs, w⟩ => w io F H _ .refl sr (.bl i)
theorem je_non {j pos} : JE T X W (.Constant .none j pos) (xC .non) := pe_imp pe_non fun σ H Q ⟨io, h, F, sg, sr, rs, w⟩ => w io F H _ .refl sr .non
theorem je_str (s : List Nat) {x : Str} {j pos} (hx : x = ⟨s.toArray⟩ := by decide +kernel) : JE T X W (.Constant (.str x) j pos) (xC (.str s)) := by
  subst hx
  exact pe_imp pe_str fun σ H Q ⟨io, h, F, sg, sr, rs, w⟩ => w io F H _ .refl sr (.str s)
/-- a constant of the module: a def, a class, a number, a text, a tuple of them -/
def GV (T : Tb) (X : Cx) (x : Str) (v : Val) : Prop := ∃ (u : Value) (y : V), X.mg x = some u ∧ RelV y u ∧ ∀ io n F, VR T X.K io n F v y
theorem je_glob {x : Str} {v : Val} {pos : Pos} (hg : Gl X x) (g : GV T X x v) (hd : (x == ("__debug__" : Str)) = false := by decide) : JE T X W (.Name x pos) (xC v) := by
  obtain ⟨u, y, hm, r, q⟩ := g
  exact pe_imp (pe_glob hg hm r hd) fun σ H Q ⟨io, h, F, sg, sr, rs, w⟩ => w io F H _ .refl sr (q io h.length F)

/-! ### operators -/
/-- an operation on two values, of which r is the layer's rule -/
abbrev G2 := Hh → Val → Val → Option Val
def Lift2 (T : Tb) (K : PySem.W.Frag) (r : R2) (g : G2) : Prop :=
  ∀ io h F H v u x y z Q, SR T K io h F H → VR T K io h.length F v x → VR T K io h.length F u y → g h v u = some z →
    (∀ F' H' x', Step io h.length F H io h.length F' H' → SR T K io h F' H' → VR T K io h.length F' z x' → Q x' H') → r x y H Q
def Res.ofO (o : Option Val) (h : Hh) : Res := match o with
  | some v => .ok v h
  | none => .bad
def xOp (g : G2) (a b : Ex) : Ex := fun sg h => (a sg h).bind fun x h1 => (b sg h1).bind fun y h2 => .ofO (g h2 x y) h2
variable {a b c : Expr} {fa fb fc : Ex} {pos : Pos} {r r' : R2} {g g' : G2}
theorem wants_ofO {K : PySem.W.Frag} {io : Nat → Addr} {n : Nat} {F H : Hp} {W : XK} {Q : VK} {o : Option Val} {h : Hh} (w : Wants T K io n F H W Q (.ofO o h)) : ∃ z, o = some z ∧ Wants T K io n F H W Q (.ok z h) := by
  cases o with
  | none => exact w.elim
  | some z => exact ⟨z, rfl, w⟩
theorem tOp_of (hl : Lift2 T X.K r g) {σ : L2.St} {H : Hp} {Q : VK} : tE T X.K W (xOp g fa fb) σ H Q → tOp r (tE T X.K W fa) (tE T X.K W fb) σ H Q := by
  rintro ⟨io, h, F, sg, sr, rs, w⟩
  refine ⟨io, h, F, sg, sr, rs, Wants.bind w fun v h1 io1 F1 H1 x st sr1 vr w1 => ⟨io1, h1, F1, sg, sr1, rs.step st, Wants.bind w1 fun u h2 io2 F2 H2 y st2 sr2 vr2 w2 => ?_⟩⟩
  obtain ⟨z, e, w3⟩ := wants_ofO w2
  exact hl io2 h2 F2 H2 v u x y z Q sr2 (vr.step st2) vr2 e fun F' H' x' st' sr' vr' => w3 io2 F' H' x' st' sr' vr'
theorem je_op {op : Operator} (ho : OpR X (binaryOp op) r) (hl : Lift2 T X.K r g) (ha : JE T X W a fa) (hb : JE T X W b fb) : JE T X W (.BinOp a op b pos) (xOp g fa fb) :=
  pe_imp (pe_op ho ha hb) fun _ _ _ => tOp_of hl
theorem je_cmp {op : CmpOp} (ho : OpR X (compareOp op) r) (hl : Lift2 T X.K r g) (ha : JE T X W a fa) (hb : JE T X W b fb) (hm : behindInMarks op b = false := by first | exact nomark _ | rfl | with_unfolding_all rfl) : JE T X W (.Compare a [op] [b] pos) (xOp g fa fb) :=
  pe_imp (pe_cmpR ho ha hb hm) fun _ _ _ => tOp_of hl
/-- a value's reading as a test's -/
theorem tTest_of {t : TE} {f : Ex} (ht : ∀ σ H Q, tE T X.K W f σ H Q → t σ H Q) {σ : L2.St} {H : Hp} {Q : Bool → Hp → Prop} : tB1 T X.K W f σ H Q → tTest t σ H Q := by
  rintro ⟨io, h, F, sg, sr, rs, w⟩
  refine ht σ H _ ⟨io, h, F, sg, sr, rs, ?_⟩
  cases e : f sg h with
  | ok v h' =>
    rw [e] at w
    cases v with
    | bl k => exact fun io' F' H' x st sr' vr => by cases vr; exact ⟨k, rfl, w io' F' H' st sr'⟩
    | _ => exact False.elim w
  | exc c fs h' => rw [e] at w; exact w
  | bad => rw [e] at w; exact w
theorem jt_cmp {op : CmpOp} (ho : OpR X (compareOp op) r) (hl : Lift2 T X.K r g) (ha : JE T X W a fa) (hb : JE T X W b fb) (hm : behindInMarks op b = false := by first | exact nomark _ | rfl | with_unfolding_all rfl) : JT T X W (.Compare a [op] [b] pos) (xOp g fa fb) :=
  pt_imp (pt_cmpR ho ha hb hm) fun _ _ _ => tTest_of fun _ _ _ => tOp_of hl
/-- a test that is a value's (a call, a name, a field): a bool -/
theorem jt_val {f : Ex} (h : JE T X W a f) (he : ∀ whole, isTrue a X.env whole = (do let v ← whole; standAt a.pos; holding [v] (truthy v)) := by intro _; rfl) : JT T X W a f :=
  pt_imp (pt_val h he) fun _ _ _ q => tTest_of (T := T) (X := X) (W := W) (fun _ _ _ z => z) q
/-- chains -/
def xChain (g g' : G2) (a b c : Ex) : Ex := fun sg h => (a sg h).bind fun x h1 => (b sg h1).bind fun y h2 => match g h2 x y with
  | some (.bl true) => (c sg h2).bind fun z h3 => .ofO (g' h3 y z) h3
  | some (.bl false) => .ok (.bl false) h2
  | _ => .bad
theorem tChain_of (hl : Lift2 T X.K r g) (hl' : Lift2 T X.K r' g') {σ : L2.St} {H : Hp} {Q : VK} : tE T X.K W (xChain g g' fa fb fc) σ H Q → tChain r r' (tE T X.K W fa) (tE T X.K W fb) (tE T X.K W fc) σ H Q := by
  rintro ⟨io, h, F, sg, sr, rs, w⟩
  refine ⟨io, h, F, sg, sr, rs, Wants.bind w fun v h1 io1 F1 H1 x st sr1 vr w1 => ⟨io1, h1, F1, sg, sr1, rs.step st, Wants.bind w1 fun u h2 io2 F2 H2 y st2 sr2 vr2 w2 => ?_⟩⟩
  have rs2 := (rs.step st).step st2
  cases e : g h2 v u with
  | none => rw [e] at w2; exact w2.elim
  | some z =>
    rw [e] at w2
    refine hl io2 h2 F2 H2 v u x y z _ sr2 (vr.step st2) vr2 e fun F' H' x' st' sr' vr' => ?_
    cases z with
    | bl k =>
      cases vr'
      refine ⟨k, rfl, ?_⟩
      cases k with
      | false => rw [if_neg Bool.false_ne_true]; exact w2 io2 F' H' _ st' sr' (.bl false)
      | true =>
        rw [if_pos rfl]
        refine ⟨io2, h2, F', sg, sr', rs2.step st', Wants.bind (Wants.rebase w2 st' sr') fun q h3 io3 F3 H3 y3 st3 sr3 vr3 w3 => ?_⟩
        obtain ⟨z, e, w4⟩ := wants_ofO w3
        exact hl' io3 h3 F3 H3 u q y y3 z Q sr3 ((vr2.step st').step st3) vr3 e fun F' H' x' st' sr' vr' => w4 io3 F' H' x' st' sr' vr'
    | _ => exact w2.elim
theorem je_chain {op op' : CmpOp} (ho : OpR X (compareOp op) r) (hl : Lift2 T X.K r g) (ho' : OpR X (compareOp op') r') (hl' : Lift2 T X.K r' g') (ha : JE T X W a fa) (hb : JE T X W b fb) (hc : JE T X W c fc)
    (hm : lastMarks [op, op'] [b, c] = false := by with_unfolding_all rfl) : JE T X W (.Compare a [op, op'] [b, c] pos) (xChain g g' fa fb fc) := pe_imp (pe_chain ho ho' ha hb hc hm) fun _ _ _ => tChain_of hl hl'
theorem jt_chain {op op' : CmpOp} (ho : OpR X (compareOp op) r) (hl : Lift2 T X.K r g) (ho' : OpR X (compareOp op') r') (hl' : Lift2 T X.K r' g') (ha : JE T X W a fa) (hb : JE T X W b fb) (hc : JE T X W c fc)
    (hm : lastMarks [op, op'] [b, c] = false := by with_unfolding_all rfl) : JT T X W (.Compare a [op, op'] [b, c] pos) (xChain g g' fa fb fc) := pt_imp (pt_chain ho ho' ha hb hc hm) fun _ _ _ => tTest_of fun _ _ _ => tChain_of hl hl'

/-! ### and, or, not, if -/
def xAnd (a b : Ex) : Ex := fun sg h => (a sg h).test (fun h1 => b sg h1) (fun h1 => .ok (.bl false) h1)
def xOr (a b : Ex) : Ex := fun sg h => (a sg h).test (fun h1 => .ok (.bl true) h1) (fun h1 => b sg h1)
def xNot (a : Ex) : Ex := fun sg h => (a sg h).test (fun h1 => .ok (.bl false) h1) (fun h1 => .ok (.bl true) h1)
def xIf (c a b : Ex) : Ex := fun sg h => (c sg h).test (fun h1 => a sg h1) (fun h1 => b sg h1)
variable {rest : List Expr}
theorem jw_one {op} (ha : JT T X W a fa) : JW T X W (.BoolOp op [a] pos) fa := by
  cases op with
  | And => exact pw_and1 ha
  | Or => exact pw_or1 ha
theorem jw_and (ha : JT T X W a fa) (hb : JW T X W (.BoolOp .And (b :: rest) pos) fb) : JW T X W (.BoolOp .And (a :: b :: rest) pos) (xAnd fa fb) := by
  refine pw_imp (pw_and ha hb) fun σ H Q ⟨io, h, F, sg, sr, rs, w⟩ => ⟨io, h, F, sg, sr, rs, WantsB.test w fun v h1 io1 F1 H1 st sr1 w1 => ?_⟩
  cases v with
  | true => rw [if_pos rfl] at w1 ⊢; exact ⟨io1, h1, F1, sg, sr1, rs.step st, w1⟩
  | false => rw [if_neg Bool.false_ne_true] at w1 ⊢; exact w1 io1 F1 H1 .refl sr1
theorem jw_or (ha : JT T X W a fa) (hb : JW T X W (.BoolOp .Or (b :: rest) pos) fb) : JW T X W (.BoolOp .Or (a :: b :: rest) pos) (xOr fa fb) := by
  refine pw_imp (pw_or ha hb) fun σ H Q ⟨io, h, F, sg, sr, rs, w⟩ => ⟨io, h, F, sg, sr, rs, WantsB.test w fun v h1 io1 F1 H1 st sr1 w1 => ?_⟩
  cases v with
  | true => rw [if_pos rfl] at w1 ⊢; exact w1 io1 F1 H1 .refl sr1
  | false => rw [if_neg Bool.false_ne_true] at w1 ⊢; exact ⟨io1, h1, F1, sg, sr1, rs.step st, w1⟩
theorem jt_w {f : Ex} (h : JW T X W a f) : JT T X W a f := h.pt
theorem jt_not (ha : JT T X W a fa) : JT T X W (.UnaryOp .Not a pos) (xNot fa) := by
  refine pt_imp (pt_not ha) fun σ H Q ⟨io, h, F, sg, sr, rs, w⟩ => ⟨io, h, F, sg, sr, rs, WantsB.test w fun v h1 io1 F1 H1 st sr1 w1 => ?_⟩
  cases v with
  | true => rw [if_pos rfl] at w1; exact w1 io1 F1 H1 .refl sr1
  | false => rw [if_neg Bool.false_ne_true] at w1; exact w1 io1 F1 H1 .refl sr1
/-- as values: bools -/
theorem tVB {t : TE} {f : Ex} {Q : VK} {σ : L2.St} {H : Hp} {k : Hh → Res} {k' : Hh → Res} {R : Bool → Hp → Prop} : True := trivial
theorem Wants.boolV {K : PySem.W.Frag} {io : Nat → Addr} {n : Nat} {F H : Hp} {W : XK} {Q : VK} {R : VK} {r : Res} {a b : Hh → Res} (w : Wants T K io n F H W Q (r.test a b))
    (hk : ∀ v h1 io1 F1 H1, Step io n F H io1 h1.length F1 H1 → SR T K io1 h1 F1 H1 → Wants T K io1 h1.length F1 H1 W Q (if v = true then a h1 else b h1) → R (.bl v) H1) : Wants T K io n F H W R r := by
  cases r with
  | ok v h1 => cases v with
    | bl v =>
      intro io1 F1 H1 x st sr vr
      cases vr
      cases v with
      | true => exact hk true h1 io1 F1 H1 st sr (Wants.rebase w st sr)
      | false => exact hk false h1 io1 F1 H1 st sr (Wants.rebase w st sr)
    | _ => exact False.elim w
  | exc c fs h' => exact w
  | bad => exact w
theorem je_one {op} (ha : JE T X W a fa) : JE T X W (.BoolOp op [a] pos) fa := pe_one ha
theorem je_and (ha : JE T X W a fa) (hb : JE T X W (.BoolOp .And (b :: rest) pos) fb) : JE T X W (.BoolOp .And (a :: b :: rest) pos) (xAnd fa fb) := by
  refine pe_imp (pe_and ha hb) fun σ H Q ⟨io, h, F, sg, sr, rs, w⟩ => ⟨io, h, F, sg, sr, rs, Wants.boolV w fun v h1 io1 F1 H1 st sr1 w1 => ⟨v, rfl, ?_⟩⟩
  cases v with
  | true => rw [if_pos rfl] at w1 ⊢; exact ⟨io1, h1, F1, sg, sr1, rs.step st, w1⟩
  | false => rw [if_neg Bool.false_ne_true] at w1 ⊢; exact w1 io1 F1 H1 _ .refl sr1 (.bl false)
theorem je_or (ha : JE T X W a fa) (hb : JE T X W (.BoolOp .Or (b :: rest) pos) fb) : JE T X W (.BoolOp .Or (a :: b :: rest) pos) (xOr fa fb) := by
  refine pe_imp (pe_or ha hb) fun σ H Q ⟨io, h, F, sg, sr, rs, w⟩ => ⟨io, h, F, sg, sr, rs, Wants.boolV w fun v h1 io1 F1 H1 st sr1 w1 => ⟨v, rfl, ?_⟩⟩
  cases v with
  | true => rw [if_pos rfl] at w1 ⊢; exact w1 io1 F1 H1 _ .refl sr1 (.bl true)
  | false => rw [if_neg Bool.false_ne_true] at w1 ⊢; exact ⟨io1, h1, F1, sg, sr1, rs.step st, w1⟩
theorem je_not (ha : JE T X W a fa) : JE T X W (.UnaryOp .Not a pos) (xNot fa) := by
  refine pe_imp (pe_not ha) fun σ H Q ⟨io, h, F, sg, sr, rs, w⟩ => ⟨io, h, F, sg, sr, rs, Wants.boolV w fun v h1 io1 F1 H1 st sr1 w1 => ⟨v, rfl, ?_⟩⟩
  cases v with
  | true => rw [if_pos rfl] at w1; exact w1 io1 F1 H1 _ .refl sr1 (.bl false)
  | false => rw [if_neg Bool.false_ne_true] at w1; exact w1 io1 F1 H1 _ .refl sr1 (.bl true)
theorem je_if (hc : JT T X W c fc) (ha : JE T X W a fa) (hb : JE T X W b fb) : JE T X W (.IfExp c a b pos) (xIf fc fa fb) := by
  refine pe_imp (pe_ifExp hc ha hb) fun σ H Q ⟨io, h, F, sg, sr, rs, w⟩ => ⟨io, h, F, sg, sr, rs, Wants.test w fun v h1 io1 F1 H1 st sr1 w1 => ?_⟩
  cases v with
  | true => rw [if_pos rfl] at w1 ⊢; exact ⟨io1, h1, F1, sg, sr1, rs.step st, w1⟩
  | false => rw [if_neg Bool.false_ne_true] at w1 ⊢; exact ⟨io1, h1, F1, sg, sr1, rs.step st, w1⟩

/-! ### is None -/
def isNon : Val → Bool
  | .non => true
  | _ => false
def gIsN : G2 := fun _ v _ => some (.bl (isNon v))
def gNotN : G2 := fun _ v _ => some (.bl (!isNon v))
theorem VR.non_iff {K : PySem.W.Frag} {io : Nat → Addr} {n : Nat} {F : Hp} {v : Val} {x : V} (r : VR T K io n F v x) : decide (x = .non) = isNon v := by
  cases r <;> rfl
def xUn (g : Hh → Val → Option Val) (a : Ex) : Ex := fun sg h => (a sg h).bind fun x h1 => .ofO (g h1 x) h1
theorem je_isN {j pos'} (ha : JE T X W a fa) : JE T X W (.Compare a [.Is] [.Constant .none j pos'] pos) (xUn (fun _ v => some (.bl (isNon v))) fa) := by
  refine pe_imp (pe_cmp (pc_isN ha)) fun σ H Q ⟨io, h, F, sg, sr, rs, w⟩ => ⟨io, h, F, sg, sr, rs, Wants.bind w fun v h1 io1 F1 H1 x st sr1 vr w1 => ?_⟩
  rw [vr.non_iff]
  exact w1 io1 F1 H1 _ .refl sr1 (.bl _)
theorem je_notN {j pos'} (ha : JE T X W a fa) : JE T X W (.Compare a [.IsNot] [.Constant .none j pos'] pos) (xUn (fun _ v => some (.bl (!isNon v))) fa) := by
  refine pe_imp (pe_cmp (pc_notN ha)) fun σ H Q ⟨io, h, F, sg, sr, rs, w⟩ => ⟨io, h, F, sg, sr, rs, Wants.bind w fun v h1 io1 F1 H1 x st sr1 vr w1 => ?_⟩
  rw [vr.non_iff]
  exact w1 io1 F1 H1 _ .refl sr1 (.bl _)
theorem jt_isN {j pos'} (ha : JE T X W a fa) : JT T X W (.Compare a [.Is] [.Constant .none j pos'] pos) (xUn (fun _ v => some (.bl (isNon v))) fa) := by
  refine pt_imp (pt_cmp (pc_isN ha)) fun σ H Q q => tTest_of (T := T) (X := X) (W := W) (fun σ H Q ⟨io, h, F, sg, sr, rs, w⟩ => ⟨io, h, F, sg, sr, rs, Wants.bind w fun v h1 io1 F1 H1 x st sr1 vr w1 => ?_⟩) q
  rw [vr.non_iff]
  exact w1 io1 F1 H1 _ .refl sr1 (.bl _)
theorem jt_notN {j pos'} (ha : JE T X W a fa) : JT T X W (.Compare a [.IsNot] [.Constant .none j pos'] pos) (xUn (fun _ v => some (.bl (!isNon v))) fa) := by
  refine pt_imp (pt_cmp (pc_notN ha)) fun σ H Q q => tTest_of (T := T) (X := X) (W := W) (fun σ H Q ⟨io, h, F, sg, sr, rs, w⟩ => ⟨io, h, F, sg, sr, rs, Wants.bind w fun v h1 io1 F1 H1 x st sr1 vr w1 => ?_⟩) q
  rw [vr.non_iff]
  exact w1 io1 F1 H1 _ .refl sr1 (.bl _)

/-! ### arguments, displays -/
def xNil : Lx := fun _ h => .ok [] h
def xCons (a : Ex) (r : Lx) : Lx := fun sg h => (a sg h).bindL fun v h1 => (r sg h1).bindL fun vs h2 => .ok (v :: vs) h2
variable {e : Expr} {es : List Expr} {fe : Ex} {fr : Lx}
theorem ja_nil : JA T X W [] xNil := pa_imp pa_nil fun σ H Q ⟨io, h, F, sg, sr, rs, w⟩ => w io F H _ .refl sr .nil
theorem ja_cons (ha : JE T X W e fe) (hr : JA T X W es fr) (hs : starEach (e :: es) X.env = (false, eval e X.env) :: starEach es X.env := by rfl) : JA T X W (e :: es) (xCons fe fr) := by
  refine pa_imp (pa_cons ha hr hs) fun σ H Q ⟨io, h, F, sg, sr, rs, w⟩ => ⟨io, h, F, sg, sr, rs, WantsL.ofBind w fun v h1 io1 F1 H1 x st sr1 vr w1 => ⟨io1, h1, F1, sg, sr1, rs.step st, WantsL.bindL w1 fun vs h2 io2 F2 H2 xs st2 sr2 vrs w2 => ?_⟩⟩
  exact w2 io2 F2 H2 _ .refl sr2 (.cons (vr.step st2) vrs)
/-- a tuple of written items -/
def xTup (r : Lx) : Ex := fun sg h => (r sg h).bind fun vs h1 => if vs.length ≤ 1000000 then .ok (.tup vs) h1 else .bad
theorem sizeOk {n : Nat} (h : n ≤ 1000000) : n ≤ sizeLine := by rw [sizeLine_eq]; omega
theorem je_tup {x1} (hr : JA T X W es fr) : JE T X W (.Tuple es x1 pos) (xTup fr) := by
  refine pe_imp (pe_tup hr) fun σ H Q ⟨io, h, F, sg, sr, rs, w⟩ => ⟨io, h, F, sg, sr, rs, Wants.bindOfL w fun vs h1 io1 F1 H1 xs st sr1 vrs w1 => ?_⟩
  by_cases hz : vs.length ≤ 1000000
  · rw [if_pos hz] at w1
    refine ⟨by rw [← vrs.length]; exact sizeOk hz, fun p hp => ?_⟩
    exact w1 io1 _ _ _ (sr1.allocStep hp _) (sr1.alloc hp _) (.tup (.inl (.inl upd_same)) (vrs.step (sr1.allocStep hp (.tup xs))))
  · rw [if_neg hz] at w1; exact w1.elim
/-- a list of written items: a new mutable object -/
def xLst (r : Lx) : Ex := fun sg h => (r sg h).bind fun vs h1 => if vs.length ≤ 1000000 then .ok (.ref h1.length) (h1 ++ [.lst vs]) else .bad
theorem je_lst (hr : JA T X W es fr) : JE T X W (.List es pos) (xLst fr) := by
  refine pe_imp (pe_lst hr) fun σ H Q ⟨io, h, F, sg, sr, rs, w⟩ => ⟨io, h, F, sg, sr, rs, Wants.bindOfL w fun vs h1 io1 F1 H1 xs st sr1 vrs w1 => ?_⟩
  by_cases hz : vs.length ≤ 1000000
  · rw [if_pos hz] at w1
    refine ⟨by rw [← vrs.length]; exact sizeOk hz, fun p hp => ?_⟩
    have hH : ∀ b u, H1 b = some u → upd H1 p (.lst xs) b = some u := upd_sub H1 hp
    have vp : VR T X.K (ioPush io1 h1.length p) (h1 ++ [Obj.lst vs]).length F1 (.ref h1.length) (.ref (ioPush io1 h1.length p h1.length)) := .ref _ (by simp)
    rw [ioPush_at] at vp
    exact w1 _ _ _ _ (sr1.pushStep hp hH) (sr1.push hp hH ⟨xs, upd_same, vrs.mono (Nat.le_succ _) (fun k hk => ioPush_lt io1 p hk) (fun _ _ e => e)⟩) vp
  · rw [if_neg hz] at w1; exact w1.elim
/-- a list of written items that is never changed -/
def xLstF (r : Lx) : Ex := fun sg h => (r sg h).bind fun vs h1 => if vs.length ≤ 1000000 then .ok (.lst vs) h1 else .bad
theorem je_lstF (hr : JA T X W es fr) : JE T X W (.List es pos) (xLstF fr) := by
  refine pe_imp (pe_lst hr) fun σ H Q ⟨io, h, F, sg, sr, rs, w⟩ => ⟨io, h, F, sg, sr, rs, Wants.bindOfL w fun vs h1 io1 F1 H1 xs st sr1 vrs w1 => ?_⟩
  by_cases hz : vs.length ≤ 1000000
  · rw [if_pos hz] at w1
    refine ⟨by rw [← vrs.length]; exact sizeOk hz, fun p hp => ?_⟩
    exact w1 io1 _ _ _ (sr1.allocStep hp _) (sr1.alloc hp _) (.lst (.inl (.inl upd_same)) (vrs.step (sr1.allocStep hp (.lst xs))))
  · rw [if_neg hz] at w1; exact w1.elim
end
end Py

namespace Py
open PySem PySem.Spec PyProof.Rows L2

/-! ### statements -/
def xSeq (a b : Sx) : Sx := fun sg h => match a sg h with
  | .next sg1 h1 => b sg1 h1
  | r => r
def xSkip : Sx := fun sg h => .next sg h
def xBreak : Sx := fun sg h => .brk sg h
def xCont : Sx := fun sg h => .cont sg h
def xDrop (e : Ex) : Sx := fun sg h => (e sg h).bindS sg fun _ h1 => .next sg h1
def xRet (e : Ex) : Sx := fun sg h => (e sg h).bindS sg fun v h1 => .ret v h1
def xRetN : Sx := fun _ h => .ret .non h
def xIfS (c : Ex) (a b : Sx) : Sx := fun sg h => (c sg h).testS sg (fun h1 => a sg h1) (fun h1 => b sg h1)
def xAsg (e : Ex) (g : Gx) : Sx := fun sg h => (e sg h).bindS sg fun v h1 => (g v sg h1).bindS fun sg2 h2 => .next sg2 h2
def gN (i : Nat) : Gx := fun v sg h => .ok (sg.set i (some v)) h
def xSet (i : Nat) (e : Ex) : Sx := fun sg h => (e sg h).bindS sg fun v h1 => .next (sg.set i (some v)) h1

section
variable {T : Tb} {K : PySem.W.Frag} {io io1 io2 : Nat → Addr} {n n1 n2 : Nat} {F F1 F2 H H1 H2 : Hp} {h h1 h2 : Hh} {W : WX} {D : Ends}
theorem WantsS.ofRes {R : VK} {sg : Sg} {σ : L2.St} {r : Res} {k : Val → Hh → ResS} (rs : RSt T K io n F sg σ) (w : WantsS T K io n F H W D (r.bindS sg k))
    (hk : ∀ v h1 io1 F1 H1 x, Step io n F H io1 h1.length F1 H1 → SR T K io1 h1 F1 H1 → VR T K io1 h1.length F1 v x → WantsS T K io1 h1.length F1 H1 W D (k v h1) → R x H1) : Wants T K io n F H (fun c d H' => W c d σ H') R r := by
  cases r with
  | ok v h1 => exact fun io1 F1 H1 x st sr vr => hk v h1 io1 F1 H1 x st sr vr (WantsS.rebase w st sr)
  | exc c fs h' => exact fun io' F' H' d st sr xr => w io' F' H' σ d st sr (rs.step st) xr
  | bad => exact w
theorem WantsS.ofTest {R : Bool → Hp → Prop} {sg : Sg} {σ : L2.St} {r : Res} {a b : Hh → ResS} (rs : RSt T K io n F sg σ) (w : WantsS T K io n F H W D (r.testS sg a b))
    (hk : ∀ v h1 io1 F1 H1, Step io n F H io1 h1.length F1 H1 → SR T K io1 h1 F1 H1 → WantsS T K io1 h1.length F1 H1 W D (if v = true then a h1 else b h1) → R v H1) : WantsB T K io n F H (fun c d H' => W c d σ H') R r := by
  cases r with
  | ok v h1 => cases v with
    | bl v =>
      cases v with
      | true => exact fun io1 F1 H1 st sr => hk true h1 io1 F1 H1 st sr (WantsS.rebase w st sr)
      | false => exact fun io1 F1 H1 st sr => hk false h1 io1 F1 H1 st sr (WantsS.rebase w st sr)
    | _ => exact w
  | exc c fs h' => exact fun io' F' H' d st sr xr => w io' F' H' σ d st sr (rs.step st) xr
  | bad => exact w
end

section
variable {T : Tb} {X : Cx} {W : WX} {a b c e : Expr} {fa fb fc fe : Ex} {pos : Pos} {st : Stmt} {rest : List Stmt} {f g : Sx}
theorem jss_nil : JSs T X W [] xSkip := pss_imp pss_nil fun D σ H ⟨io, h, F, sg, sr, rs, w⟩ => w io F H σ .refl sr rs
theorem jss_cons (h1 : JS T X W st f) (h2 : JSs T X W rest g) : JSs T X W (st :: rest) (xSeq f g) := by
  refine pss_imp (pss_cons h1 h2) fun D σ H ⟨io, h, F, sg, sr, rs, w⟩ => ⟨io, h, F, sg, sr, rs, ?_⟩
  unfold xSeq at w
  cases e : f sg h with
  | next sg1 h1 =>
    rw [e] at w
    exact fun io' F' H' σ' st sr' rs' => ⟨io', h1, F', sg1, sr', rs', WantsS.rebase w st sr'⟩
  | ret v h1 => rw [e] at w; exact w
  | brk v h1 => rw [e] at w; exact w
  | cont v h1 => rw [e] at w; exact w
  | exc c fs sg1 h1 => rw [e] at w; exact w
  | bad => rw [e] at w; exact w
theorem jss_one (h1 : JS T X W st f) : JSs T X W [st] f := pss_one h1
theorem js_pass : JS T X W (.Pass pos) xSkip := ps_imp ps_pass fun D σ H ⟨io, h, F, sg, sr, rs, w⟩ => w io F H σ .refl sr rs
theorem js_break : JS T X W (.Break pos) xBreak := ps_imp ps_break fun D σ H ⟨io, h, F, sg, sr, rs, w⟩ => w io F H σ .refl sr rs
theorem js_continue : JS T X W (.Continue pos) xCont := ps_imp ps_continue fun D σ H ⟨io, h, F, sg, sr, rs, w⟩ => w io F H σ .refl sr rs
theorem js_expr (he : JE T X W e fe) (hs : swapsWith e none pos.line X.env = pure false := by rfl) : JS T X W (.Expr e pos) (xDrop fe) :=
  ps_imp (ps_expr he hs) fun D σ H ⟨io, h, F, sg, sr, rs, w⟩ => ⟨io, h, F, sg, sr, rs, WantsS.ofRes rs w fun v h1 io1 F1 H1 x st sr1 vr w1 => w1 io1 F1 H1 σ .refl sr1 (rs.step st)⟩
theorem js_ret (he : JE T X W e fe) : JS T X W (.Return (some e) pos) (xRet fe) :=
  ps_imp (ps_ret he) fun D σ H ⟨io, h, F, sg, sr, rs, w⟩ => ⟨io, h, F, sg, sr, rs, WantsS.ofRes rs w fun v h1 io1 F1 H1 x st sr1 vr w1 => w1 io1 F1 H1 x .refl sr1 vr⟩
theorem js_retN : JS T X W (.Return none pos) xRetN := ps_imp ps_retN fun D σ H ⟨io, h, F, sg, sr, rs, w⟩ => w io F H _ .refl sr .non
theorem js_if {sa sb : List Stmt} (hc : JT T X W c fc) (ha : JSs T X W sa f) (hb : JSs T X W sb g) : JS T X W (.If c sa sb pos) (xIfS fc f g) := by
  refine ps_imp (ps_if hc ha hb) fun D σ H ⟨io, h, F, sg, sr, rs, w⟩ => ⟨io, h, F, sg, sr, rs, WantsS.ofTest rs w fun v h1 io1 F1 H1 st sr1 w1 => ?_⟩
  cases v with
  | true => rw [if_pos rfl] at w1 ⊢; exact ⟨io1, h1, F1, sg, sr1, rs.step st, w1⟩
  | false => rw [if_neg Bool.false_ne_true] at w1 ⊢; exact ⟨io1, h1, F1, sg, sr1, rs.step st, w1⟩
/-- a statement that is never reached -/
theorem js_never : JS T X W st (fun _ _ => .bad) := ps_imp ps_never fun D σ H ⟨io, h, F, sg, sr, rs, w⟩ => w
/-- targets -/
theorem jg_name (i : Nat) {x : Str} (hN : X.N.Nodup) (hi : X.N[i]? = some x := by rfl) (hx : Loc X.env.scope x := by first | exact .inl rfl | exact .inr rfl) (hf : X.fn x = true ∨ X.env.scope.names.lookup x = some .local := by first | exact .inl rfl | exact .inr rfl | assumption) : JG T X (.Name x pos) (gN i) :=
  pg_imp (pg_name hN hi hx hf) fun x σ H Q ⟨io, h, F, sg, v, sr, rs, vr, w⟩ => w io F H _ .refl sr (rs.set i vr)
/-- several targets -/
abbrev Gs := List Val → Sg → Hh → ResG
def tGs (T : Tb) (K : PySem.W.Frag) (g : Gs) : TGs := fun xs σ H Q => ∃ io h F sg vs, SR T K io h F H ∧ RSt T K io h.length F sg σ ∧ VRs T K io h.length F vs xs ∧ WantsG T K io h.length F H Q (g vs sg h)
abbrev JGs (T : Tb) (X : Cx) (es : List Expr) (g : Gs) : Prop := PGs X es (tGs T X.K g)
def gsNil : Gs := fun vs sg h => match vs with
  | [] => .ok sg h
  | _ => .bad
def gsCons (g : Gx) (r : Gs) : Gs := fun vs sg h => match vs with
  | v :: vs => (match g v sg h with
    | .ok sg1 h1 => r vs sg1 h1
    | .bad => .bad)
  | [] => .bad
theorem jgs_nil : JGs T X [] gsNil := by
  refine ⟨fun pins s σ H xs us Q I r h => pgs_nil.run pins s σ H xs us Q I r ?_⟩
  obtain ⟨io, hh, F, sg, vs, sr, rs, vr, w⟩ := h
  cases vr with
  | nil => exact ⟨rfl, w io F H σ .refl sr rs⟩
  | cons a b => exact w.elim
theorem jgs_cons {tg : Expr} {tgs : List Expr} {g : Gx} {r : Gs} (h1 : JG T X tg g) (h2 : JGs T X tgs r) (hs : (assignEach (tg :: tgs) X.env).map (·.2) = assign tg X.env :: (assignEach tgs X.env).map (·.2) := by rfl) : JGs T X (tg :: tgs) (gsCons g r) := by
  refine ⟨fun pins s σ H xs us Q I rl h => (pgs_cons h1 h2 hs).run pins s σ H xs us Q I rl ?_⟩
  obtain ⟨io, hh, F, sg, vs, sr, rs, vr, w⟩ := h
  cases vr with
  | nil => exact w.elim
  | @cons v x vs' xs' a b =>
    refine ⟨x, xs', rfl, ⟨io, hh, F, sg, v, sr, rs, a, ?_⟩⟩
    have w' : WantsG T X.K io hh.length F H Q (match g v sg hh with
      | .ok sg1 h1 => r vs' sg1 h1
      | .bad => .bad) := w
    cases e : g v sg hh with
    | ok sg1 h1 =>
      rw [e] at w'
      exact fun io' F' H' σ' st sr' rs' => ⟨io', h1, F', sg1, vs', sr', rs', b.step st, WantsG.rebase w' st sr'⟩
    | bad => rw [e] at w'; exact w'
/-- (a, b) = a tuple of that length -/
def gTu (n : Nat) (r : Gs) : Gx := fun v sg h => match v with
  | .tup vs => if vs.length = n then r vs sg h else .bad
  | _ => .bad
theorem jg_tup {tgs : List Expr} {k : Nat} {r : Gs} {n : Nat} (hc : X.calm = true) (h : JGs T X tgs r) (hn : (assignEach tgs X.env).length = n := by rfl) (hst : (assignEach tgs X.env).findIdx? (·.1) = none := by rfl) : JG T X (.Tuple tgs k pos) (gTu n r) := by
  refine pg_imp (pg_tup hc h hn hst) fun x σ H Q ⟨io, hh, F, sg, v, sr, rs, vr, w⟩ => ?_
  cases vr with
  | @tup vs a xs q r' =>
    have w' : WantsG T X.K io hh.length F H Q (if vs.length = n then r vs sg hh else .bad) := w
    by_cases hl : vs.length = n
    · rw [if_pos hl] at w'
      exact ⟨a, xs, rfl, sqT_mono sr.sub q, by rw [← r'.length]; exact hl, io, hh, F, sg, vs, sr, rs, r', w'⟩
    · rw [if_neg hl] at w'; exact w'.elim
  | _ => exact w.elim
/-- target = value -/
theorem js_asg {tg : Expr} {g : Gx} (he : JE T X W e fe) (hg : JG T X tg g) (hs : swapsWithSole [tg] e pos.line X.env = pure false := by rfl) (hw : swappedStores [tg] e X.env = pure none := by rfl)
    (h1 : (assignEach [tg] X.env).map (·.2) = [assign tg X.env] := by rfl) : JS T X W (.Assign [tg] e pos) (xAsg fe g) := by
  refine ps_imp (ps_asg he hg hs hw h1) fun D σ H ⟨io, h, F, sg, sr, rs, w⟩ => ⟨io, h, F, sg, sr, rs, WantsS.ofRes rs w fun v h1 io1 F1 H1 x st sr1 vr w1 => ⟨io1, h1, F1, sg, v, sr1, rs.step st, vr, ?_⟩⟩
  cases e : g v sg h1 with
  | ok sg2 h2 => rw [e] at w1; exact w1
  | bad => rw [e] at w1; exact w1
theorem js_set (i : Nat) {x : Str} {pos' : Pos} (hN : X.N.Nodup) (he : JE T X W e fe) (hi : X.N[i]? = some x := by rfl) (hx : Loc X.env.scope x := by first | exact .inl rfl | exact .inr rfl) (hs : swapsWith e (some (.Name x pos')) pos.line X.env = pure false := by rfl)
    (hf : X.fn x = true ∨ X.env.scope.names.lookup x = some .local := by first | exact .inl rfl | exact .inr rfl | assumption) : JS T X W (.Assign [.Name x pos'] e pos) (xSet i fe) :=
  ps_imp (ps_set hN hi hx he hs hf) fun D σ H ⟨io, h, F, sg, sr, rs, w⟩ => ⟨io, h, F, sg, sr, rs, WantsS.ofRes rs w fun v h1 io1 F1 H1 x st sr1 vr w1 => w1 io1 F1 H1 _ .refl sr1 ((rs.step st).set i vr)⟩
/-- a, b = x, y : two local names -/
def xPar (i j : Nat) (l : Lx) : Sx := fun sg h => match l sg h with
  | .ok [v, u] h1 => .next ((sg.set i (some v)).set j (some u)) h1
  | .ok _ _ => .bad
  | .exc c fs h1 => .exc c fs sg h1
  | .bad => .bad
theorem js_par (i j : Nat) {x y : Str} {fl : Lx} {px py pt : Pos} {kt k2 pt2} (hc : X.calm = true) (hN : X.N.Nodup) (hij : i ≠ j) (ha : JA T X W [a, b] fl) (hi : X.N[i]? = some x := by rfl) (hj : X.N[j]? = some y := by rfl)
    (hx : X.env.scope.names.lookup x = some .local := by rfl) (hy : X.env.scope.names.lookup y = some .local := by rfl)
    (hw : swappedStores [.Tuple [.Name x px, .Name y py] kt pt] (.Tuple [a, b] k2 pt2) X.env = pure (some [x, y]) := by rfl)
    (hs : swapsWithSole [.Tuple [.Name x px, .Name y py] kt pt] (.Tuple [a, b] k2 pt2) pos.line X.env = pure false := by rfl) :
    JS T X W (.Assign [.Tuple [.Name x px, .Name y py] kt pt] (.Tuple [a, b] k2 pt2) pos) (xPar i j fl) := by
  refine ps_imp (ps_par hc hN hi hj hij hx hy ha hw hs) fun D σ H ⟨io, h, F, sg, sr, rs, w⟩ => ⟨io, h, F, sg, sr, rs, ?_⟩
  unfold xPar at w
  cases e : fl sg h with
  | ok vs h1 =>
    rw [e] at w
    intro io' F' H' xs st sr' vrs
    match vs, vrs, w with
    | [v, u], .cons r1 (.cons r2 .nil), w => exact ⟨_, _, rfl, w io' F' H' _ st sr' (((rs.step st).set i r1).set j r2)⟩
    | [], _, w => exact w.elim
    | [_], _, w => exact w.elim
    | _ :: _ :: _ :: _, _, w => exact w.elim
  | exc c fs h1 =>
    rw [e] at w
    exact fun io' F' H' d st sr xr => w io' F' H' σ d st sr (rs.step st) xr
  | bad => rw [e] at w; exact w

/-! ### what a loop walks -/
inductive Src where
  | items (vs : List Val) | ref (c : Hh → Option (List Val))
/-- a mutable list, as it is now -/
def curL (k : Nat) : Hh → Option (List Val) := fun h => match h[k]? with
  | some (.lst xs) => some xs
  | _ => none
theorem curL_ok {k : Nat} {h : Hh} {xs : List Val} (e : curL k h = some xs) : h[k]? = some (.lst xs) := by
  unfold curL at e
  split at e
  · rename_i q; cases e; exact q
  · cases e
inductive ResI where
  | ok (s : Src) (h : Hh) | exc (c : Nat) (fs : List Val) (h : Hh) | bad
abbrev Ix := Sg → Hh → ResI
/-- what the iterator says at turn i, of what the source has there -/
def YldOk (T : Tb) (K : PySem.W.Frag) (J : It) (i : Nat) (o : Option Val) (io : Nat → Addr) (h : Hh) (F H : Hp) : Prop :=
  match o with
  | none => J.stop i H
  | some v => J.go i H ∧ ∀ x H', J.yld i H x H' → ∃ F', Step io h.length F H io h.length F' H' ∧ SR T K io h F' H' ∧ VR T K io h.length F' v x
def SrcOk (T : Tb) (K : PySem.W.Frag) (io0 : Nat → Addr) (n0 : Nat) (F0 : Hp) (J : It) : Src → Prop
  | .items vs => ∀ i io h F H, SR T K io h F H → n0 ≤ h.length → (∀ k, k < n0 → io k = io0 k) → (∀ b o, F0 b = some o → F b = some o) → i ≤ vs.length → YldOk T K J i vs[i]? io h F H
  | .ref c => ∀ i io h F H xs, SR T K io h F H → n0 ≤ h.length → (∀ k, k < n0 → io k = io0 k) → (∀ b o, F0 b = some o → F b = some o) → c h = some xs → YldOk T K J i xs[i]? io h F H
def tI (T : Tb) (K : PySem.W.Frag) (W : WX) (f : Ix) : TI := fun σ H R => ∃ io h F sg, SR T K io h F H ∧ RSt T K io h.length F sg σ ∧ match f sg h with
  | .ok s h' => ∀ io' F' H' J, Step io h.length F H io' h'.length F' H' → SR T K io' h' F' H' → SrcOk T K io' h'.length F' J s → R J H'
  | .exc c fs h' => WExc T K io h.length F H c fs h' (fun c d H' => W c d σ H')
  | .bad => False
abbrev JI (T : Tb) (X : Cx) (W : WX) (tg iter : Expr) (f : Ix) : Prop := PI X tg iter (tI T X.K W f)
theorem pi_imp {tg iter : Expr} {t t' : TI} (h : PI X tg iter t) (i : ∀ σ H Q, t' σ H Q → t σ H Q) : PI X tg iter t' := ⟨fun pins s σ H Q I q => h.run pins s σ H Q I (i σ H Q q)⟩

/-- the loop -/
def forItems (body : Val → Sg → Hh → ResS) : List Val → Sg → Hh → ResS
  | [], sg, h => .next sg h
  | v :: r, sg, h => match body v sg h with
    | .next sg1 h1 => forItems body r sg1 h1
    | .cont sg1 h1 => forItems body r sg1 h1
    | .brk sg1 h1 => .next sg1 h1
    | .ret v h1 => .ret v h1
    | .exc c fs sg1 h1 => .exc c fs sg1 h1
    | .bad => .bad
def forRef (body : Val → Sg → Hh → ResS) (c : Hh → Option (List Val)) : Nat → Nat → Sg → Hh → ResS
  | 0, _, _, _ => .bad
  | m + 1, i, sg, h => match c h with
    | some xs => (match xs[i]? with
      | none => .next sg h
      | some v => match body v sg h with
        | .next sg1 h1 => forRef body c m (i + 1) sg1 h1
        | .cont sg1 h1 => forRef body c m (i + 1) sg1 h1
        | .brk sg1 h1 => .next sg1 h1
        | .ret v h1 => .ret v h1
        | .exc c fs sg1 h1 => .exc c fs sg1 h1
        | .bad => .bad)
    | none => .bad
def bodyOf (g : Gx) (b : Sx) : Val → Sg → Hh → ResS := fun v sg h => (g v sg h).bindS fun sg1 h1 => b sg1 h1
def xFor (fi : Ix) (g : Gx) (b : Sx) : Sx := fun sg h => match fi sg h with
  | .ok (.items vs) h1 => forItems (bodyOf g b) vs sg h1
  | .ok (.ref k) h1 => forRef (bodyOf g b) k 1000000 0 sg h1
  | .exc c fs h1 => .exc c fs sg h1
  | .bad => .bad
theorem sr_shrink {T : Tb} {K : PySem.W.Frag} {io io' : Nat → Addr} {n : Nat} {F F' H H' : Hp} (st : Step io n F H io' n F' H') : ∀ k, k < n → io' k = io k := st.eq
/-- a turn -/
theorem turn_of {K : PySem.W.Frag} {W : WX} {D : Ends} {tbody : Gx} {b : Sx} {J : It} {io : Nat → Addr} {h : Hh} {F H : Hp} {sg : Sg} {σ : L2.St} {v : Val} {i : Nat} {N : L2.St → Hp → Prop} (sr : SR T K io h F H) (rs : RSt T K io h.length F sg σ)
    (y : YldOk T K J i (some v) io h F H)
    (nxt : ∀ sg1 h1 io1 F1 H1 σ1, (bodyOf tbody b v sg h = .next sg1 h1 ∨ bodyOf tbody b v sg h = .cont sg1 h1) → Step io h.length F H io1 h1.length F1 H1 → SR T K io1 h1 F1 H1 → RSt T K io1 h1.length F1 sg1 σ1 → N σ1 H1)
    (brk : ∀ sg1 h1, bodyOf tbody b v sg h = .brk sg1 h1 → WantsS T K io h.length F H W D (.next sg1 h1))
    (oth : ∀ r, bodyOf tbody b v sg h = r → (match r with | .next _ _ => False | .cont _ _ => False | .brk _ _ => False | _ => True) → WantsS T K io h.length F H W D r) :
    ∀ x H', J.yld i H x H' → tG1 T K tbody x σ H' fun σ2 H2 => tS T K W b { D with nx := N, ct := N, bk := D.nx } σ2 H2 := by
  intro x H' hy
  obtain ⟨F', st, sr', vr⟩ := y.2 x H' hy
  refine ⟨io, h, F', sg, v, sr', rs.step st, vr, ?_⟩
  have tr : ∀ {io1 : Nat → Addr} {h1 : Hh} {F1 H1 : Hp}, Step io h.length F' H' io1 h1.length F1 H1 → Step io h.length F H io1 h1.length F1 H1 := fun s => st.trans sr' s
  cases eg : tbody v sg h with
  | bad =>
    have eb : bodyOf tbody b v sg h = .bad := by unfold bodyOf; rw [eg]; rfl
    exact (oth _ eb trivial : False).elim
  | ok sg2 h2 =>
    intro io2 F2 H2 σ2 st2 sr2 rs2
    refine ⟨io2, h2, F2, sg2, sr2, rs2, ?_⟩
    have st02 : Step io h.length F H io2 h2.length F2 H2 := tr st2
    have eb : bodyOf tbody b v sg h = b sg2 h2 := by unfold bodyOf; rw [eg]; rfl
    cases e : b sg2 h2 with
    | next sg3 h3 => exact fun io3 F3 H3 σ3 st3 sr3 rs3 => nxt sg3 h3 io3 F3 H3 σ3 (.inl (eb.trans e)) (st02.trans sr2 st3) sr3 rs3
    | cont sg3 h3 => exact fun io3 F3 H3 σ3 st3 sr3 rs3 => nxt sg3 h3 io3 F3 H3 σ3 (.inr (eb.trans e)) (st02.trans sr2 st3) sr3 rs3
    | brk sg3 h3 => exact fun io3 F3 H3 σ3 st3 sr3 rs3 => brk sg3 h3 (eb.trans e) io3 F3 H3 σ3 (st02.trans sr2 st3) sr3 rs3
    | ret u h3 => exact WantsS.rebase (D := D) (r := .ret u h3) (oth _ (eb.trans e) trivial) st02 sr2
    | exc c fs sg3 h3 => exact WantsS.rebase (D := D) (r := .exc c fs sg3 h3) (oth _ (eb.trans e) trivial) st02 sr2
    | bad => exact (oth _ (eb.trans e) trivial : False).elim
theorem js_for {tg iter : Expr} {body : List Stmt} {fi : Ix} {g : Gx} {b : Sx} (hp : PassesOwn (model X.prog X.w) X.A X.env X.xe) (hc : X.calm = true) (hi : JI T X W tg iter fi) (hg : JG T X tg g) (hb : JSs T X W body b)
    (hs : ∀ x, foldedSetIterable iter X.env x = pure x := by intro _; rfl) : JS T X W (.For tg iter body [] pos) (xFor fi g b) := by
  refine ps_imp (ps_for hp hc hi hg hb hs) fun D σ H ⟨io, h, F, sg, sr, rs, w⟩ => ⟨io, h, F, sg, sr, rs, ?_⟩
  unfold xFor at w
  cases e : fi sg h with
  | bad => rw [e] at w; exact w
  | exc c fs h1 => rw [e] at w; exact fun io' F' H' d st sr xr => w io' F' H' σ d st sr (rs.step st) xr
  | ok s h1 =>
    rw [e] at w
    intro io1 F1 H1 J st1 sr1 so
    have rs1 := rs.step st1
    cases s with
    | items vs =>
      have w1 := WantsS.rebase w st1 sr1
      refine ⟨fun i m σ H => m = vs.length - i ∧ i ≤ vs.length ∧ ∃ io h F sg, SR T X.K io h F H ∧ RSt T X.K io h.length F sg σ ∧ h1.length ≤ h.length ∧ (∀ k, k < h1.length → io k = io1 k) ∧ (∀ b o, F1 b = some o → F b = some o) ∧ WantsS T X.K io h.length F H W D (forItems (bodyOf g b) (vs.drop i) sg h),
        ⟨vs.length, by simp, Nat.zero_le _, io1, h1, F1, sg, sr1, rs1, Nat.le_refl _, fun _ _ => rfl, fun _ _ e => e, by simpa using w1⟩, ?_⟩
      rintro i m σ2 H2 ⟨rfl, hi', io2, h2, F2, sg2, sr2, rs2, hn2, he2, hF2, w2⟩
      have y := so i io2 h2 F2 H2 sr2 hn2 he2 hF2 hi'
      by_cases hlt : i < vs.length
      · have ev : vs[i]? = some vs[i] := by simp [hlt]
        rw [ev] at y
        rw [List.drop_eq_getElem_cons hlt] at w2
        refine .inr ⟨y.1, fun σ3 H3 => ∃ io h F sg, SR T X.K io h F H3 ∧ RSt T X.K io h.length F sg σ3 ∧ h1.length ≤ h.length ∧ (∀ k, k < h1.length → io k = io1 k) ∧ (∀ b o, F1 b = some o → F b = some o) ∧ WantsS T X.K io h.length F H3 W D (forItems (bodyOf g b) (vs.drop (i + 1)) sg h),
          fun σ' H' n' => ⟨vs.length - (i + 1), by omega, rfl, hlt, n'⟩, turn_of sr2 rs2 y (fun sg3 h3 io3 F3 H3 σ3 eb st3 sr3 rs3 => ?_) (fun sg3 h3 eb => ?_) (fun r eb hr => ?_)⟩
        · unfold forItems at w2
          refine ⟨io3, h3, F3, sg3, sr3, rs3, Nat.le_trans hn2 st3.le, fun k hk => (st3.eq k (Nat.lt_of_lt_of_le hk hn2)).trans (he2 k hk), fun b o e => st3.phi b o (hF2 b o e), ?_⟩
          rcases eb with eb | eb
          · rw [eb] at w2; exact WantsS.rebase w2 st3 sr3
          · rw [eb] at w2; exact WantsS.rebase w2 st3 sr3
        · unfold forItems at w2; rw [eb] at w2; exact w2
        · unfold forItems at w2; rw [eb] at w2
          cases r with
          | next _ _ => exact hr.elim
          | cont _ _ => exact hr.elim
          | brk _ _ => exact hr.elim
          | ret v h3 => exact w2
          | exc c fs sg3 h3 => exact w2
          | bad => exact w2
      · have : i = vs.length := by omega
        subst this
        rw [List.getElem?_eq_none (Nat.le_refl _)] at y
        rw [List.drop_length] at w2
        exact .inl ⟨y, w2 io2 F2 H2 σ2 .refl sr2 rs2⟩
    | ref k =>
      have w1 := WantsS.rebase w st1 sr1
      refine ⟨fun i m σ H => ∃ io h F sg, SR T X.K io h F H ∧ RSt T X.K io h.length F sg σ ∧ h1.length ≤ h.length ∧ (∀ k, k < h1.length → io k = io1 k) ∧ (∀ b o, F1 b = some o → F b = some o) ∧ WantsS T X.K io h.length F H W D (forRef (bodyOf g b) k m i sg h),
        ⟨1000000, io1, h1, F1, sg, sr1, rs1, Nat.le_refl _, fun _ _ => rfl, fun _ _ e => e, w1⟩, ?_⟩
      rintro i m σ2 H2 ⟨io2, h2, F2, sg2, sr2, rs2, hn2, he2, hF2, w2⟩
      cases m with
      | zero => exact w2.elim
      | succ m =>
        unfold forRef at w2
        cases ek : k h2 with
        | none => rw [ek] at w2; exact w2.elim
        | some xs =>
          rw [ek] at w2
          · have y := so i io2 h2 F2 H2 xs sr2 hn2 he2 hF2 ek
            dsimp only at w2
            cases ev : xs[i]? with
            | none => rw [ev] at w2 y; exact .inl ⟨y, w2 io2 F2 H2 σ2 .refl sr2 rs2⟩
            | some v =>
              rw [ev] at w2 y
              dsimp only at w2
              refine .inr ⟨y.1, fun σ3 H3 => ∃ io h F sg, SR T X.K io h F H3 ∧ RSt T X.K io h.length F sg σ3 ∧ h1.length ≤ h.length ∧ (∀ k, k < h1.length → io k = io1 k) ∧ (∀ b o, F1 b = some o → F b = some o) ∧ WantsS T X.K io h.length F H3 W D (forRef (bodyOf g b) k m (i + 1) sg h),
                fun σ' H' n' => ⟨m, Nat.lt_succ_self _, n'⟩, turn_of sr2 rs2 y (fun sg3 h3 io3 F3 H3 σ3 eb st3 sr3 rs3 => ?_) (fun sg3 h3 eb => ?_) (fun r eb hr => ?_)⟩
              · refine ⟨io3, h3, F3, sg3, sr3, rs3, Nat.le_trans hn2 st3.le, fun k hk => (st3.eq k (Nat.lt_of_lt_of_le hk hn2)).trans (he2 k hk), fun b o e => st3.phi b o (hF2 b o e), ?_⟩
                rcases eb with eb | eb
                · rw [eb] at w2; exact WantsS.rebase w2 st3 sr3
                · rw [eb] at w2; exact WantsS.rebase w2 st3 sr3
              · rw [eb] at w2; exact w2
              · rw [eb] at w2
                cases r with
                | next _ _ => exact hr.elim
                | cont _ _ => exact hr.elim
                | brk _ _ => exact hr.elim
                | ret v h3 => exact w2
                | exc c fs sg3 h3 => exact w2
                | bad => exact w2
      /-! the things that are walked -/
/-- a list or a tuple -/
def srcOf : Val → Option Src
  | .lst vs => some (.items vs)
  | .tup vs => some (.items vs)
  | .ref k => some (.ref (curL k))
  | _ => none
def xISeq (e : Ex) : Ix := fun sg h => match e sg h with
  | .ok v h1 => (match v with
    | .lst vs => .ok (.items vs) h1
    | .ref k => (match h1[k]? with
      | some (.lst _) => .ok (.ref (curL k)) h1
      | _ => .bad)
    | _ => .bad)
  | .exc c fs h1 => .exc c fs h1
  | .bad => .bad
def xITup (e : Ex) : Ix := fun sg h => match e sg h with
  | .ok v h1 => (match v with
    | .tup vs => .ok (.items vs) h1
    | _ => .bad)
  | .exc c fs h1 => .exc c fs h1
  | .bad => .bad
theorem ji_list {tg iter : Expr} (he : JE T X W iter fe) : JI T X W tg iter (xISeq fe) := by
  refine pi_imp (pi_list he) fun σ H R ⟨io, h, F, sg, sr, rs, w⟩ => ⟨io, h, F, sg, sr, rs, ?_⟩
  unfold xISeq at w
  cases e : fe sg h with
  | bad => rw [e] at w; exact w
  | exc c fs h1 => rw [e] at w; exact w
  | ok v h1 =>
    rw [e] at w
    intro io1 F1 H1 x st1 sr1 vr
    cases vr with
    | @lst vs a xs q r =>
      refine ⟨a, rfl, ⟨xs, sqL_mono sr1.sub q⟩, w io1 F1 H1 _ st1 sr1 fun i io2 h2 F2 H2 sr2 hn he hF hi => ?_⟩
      have q2 : SqL X.K H2 a xs := sqL_mono sr2.sub (sqL_mono hF q)
      by_cases hlt : i < vs.length
      · have ev : vs[i]? = some vs[i] := by simp [hlt]
        obtain ⟨x', ex, rx⟩ := r.get ev
        rw [ev]
        refine ⟨⟨xs, x', q2, ex⟩, fun x H' ⟨e', y⟩ => ?_⟩
        subst e'
        have : x = x' := Option.some.inj ((y xs q2).symm.trans ex)
        subst this
        exact ⟨F2, .refl, sr2, rx.mono hn he hF⟩
      · rw [List.getElem?_eq_none (by omega)]
        exact ⟨xs, q2, by rw [← r.length]; omega⟩
    | ref k hk =>
      dsimp only at w
      cases ek : h1[k]? with
      | none => rw [ek] at w; exact w.elim
      | some ob =>
        rw [ek] at w
        cases ob with
        | ins c vs => exact w.elim
        | dct ks vs => exact w.elim
        | lst vs =>
          obtain ⟨xs, ea, r⟩ := sr1.obj k _ ek
          refine ⟨io1 k, rfl, ⟨xs, SqL.of ea⟩, w io1 F1 H1 _ st1 sr1 fun i io2 h2 F2 H2 ys sr2 hn he hF ek2 => ?_⟩
          obtain ⟨xs2, ea2, r2⟩ := sr2.obj k _ (curL_ok ek2)
          rw [he k hk] at ea2
          cases ev : ys[i]? with
          | none => exact ⟨xs2, SqL.of ea2, by rw [← r2.length]; exact List.getElem?_eq_none_iff.mp ev⟩
          | some v =>
            obtain ⟨x', ex, rx⟩ := r2.get ev
            refine ⟨⟨xs2, x', SqL.of ea2, ex⟩, fun x H' ⟨e', y⟩ => ?_⟩
            subst e'
            have : x = x' := Option.some.inj ((y xs2 (SqL.of ea2)).symm.trans ex)
            subst this
            exact ⟨F2, .refl, sr2, rx⟩
    | _ => exact w.elim
theorem ji_tup {tg iter : Expr} (he : JE T X W iter fe) : JI T X W tg iter (xITup fe) := by
  refine pi_imp (pi_tup he) fun σ H R ⟨io, h, F, sg, sr, rs, w⟩ => ⟨io, h, F, sg, sr, rs, ?_⟩
  unfold xITup at w
  cases e : fe sg h with
  | bad => rw [e] at w; exact w
  | exc c fs h1 => rw [e] at w; exact w
  | ok v h1 =>
    rw [e] at w
    intro io1 F1 H1 x st1 sr1 vr
    cases vr with
    | @tup vs a xs q r =>
      refine ⟨a, rfl, ⟨xs, sqT_mono sr1.sub q⟩, w io1 F1 H1 _ st1 sr1 fun i io2 h2 F2 H2 sr2 hn he hF hi => ?_⟩
      have q2 : SqT X.K H2 a xs := sqT_mono sr2.sub (sqT_mono hF q)
      by_cases hlt : i < vs.length
      · have ev : vs[i]? = some vs[i] := by simp [hlt]
        obtain ⟨x', ex, rx⟩ := r.get ev
        rw [ev]
        refine ⟨⟨xs, x', q2, ex⟩, fun x H' ⟨e', y⟩ => ?_⟩
        subst e'
        have : x = x' := Option.some.inj ((y xs q2).symm.trans ex)
        subst this
        exact ⟨F2, .refl, sr2, rx.mono hn he hF⟩
      · rw [List.getElem?_eq_none (by omega)]
        exact ⟨xs, q2, by rw [← r.length]; omega⟩
    | _ => exact w.elim
/-- range -/
def rng (lo : Int) : Nat → List Val
  | 0 => []
  | n + 1 => .int lo :: rng (lo + 1) n
theorem rng_len : ∀ (lo : Int) (n : Nat), (rng lo n).length = n
  | _, 0 => rfl
  | lo, n + 1 => by simp [rng, rng_len (lo + 1) n]
theorem rng_get : ∀ (lo : Int) (n i : Nat), i < n → (rng lo n)[i]? = some (.int (lo + i))
  | _, 0, _, h => absurd h (Nat.not_lt_zero _)
  | lo, n + 1, 0, _ => by simp [rng]
  | lo, n + 1, i + 1, h => by
    have := rng_get (lo + 1) n i (by omega)
    simp only [rng, List.getElem?_cons_succ, this]
    congr 2
    omega
theorem src_rng {K : PySem.W.Frag} {io0 : Nat → Addr} {n0 : Nat} {F0 : Hp} (lo : Int) (n : Nat) : SrcOk T K io0 n0 F0 (Itr lo n) (.items (rng lo n)) := by
  intro i io h F H sr hn he hF hi
  rw [rng_len] at hi
  by_cases hlt : i < n
  · rw [rng_get lo n i hlt]
    refine ⟨hlt, fun x H' ⟨e1, e2⟩ => ?_⟩
    subst e1 e2
    exact ⟨F, .refl, sr, .int _⟩
  · rw [List.getElem?_eq_none (by rw [rng_len]; omega)]
    exact Nat.not_lt.mp hlt
def small62 (i : Int) : Bool := decide (-4611686018427387904 ≤ i) && decide (i < 4611686018427387904)
theorem small62_ok {i : Int} (h : small62 i = true) : -(2 ^ 62) ≤ i ∧ i < 2 ^ 62 := by
  unfold small62 at h
  simp only [Bool.and_eq_true, decide_eq_true_eq] at h
  have e : (2 : Int) ^ 62 = 4611686018427387904 := by decide
  omega
def xIRng1 (l : Lx) : Ix := fun sg h => match l sg h with
  | .ok [.int j] h1 => if small62 j then .ok (.items (rng 0 j.toNat)) h1 else .bad
  | .ok _ _ => .bad
  | .exc c fs h1 => .exc c fs h1
  | .bad => .bad
def xIRng2 (l : Lx) : Ix := fun sg h => match l sg h with
  | .ok [.int i, .int j] h1 => if small62 i && small62 j then .ok (.items (rng i (j - i).toNat)) h1 else .bad
  | .ok _ _ => .bad
  | .exc c fs h1 => .exc c fs h1
  | .bad => .bad
theorem ji_range1 {tg : Expr} {fl : Lx} {p : Pos} (hg : Gl X "range") (hm : X.mg "range" = none) (ha : JA T X W [a] fl) (hs : starEach [a] X.env = [(false, eval a X.env)] := by rfl) : JI T X W tg (.Call (.Name "range" p) [a] [] pos) (xIRng1 fl) := by
  refine pi_imp (pi_range1 hg hm ha hs) fun σ H R ⟨io, h, F, sg, sr, rs, w⟩ => ⟨io, h, F, sg, sr, rs, ?_⟩
  unfold xIRng1 at w
  cases e : fl sg h with
  | bad => rw [e] at w; exact w
  | exc c fs h1 => rw [e] at w; exact w
  | ok vs h1 =>
    rw [e] at w
    intro io1 F1 H1 xs st1 sr1 vrs
    match vs, vrs, w with
    | [.int j], .cons (.int _) .nil, w =>
      by_cases hj : small62 j = true
      · simp only [hj, if_true] at w
        obtain ⟨h1, h2⟩ := small62_ok hj
        exact ⟨j, rfl, h1, h2, w io1 F1 H1 _ st1 sr1 (src_rng 0 j.toNat)⟩
      · simp only [hj] at w; exact w.elim
    | [], _, w => exact w.elim
    | .non :: _, _, w => exact w.elim
    | .bl _ :: _, _, w => exact w.elim
    | .str _ :: _, _, w => exact w.elim
    | .tup _ :: _, _, w => exact w.elim
    | .lst _ :: _, _, w => exact w.elim
    | .obj _ _ :: _, _, w => exact w.elim
    | .ref _ :: _, _, w => exact w.elim
    | .glo _ :: _, _, w => exact w.elim
    | .dct _ _ :: _, _, w => exact w.elim
    | .int _ :: _ :: _, _, w => exact w.elim
theorem ji_range2 {tg : Expr} {fl : Lx} {p : Pos} (hg : Gl X "range") (hm : X.mg "range" = none) (ha : JA T X W [a, b] fl) (hs : starEach [a, b] X.env = [(false, eval a X.env), (false, eval b X.env)] := by rfl) (hs2 : starEach [b] X.env = [(false, eval b X.env)] := by rfl) : JI T X W tg (.Call (.Name "range" p) [a, b] [] pos) (xIRng2 fl) := by
  refine pi_imp (pi_range2 hg hm ha hs hs2) fun σ H R ⟨io, h, F, sg, sr, rs, w⟩ => ⟨io, h, F, sg, sr, rs, ?_⟩
  cases e : fl sg h with
  | bad => unfold xIRng2 at w; rw [e] at w; exact w
  | exc c fs h1 => unfold xIRng2 at w; rw [e] at w; exact w
  | ok vs h1 =>
    intro io1 F1 H1 xs st1 sr1 vrs
    have z : (∃ i j, vs = [.int i, .int j] ∧ small62 i = true ∧ small62 j = true) ∨ xIRng2 fl sg h = .bad := by
      unfold xIRng2
      rw [e]
      split
      · rename_i vs' i j h' heq
        cases heq
        by_cases q : (small62 i && small62 j) = true
        · rw [Bool.and_eq_true] at q; exact .inl ⟨i, j, rfl, q.1, q.2⟩
        · right; simp [q]
      · right; rfl
      · rename_i q; cases q
      · right; rfl
    rcases z with ⟨i, j, rfl, h1', h2'⟩ | z
    · unfold xIRng2 at w
      rw [e] at w
      simp only [h1', h2', Bool.and_self, if_true] at w
      cases vrs with
      | cons r1 rr =>
        cases rr with
        | cons r2 rr =>
          cases rr
          cases r1
          cases r2
          obtain ⟨a1, a2⟩ := small62_ok h1'
          obtain ⟨b1, b2⟩ := small62_ok h2'
          exact ⟨i, j, rfl, ⟨a1, a2, b1, b2⟩, w io1 F1 H1 _ st1 sr1 (src_rng i (j - i).toNat)⟩
    · rw [z] at w; exact w.elim
end
end Py

namespace Py
open PySem PySem.Spec PyProof.Rows L2
/-! ### room, and no repr under way: a promise of a def for callers of whom that is known -/
structure RoomG (k : Nat) (A : Around) : Prop where
  rm : Room k A
  gd : A.guards = some []
theorem RoomG.mono {j k : Nat} {A : Around} (r : RoomG k A) (h : j ≤ k) : RoomG j A := ⟨r.rm.mono h, r.gd⟩
theorem RoomG.deeper {k : Nat} {A : Around} (r : RoomG (k + 1) A) (env : Env) : RoomG k (A.deeper env) := ⟨r.rm.deeper env, r.gd⟩
theorem RoomG.in1 {k : Nat} {A : Around} (r : RoomG (k + 1) A) : RoomG k A.in1 := ⟨r.rm.in1, r.gd⟩
theorem RoomG.make {k : Nat} {A : Around} (r : RoomG (k + 1) A) (C : Addr) (us : List Value) (kw : List (Str × Value)) : RoomG k (A.under (.builtin "type.__call__" ⟨.ref C :: us, kw⟩)) := ⟨r.rm.make C us kw, r.gd⟩
theorem RoomG.units {k : Nat} {A : Around} (r : RoomG k A) : A.units + 64 < cLine := r.rm.units
theorem RoomG.units0 {k : Nat} {A : Around} (r : RoomG k A) : A.units < cLine := r.rm.units0
theorem RoomG.un {k : Nat} {A : Around} (r : RoomG k A) : A.units + 16 * k + 200 < cLine := r.rm.un
structure FnG (P : Program) (w : World) (K : PySem.W.Frag) (mg : Str → Option Value) (base : Heap) (C : CXT) (k : Nat) (f : Addr) (fd : FuncData) (ps : List Str) (sp : Sp) : Prop where
  len : ∀ vs H Q E, sp vs H Q E → vs.length = ps.length
  run : ∀ (A : Around) (outer : List Env) (s : Shared) (H : Hp) (args : Args) (us : List Value) (vs : List V) (Q : VK) (E : XK), RoomG k A → Env0 P w K mg base A outer s H → BindsTo s fd args (ps.zip us) → Vals vs us → sp vs H Q E →
    codeAny (model P w) A (.call (.ref f) args) (CR C outer P w H s Q E) s
section
variable {P : Program} {w : World} {K : PySem.W.Frag} {mg : Str → Option Value} {base : Heap} {C : CXT} {k : Nat} {f : Addr} {x qual : Str} {params : Arguments} {body : List Stmt} {scope : Scope} {dvs : List V} {kws : List (Str × V)} {fd : FuncData} {N ps : List Str} {sp : Sp}
/-- the promise from the body's reading -/
theorem fnG_of (FD : FunD K x qual params body scope dvs kws f fd) (S : FnScope N ps scope) (hlen : ∀ vs H Q E, sp vs H Q E → vs.length = ps.length)
    (hbd : ∀ (cdv : Value) (A : Around) (outer : List Env) (s : Shared) (H : Hp) (vs : List V) (Q : VK) (E : XK), RoomG k (A.deeper (envOfC qual scope s.heap.objs.size f cdv)) → sp vs H Q E →
      ∃ t, PSs (cxOf C P w K mg base N qual scope f cdv A outer s H E) body t ∧ t { nx := fun _ H' => Q .non H', rt := Q } (start N vs) H) : FnG P w K mg base C (k + 1) f fd ps sp := by
  obtain ⟨oc, od, dV, kV, doc, pm, an, cdv, ct, osl, rfl, lk, hcd, _, _⟩ := FD.ex
  refine ⟨hlen, fun A outer s H args us vs Q E room e0 hbind rel hs => ?_⟩
  have KI : K.In s.heap := e0.mod.kin.keeps fun b o z => (e0.bs b o z).1
  have nolim : s.heap.NoLimit := e0.mod.nolimit.keeps fun b o z => (e0.bs b o z).1
  have kinds : ∀ y ∈ ps.zip us, scope.names.lookup y.1 = some .local ∨ (scope.names.lookup y.1 = some .cell ∧ ((cellsFrom (s.heap.objs.size + 1) scope.names []).lookup y.1).isSome = true) := by
    rintro ⟨n, v⟩ hy
    have hn := S.par n (List.of_mem_zip hy).1
    exact hn.elim .inl fun z => .inr ⟨z, PySem.W.cellsFrom_some _ _ _ (.inl z)⟩
  refine codeAny_call_function room.rm.depth (KI _ _ lk) rfl S.co S.gen rfl (PySem.W.codeRec_of KI hcd) (hbind _ _ _ _ (wpAny_newFunctionEnv_cells S.kind kinds fun env henv s1 new => ?_))
  subst henv
  refine ⟨nolim.keeps new.toInCall.keep, codeAny_func ?_⟩
  obtain ⟨t, rt, wt⟩ := hbd cdv A outer s H vs Q E (room.deeper _) hs
  have I0 : L2.Inv (cxOf C P w K mg base N qual scope f cdv A outer s H E) [] (start N vs) H s1 := inv_start S room.rm.hd e0 (hlen _ _ _ _ hs) rel new
  refine wpAny_mono (rt.run [] s1 _ H _ I0 wt) (fun flow s2 h2 => ?_) fun _ _ z => z
  match flow, h2 with
  | .ret u, ⟨v, σ2, H2, J, rv, q⟩ => exact ⟨v, H2, J.os, J.bare, J.base, J.hok, rv, q⟩
  | .next, ⟨σ2, H2, J, q⟩ => exact ⟨V.non, H2, J.os, J.bare, J.base, J.hok, rfl, q⟩
  | .brk, ⟨_, _, _, q⟩ => exact False.elim q
  | .cont, ⟨_, _, _, q⟩ => exact False.elim q
end
section
variable {X : Cx} {C : CXT} {k : Nat} {f : Addr} {fd : FuncData} {ps : List Str} {sp : Sp} {dvs : List V} {ds : List Value} {E : L2.St → XK} {x : Str} {p pos : Pos} {e : Expr} {es : List Expr} {t : TA}
theorem run_fnG {pins : List (Addr × PySem.Obj)} {σ : L2.St} {H : Hp} {s : Shared} {Q : VK} {us : List Value} {vs : List V} (F : FnG X.prog X.w X.K X.mg X.base C k f fd ps sp) (hr : RoomG k X.A) (hb : Binds X.K fd ps ds) (hd : Vals dvs ds) (hx : PassesAt C X σ (E σ))
    (I : L2.Inv X pins σ H s) (r : Vals vs us) (h : sp (vs ++ dvs) H Q (E σ)) : wpAny (model X.prog X.w) X.A (call (.ref f) us) (EP X pins σ Q) X.xe s := by
  have both : Vals (vs ++ dvs) (us ++ ds) := r.append hd
  have many : (us ++ ds).length = ps.length := both.length.symm.trans (F.len _ _ _ _ h)
  refine wpAny_call (codeAny_mono (F.run X.A X.stack s H ⟨us, []⟩ (us ++ ds) (vs ++ dvs) Q (E σ) hr I.env0 (hb s us I.kIn many) both h) fun res s' hres => ?_)
  match res, hres with
  | .error er, z => exact hx pins H s er s' I z
  | .ok (.ret u), z => exact I.after z
  | .ok .next, z => exact False.elim z
  | .ok .brk, z => exact False.elim z
  | .ok .cont, z => exact False.elim z
theorem pe_callG (F : FnG X.prog X.w X.K X.mg X.base C k f fd ps sp) (hr : RoomG k X.A) (hg : Gl X x) (hm : X.mg x = some (.ref f)) (hk : PySem.W.keepIn X.K (.ref f) = true) (hb : Binds X.K fd ps ds) (hd : Vals dvs ds) (hx : ∀ σ, PassesAt C X σ (E σ))
    (ha : PA X (e :: es) t) (hdb : (x == ("__debug__" : Str)) = false) (he : starEach (e :: es) X.env = (false, eval e X.env) :: starEach es X.env) (hpl : (backTo pos (starEach es X.env)).any (·.1) = false) :
    PE X (.Call (.Name x p) (e :: es) [] pos) (tCallSD sp dvs E t) :=
  ⟨fun pins s σ H Q I h => wpAny_Call_Name_kw (ld_glob I hg hm (PySem.W.callWith_K (h₀ := X.base) I.ok.mod.kin hk (thn (ha.run pos pins s σ H _ I h) fun us s1 ⟨vs, H1, I1, r, q⟩ => ⟨I1.kIn, run_fnG F hr hb hd (hx σ) I1 r q⟩) he hpl) hdb)⟩
end
/-- the law's call -/
theorem law_callG {P : Program} {w : World} {K : PySem.W.Frag} {mg mb : Str → Option Value} {C : CXT} {k : Nat} {fa a : Addr} {fd : FuncData} {x : Str} {sp : Sp} {s1 : Shared} {vs : List Value} {ns : List Int}
    (KX : K.In s1.heap) (hns : s1.heap.Ns mainGlobals mg) (hbn : s1.heap.Ns builtinsNs mb) (hbb : ∀ x : Str, x ≠ "__name__" → mb x = bootBuiltins x) (hlim : s1.heap.NoLimit) (hg : s1.gens = #[])
    (ha : s1.heap.get? a = some { cls := .type "list", data := .seq vs.toArray }) (hi : IntsAre vs ns) (hl : ns.length ≤ sizeLine) (hr : RoomG k callerA)
    (F : ∀ base : Heap, K.In base → base.Ns mainGlobals mg → FnG P w K mg base C k fa fd [x] sp) (hbind : ∀ (s : Shared) (u : Value), BindsTo s fd ⟨[u], []⟩ [(x, u)])
    (hsp : ∀ H : Hp, Only H → SqL K H a (ns.map V.int) → sp [.ref a] H (fun v _ => v = .bl true) fun _ _ _ => False)
    (hCX : ∀ H e s', C [] H s1 (fun _ _ _ => False) e s' → False) :
    codeAny (model P w) callerA (.call (.ref fa) ⟨[.ref a], []⟩) (fun r s' => r = .ok (.ret (.bool true)) ∧ OldK s1.heap s'.heap ∧ s'.os = s1.os ∧ AllBare s'.gens) s1 := by
  have key : ∀ H : Hp, Only H → SqL K H a (ns.map V.int) → HOk P w H s1.heap → (∀ b u, H b = some u → b = a ∧ K.lookup a = none) →
      codeAny (model P w) callerA (.call (.ref fa) ⟨[.ref a], []⟩) (fun r s' => r = .ok (.ret (.bool true)) ∧ OldK s1.heap s'.heap ∧ s'.os = s1.os ∧ AllBare s'.gens) s1 := by
    intro H only sq hok lone
    have seen : ∀ {b : Addr} {o : PySem.Obj}, s1.heap.get? b = some o → H b = none → (hidT s1.heap H).get? b = some o := hidT_get
    have noDict : ∀ {b : Addr} {o : PySem.Obj} {es : Array DictEntry} {ep : Nat}, s1.heap.get? b = some o → o.data = .dict es ep → H b = none := by
      intro b o es ep e d
      cases q : H b with
      | none => rfl
      | some u =>
        obtain ⟨rfl, _⟩ := lone b u q
        rw [ha] at e
        cases e
        cases (show Data.seq vs.toArray _ = Data.dict es ep from d)
    have ns2 : ∀ {b : Addr} {m : Str → Option Value}, s1.heap.Ns b m → (hidT s1.heap H).Ns b m := fun ⟨o, es, ep, e, d, r⟩ => ⟨o, es, ep, seen e (noDict e d), d, r⟩
    have KB : K.In (hidT s1.heap H) := fun b o e => seen (KX b o e) (by
      cases q : H b with
      | none => rfl
      | some u =>
        obtain ⟨rfl, z⟩ := lone b u q
        rw [z] at e
        cases e)
    have md : Mod K mg (hidT s1.heap H) := ⟨KB, ns2 hns, ⟨mb, ns2 hbn, hbb⟩, let ⟨mc, l1, l2⟩ := hlim; ⟨mc, ns2 l1, l2⟩⟩
    have en : Env0 P w K mg (hidT s1.heap H) callerA [] s1 H := ⟨rfl, md, fun b o e => of_hidT e, Nat.le_of_eq (hidT_size _ _), trivial, fun b z => (List.not_mem_nil (show b ∈ ([] : List Addr) from z)).elim, hok, .of_eq hg⟩
    refine codeAny_mono ((F _ KB (ns2 hns)).run callerA [] s1 H ⟨[.ref a], []⟩ [.ref a] [.ref a] _ _ hr en (hbind s1 (.ref a)) (.cons rfl .nil) (hsp H only sq)) fun res s2 h2 => ?_
    match res, h2 with
    | .error e, z => exact (hCX H e s2 z).elim
    | .ok .next, z => exact False.elim z
    | .ok .brk, z => exact False.elim z
    | .ok .cont, z => exact False.elim z
    | .ok (.ret u), ⟨v, H2, os, bare, un, hok2, rv, qv⟩ =>
      cases (show v = .bl true from qv)
      cases (show u = Value.bool true from rv)
      refine ⟨rfl, OldK.of_keep fun b o e => ?_, os, bare⟩
      cases q : H b with
      | none => exact un.keep b o e q (fun z => (List.not_mem_nil (show b ∈ ([] : List Addr) from z)).elim) (by simp)
      | some u =>
        rcases only b with z | ⟨ob, xs, z⟩
        · rw [q] at z
          cases z
        · have e1 := (hok b _ z).1
          have e2 := (hok2 b _ (un.frzs b ob _ z)).1
          rw [e] at e1
          cases e1
          exact e2
  have rel := vals_ints hi
  have many := hi.length
  cases hk : K.lookup a with
  | some o =>
    have e := KX a o hk
    rw [ha] at e
    cases e
    exact key (fun _ => none) (fun _ => .inl rfl) (.inr ⟨_, vs.toArray, _, hk, rfl, rfl, rfl, by rw [List.size_toArray, many]; exact hl, by simpa using rel⟩) (fun b u z => (nomatch z)) fun b u z => (nomatch z)
  | none =>
    let H0 : Hp := fun b => if b = a then some (.frz { cls := .type "list", data := .seq vs.toArray } (.lst (ns.map V.int))) else none
    have at_ : H0 a = some (.frz { cls := .type "list", data := .seq vs.toArray } (.lst (ns.map V.int))) := if_pos rfl
    have off : ∀ b, b ≠ a → H0 b = none := fun b hb => if_neg hb
    have who : ∀ b u, H0 b = some u → b = a := fun b u z => Classical.byContradiction fun hb => by rw [off b hb] at z; cases z
    refine key H0 (fun b => ?_) (.inl (.inr ⟨_, at_⟩)) (fun b u z => ?_) fun b u z => ⟨who b u z, hk⟩
    · by_cases hb : b = a
      · subst hb; exact .inr ⟨_, _, at_⟩
      · exact .inl (off b hb)
    · obtain rfl := who b u z
      rw [at_] at z
      cases z
      exact ⟨ha, by rw [List.length_map]; exact hl, vs, _, rel, ha⟩
end Py

namespace Py
open PySem PySem.Spec PyProof.Rows L2

/-! ### a def as a function -/
abbrev Fx := Hh → List Val → Res
def fnOf (np nN : Nat) (body : Sx) : Fx := fun h as => if as.length = np then (match body (as.map some ++ List.replicate (nN - np) none) h with
  | .ret v h' => .ok v h'
  | .next _ h' => .ok .non h'
  | .exc c fs _ h' => .exc c fs h'
  | _ => .bad) else .bad
def spF (T : Tb) (K : PySem.W.Frag) (f : Fx) : Sp := fun vs H Q E => ∃ io h F as, SR T K io h F H ∧ VRs T K io h.length F as vs ∧ Wants T K io h.length F H E Q (f h as)
theorem rst_start {T : Tb} {K : PySem.W.Frag} {io : Nat → Addr} {n : Nat} {F : Hp} {as : List Val} {vs : List V} (r : VRs T K io n F as vs) (m : Nat) : RSt T K io n F (as.map some ++ List.replicate m none) (vs.map some ++ List.replicate m none) := by
  have hl := r.length
  refine ⟨by simp [hl], fun i v e => ?_⟩
  by_cases hi : i < as.length
  · rw [List.getElem?_append_left (by simpa using hi), List.getElem?_map] at e
    have ev : as[i]? = some v := by
      cases q : as[i]? with
      | none => rw [q] at e; simp at e
      | some u => rw [q] at e; simp at e; rw [e]
    obtain ⟨x, ex, rx⟩ := r.get ev
    exact ⟨x, by rw [List.getElem?_append_left (by simp; omega), List.getElem?_map, ex]; rfl, rx⟩
  · rw [List.getElem?_append_right (by simp; omega)] at e
    rw [List.getElem?_replicate] at e
    split at e <;> simp at e
theorem fn_ok {P : Program} {w : World} {K : PySem.W.Frag} {mg : Str → Option Value} {base : Heap} {x qual : Str} {params : Arguments} {body : List Stmt} {scope : Scope} {dvs : List V} {kws : List (Str × V)} {f : Addr} {fd : FuncData} {T : Tb} {N ps : List Str} {k : Nat} {fb : Sx}
    (FD : FunD K x qual params body scope dvs kws f fd) (S : FnScope N ps scope)
    (hb : ∀ (cdv : Value) (A : Around) (outer : List Env) (s : Shared) (H : Hp) (E : XK), RoomG k (A.deeper (envOfC qual scope s.heap.objs.size f cdv)) →
      JSs T (cxOf (CX P w) P w K mg base N qual scope f cdv A outer s H E) (fun c d _ H => E c d H) body fb) :
    FnG P w K mg base (CX P w) (k + 1) f fd ps (spF T K (fnOf ps.length N.length fb)) := by
  refine fnG_of FD S (fun vs H Q E ⟨io, h, F, as, sr, vrs, w⟩ => ?_) fun cdv A outer s H vs Q E hr ⟨io, h, F, as, sr, vrs, w⟩ => ⟨_, hb cdv A outer s H E hr, ?_⟩
  · unfold fnOf at w
    by_cases hl : as.length = ps.length
    · rw [← vrs.length]; exact hl
    · rw [if_neg hl] at w; exact w.elim
  · unfold fnOf at w
    by_cases hl : as.length = ps.length
    · rw [if_pos hl] at w
      have e : L2.start N vs = vs.map some ++ List.replicate (N.length - ps.length) none := by unfold L2.start; rw [← vrs.length, hl]
      rw [e]
      refine ⟨io, h, F, _, sr, rst_start vrs _, ?_⟩
      cases q : fb (as.map some ++ List.replicate (N.length - ps.length) none) h with
      | next sg h1 => rw [q] at w; exact fun io' F' H' σ' st sr' rs' => w io' F' H' _ st sr' .non
      | ret v h1 => rw [q] at w; exact w
      | brk sg h1 => rw [q] at w; exact w.elim
      | cont sg h1 => rw [q] at w; exact w.elim
      | exc c fs sg h1 => rw [q] at w; exact fun io' F' H' σ' d st sr' rs' xr => w io' F' H' d st sr' xr
      | bad => rw [q] at w; exact w.elim
    · rw [if_neg hl] at w; exact w.elim

/-! ### a call whose arguments bear no reference -/
mutual
def pureV : Val → Bool
  | .ref _ => false
  | .tup vs => pureVs vs
  | .lst vs => pureVs vs
  | .obj _ vs => pureVs vs
  | .dct _ vs => pureVs vs
  | _ => true
def pureVs : List Val → Bool
  | [] => true
  | v :: vs => pureV v && pureVs vs
end
mutual
theorem nkV_pure : ∀ {v : Val} {n : NestedKey}, nkV v = some n → pureV v = true
  | .non, _, _ => rfl
  | .bl _, _, _ => rfl
  | .int _, _, _ => rfl
  | .str _, _, _ => rfl
  | .tup vs, _, e => by
    unfold nkV at e
    cases q : nkVs vs with
    | none => rw [q] at e; cases e
    | some l => unfold pureV; exact nkVs_pure q
  | .lst _, _, e => by simp [nkV] at e
  | .obj _ _, _, e => by simp [nkV] at e
  | .ref _, _, e => by simp [nkV] at e
  | .glo _, _, e => by simp [nkV] at e
  | .dct _ _, _, e => by simp [nkV] at e
theorem nkVs_pure : ∀ {vs : List Val} {n : List NestedKey}, nkVs vs = some n → pureVs vs = true
  | [], _, _ => rfl
  | v :: vs, _, e => by
    unfold nkVs at e
    cases q : nkV v with
    | none => rw [q] at e; cases e
    | some a =>
      cases q2 : nkVs vs with
      | none => rw [q, q2] at e; cases e
      | some b => simp [pureVs, nkV_pure q, nkVs_pure q2]
end
theorem pureVs_mem : ∀ {vs : List Val}, (∀ v ∈ vs, pureV v = true) → pureVs vs = true
  | [], _ => rfl
  | v :: vs, h => by simp [pureVs, h v (by simp), pureVs_mem fun u hu => h u (List.mem_cons_of_mem _ hu)]
theorem KeysOk.pure {ks : List Val} (h : KeysOk ks) : pureVs ks = true := pureVs_mem fun k hk => by
  rcases h.1 with z | z
  · obtain ⟨l, e, _⟩ := z k hk; exact nkV_pure e
  · rcases z k hk with ⟨i, rfl⟩ | ⟨s, rfl⟩ <;> rfl
section
variable {T : Tb} {K : PySem.W.Frag} {io io' : Nat → Addr} {n m : Nat} {F : Hp}
mutual
theorem VR.pure : ∀ {v : Val} {x : V}, VR T K io n F v x → pureV v = true → VR T K io' m F v x
  | _, _, .non, _ => .non
  | _, _, .bl b, _ => .bl b
  | _, _, .int i, _ => .int i
  | _, _, .str s, _ => .str s
  | _, _, .ref k h, e => by simp [pureV] at e
  | _, _, .tup h r, e => .tup h (VRs.pure r (by simpa [pureV] using e))
  | _, _, .lst h r, e => .lst h (VRs.pure r (by simpa [pureV] using e))
  | _, _, .obj h hd r hl, e => .obj h hd (VRs.pure r (by simpa [pureV] using e)) hl
  | _, _, .glo g, _ => .glo g
  | _, _, .dct h hk he r1 r2, e => .dct h hk he (VRs.pure r1 hk.pure) (VRs.pure r2 (by simpa [pureV] using e))
theorem VRs.pure : ∀ {v : List Val} {x : List V}, VRs T K io n F v x → pureVs v = true → VRs T K io' m F v x
  | _, _, .nil, _ => .nil
  | _, _, .cons h t, e => by
    simp [pureVs] at e
    exact .cons (VR.pure h e.1) (VRs.pure t e.2)
end
end
/-! ### freezing: what a call has made never changes any more -/
def frz (T : Nat → List Str) (h : Hh) : Nat → Val → Option Val
  | 0, _ => none
  | n + 1, v => match v with
    | .ref k => (match h[k]? with
      | some (.lst vs) => (vs.mapM (frz T h n)).map .lst
      | some (.ins c vs) => if vs.length = (T c).length then (vs.mapM (frz T h n)).map (.obj c) else none
      | some (.dct ks vs) => (vs.mapM (frz T h n)).map (.dct ks)
      | none => none)
    | .tup vs => (vs.mapM (frz T h n)).map .tup
    | .lst vs => (vs.mapM (frz T h n)).map .lst
    | .obj c vs => (vs.mapM (frz T h n)).map (.obj c)
    | .dct ks vs => (vs.mapM (frz T h n)).map (.dct ks)
    | v => some v
def frzTop (T : Nat → List Str) (h : Hh) (v : Val) : Option Val := match h with
  | [] => some v
  | _ => frz T h 30 v
def frzTops (T : Nat → List Str) (h : Hh) (vs : List Val) : Option (List Val) := match h with
  | [] => some vs
  | _ => vs.mapM (frz T h 30)
section
variable {T : Tb} {K : PySem.W.Frag} {io io' : Nat → Addr} {n m : Nat} {F F' F2 H H' : Hp} {h h' : Hh}
theorem mapM_VRs {g : Val → Option Val} (hg : ∀ v v' x, g v = some v' → VR T K io n F v x → VR T K io' m F2 v' x) : ∀ {vs vs' : List Val} {xs : List V}, vs.mapM g = some vs' → VRs T K io n F vs xs → VRs T K io' m F2 vs' xs
  | [], vs', xs, e, r => by
    simp at e; subst e
    cases r; exact .nil
  | v :: vs, vs', xs, e, r => by
    rw [List.mapM_cons] at e
    cases q : g v with
    | none => rw [q] at e; simp at e
    | some v' =>
      rw [q] at e
      cases q2 : vs.mapM g with
      | none => rw [q2] at e; simp at e
      | some us =>
        rw [q2] at e
        simp at e
        subst e
        cases r with
        | cons a b => exact .cons (hg v v' _ q a) (mapM_VRs hg q2 b)
theorem map_some {α β : Type} {o : Option α} {f : α → β} {b : β} (e : o.map f = some b) : ∃ a, o = some a ∧ f a = b := by
  cases o with
  | none => cases e
  | some a => exact ⟨a, rfl, Option.some.inj e⟩
theorem frz_ok (sr : SR T K io h F H) (hF : ∀ b o, F b = some o → F2 b = some o) (ht : ∀ k, k < h.length → F2 (io k) = H (io k)) (ho : ∀ k dx, k < h.length → H dx = some (.own (io k)) → F2 dx = some (.own (io k))) :
    ∀ (fu : Nat) (v v' : Val) (x : V), frz T.fn h fu v = some v' → VR T K io h.length F v x → VR T K io' 0 F2 v' x
  | 0, _, _, _, e, _ => by cases e
  | fu + 1, v, v', x, e, r => by
    have ih := frz_ok sr hF ht ho fu
    unfold frz at e
    cases r with
    | non => cases e; exact .non
    | bl b => cases e; exact .bl b
    | int i => cases e; exact .int i
    | str s => cases e; exact .str s
    | glo g => cases e; exact .glo g
    | @tup vs a xs q rr =>
      obtain ⟨us, e1, rfl⟩ := map_some e
      exact .tup (sqT_mono hF q) (mapM_VRs ih e1 rr)
    | @lst vs a xs q rr =>
      obtain ⟨us, e1, rfl⟩ := map_some e
      exact .lst (sqL_mono hF q) (mapM_VRs ih e1 rr)
    | @obj c vs a dx xs q qd rr hl =>
      obtain ⟨us, e1, rfl⟩ := map_some e
      exact .obj (hF _ _ q) (hF _ _ qd) (mapM_VRs ih e1 rr) hl
    | @dct ks vs a es ep xs ys q hk he r1 r2 =>
      obtain ⟨us, e1, rfl⟩ := map_some e
      exact .dct (hF _ _ q) hk he ((r1.pure (io' := io') (m := 0) hk.pure).mono (Nat.le_refl _) (fun _ _ => rfl) hF) (mapM_VRs ih e1 r2)
    | ref k hk =>
      dsimp only at e
      cases ek : h[k]? with
      | none => rw [ek] at e; cases e
      | some ob =>
        rw [ek] at e
        have o := sr.obj k ob ek
        cases ob with
        | lst vs =>
          obtain ⟨xs, ea, rr⟩ := o
          obtain ⟨us, e1, rfl⟩ := map_some e
          exact .lst (SqL.of (by rw [ht k hk]; exact ea)) (mapM_VRs ih e1 rr)
        | dct ks vs =>
          obtain ⟨es, ep, xs, ys, ea, hkk, he, r1, r2⟩ := o
          obtain ⟨us, e1, rfl⟩ := map_some e
          exact .dct (by rw [ht k hk]; exact ea) hkk.2 he ((r1.pure (io' := io') (m := 0) hkk.2.pure).mono (Nat.le_refl _) (fun _ _ => rfl) hF) (mapM_VRs ih e1 r2)
        | ins c vs =>
          obtain ⟨dx, xs, ea, ed, rr, hl⟩ := o
          dsimp only at e
          by_cases hz : vs.length = (T.fn c).length
          · rw [if_pos hz] at e
            obtain ⟨us, e1, rfl⟩ := map_some e
            refine .obj (dx := dx) (xs := xs) (by rw [ht k hk, ea, hz, List.take_length]) (ho k dx hk ed) (mapM_VRs ih e1 rr) (by rw [← rr.length]; exact hz)
          · rw [if_neg hz] at e; cases e
theorem VR.ofEmpty {v : Val} {x : V} (r : VR T K io n F v x) (hn : n = 0) : VR T K io' m F v x := r.mono (by omega) (fun k hk => absurd hk (by omega)) (fun _ _ e => e)
theorem VRs.ofEmpty {v : List Val} {x : List V} (r : VRs T K io n F v x) (hn : n = 0) : VRs T K io' m F v x := r.mono (by omega) (fun k hk => absurd hk (by omega)) (fun _ _ e => e)
open Classical in
/-- all that the callee leaves, frozen -/
noncomputable def F2of (io' : Nat → Addr) (n' : Nat) (F' H' : Hp) : Hp := fun b => match F' b with
  | some o => some o
  | none => if (∃ k, k < n' ∧ io' k = b) ∨ (∃ k, k < n' ∧ H' b = some (.own (io' k))) then H' b else none
theorem F2of_sub {n' : Nat} : ∀ b o, F' b = some o → F2of io' n' F' H' b = some o := fun b o e => by unfold F2of; rw [e]
theorem F2of_in {n' : Nat} (s : ∀ b o, F' b = some o → H' b = some o) : ∀ b o, F2of io' n' F' H' b = some o → H' b = some o := fun b o e => by
  unfold F2of at e
  cases q : F' b with
  | some u => rw [q] at e; cases e; exact s b _ q
  | none =>
    rw [q] at e
    dsimp only at e
    split at e
    · exact e
    · cases e
theorem F2of_at (sr : SR T K io' h' F' H') {k : Nat} (hk : k < h'.length) : F2of io' h'.length F' H' (io' k) = H' (io' k) := by
  unfold F2of
  rw [sr.dis k hk]
  dsimp only
  rw [if_pos (.inl ⟨k, hk, rfl⟩)]
theorem F2of_own (sr : SR T K io' h' F' H') {k : Nat} {dx : Addr} (hk : k < h'.length) (e : H' dx = some (.own (io' k))) : F2of io' h'.length F' H' dx = some (.own (io' k)) := by
  unfold F2of
  cases q : F' dx with
  | some u => have := sr.sub dx u q; rw [e] at this; cases this; rfl
  | none =>
    dsimp only
    rw [if_pos (.inr ⟨k, hk, e⟩)]
    exact e
/-- behind a callee that started from n0 tracked objects at io0 (a part of the caller's): all else that is the caller's stands -/
theorem F2of_fresh {io0 : Nat → Addr} {n0 : Nat} (sr : SR T K io' h' F' H') (st : Step io0 n0 F H io' h'.length F' H') : ∀ b o, F2of io' h'.length F' H' b = some o → (∀ k, k < n0 → io0 k ≠ b) → F b = some o ∨ H b = none ∨ ∃ y, o = .own y := fun b o e hb => by
  unfold F2of at e
  cases q : F' b with
  | some u => rw [q] at e; cases e; exact st.fresh b _ q
  | none =>
    rw [q] at e
    dsimp only at e
    split at e
    · rename_i z
      rcases z with ⟨k, hk, rfl⟩ | ⟨k, hk, z⟩
      · by_cases hk0 : k < n0
        · exact absurd (st.eq k hk0).symm (hb k hk0)
        · exact .inr (.inl (st.new k (by omega) hk))
      · rw [z] at e; cases e; exact .inr (.inr ⟨_, rfl⟩)
    · cases e
theorem OR.notOwn {a : Addr} {o : Obj} (r : OR T K io n F H a o) : ∀ y, H a ≠ some (.own y) := fun y e => by
  cases o with
  | lst vs => obtain ⟨xs, q, _⟩ := r; rw [q] at e; cases e
  | ins c vs => obtain ⟨dx, xs, q, _⟩ := r; rw [q] at e; cases e
  | dct ks vs => obtain ⟨es, ep, xs, ys, q, _⟩ := r; rw [q] at e; unfold DO at e; cases e
end

def callP (T : Nat → List Str) (f : Fx) (as : List Val) (h : Hh) : Res := if (h.isEmpty || pureVs as) = true then (match f [] as with
  | .ok v h' => .ofO (frzTop T h' v) h
  | .exc c fs h' => (match frzTops T h' fs with
    | some fs' => .exc c fs' h
    | none => .bad)
  | .bad => .bad) else .bad
section
variable {T : Tb} {K : PySem.W.Frag} {io io' : Nat → Addr} {n m : Nat} {F F' H H' : Hp} {h h' : Hh} {W : XK} {Q : VK}
/-- the caller's state behind a callee that knew of none of its objects -/
theorem sr_back (sr : SR T K io h F H) (st : Step io 0 F H io' h'.length F' H') (sr' : SR T K io' h' F' H') : SR T K io h (F2of io' h'.length F' H') H' ∧ Step io h.length F H io h.length (F2of io' h'.length F' H') H' := by
  have hH : ∀ b o, H b = some o → H' b = some o := fun b o e => st.frame b o e fun k hk => absurd hk (Nat.not_lt_zero _)
  have hF : ∀ b o, F b = some o → F2of io' h'.length F' H' b = some o := fun b o e => F2of_sub b o (st.phi b o e)
  have fr := F2of_fresh (io0 := io) (n0 := 0) sr' st
  refine ⟨⟨F2of_in sr'.sub, fun k hk => ?_, sr.inj, fun k o e => (sr.obj k o e).mono (Nat.le_refl _) (fun _ _ => rfl) hF hH⟩, ⟨Nat.le_refl _, fun _ _ => rfl, hF, fun b o e _ => hH b o e, fun k a b => absurd b (Nat.not_lt.mpr a), fun b o e => fr b o e fun k hk => absurd hk (Nat.not_lt_zero _)⟩⟩
  cases q : F2of io' h'.length F' H' (io k) with
  | none => rfl
  | some o =>
    exfalso
    obtain ⟨u, hu⟩ := sr.there hk
    rcases fr (io k) o q fun k hk => absurd hk (Nat.not_lt_zero _) with z | z | ⟨y, z⟩
    · rw [sr.dis k hk] at z; cases z
    · rw [hu] at z; cases z
    · subst z
      have e3 := F2of_in sr'.sub _ _ q
      have e2 : h[k]? = some h[k] := by simp [hk]
      rw [hH _ _ hu] at e3
      exact (sr.obj k _ e2).notOwn y (hu.trans e3)
theorem frzTop_ok (sr : SR T K io' h' F' H') {v v' : Val} {x : V} (e : frzTop T.fn h' v = some v') (r : VR T K io' h'.length F' v x) : VR T K io n (F2of io' h'.length F' H') v' x := by
  cases h' with
  | nil =>
    cases e
    exact r.mono (Nat.zero_le _) (fun k hk => absurd hk (Nat.not_lt_zero _)) F2of_sub
  | cons o t =>
    exact (frz_ok (io' := io) sr F2of_sub (fun k hk => F2of_at sr hk) (fun k dx hk e => F2of_own sr hk e) 30 v v' x e r).ofEmpty rfl
theorem frzTops_ok (sr : SR T K io' h' F' H') {v v' : List Val} {x : List V} (e : frzTops T.fn h' v = some v') (r : VRs T K io' h'.length F' v x) : VRs T K io n (F2of io' h'.length F' H') v' x := by
  cases h' with
  | nil =>
    cases e
    exact r.mono (Nat.zero_le _) (fun k hk => absurd hk (Nat.not_lt_zero _)) F2of_sub
  | cons o t =>
    exact (mapM_VRs (io' := io) (m := 0) (frz_ok (io' := io) sr F2of_sub (fun k hk => F2of_at sr hk) (fun k dx hk e => F2of_own sr hk e) 30) e r).ofEmpty rfl
theorem XR.change {F2 : Hp} {c : Nat} {fs fs' : List Val} {d : Option Addr} (x : XR T K io n F H c fs d) (hf : fs = [] → fs' = []) (hr : ∀ xs, VRs T K io n F fs xs → VRs T K io' m F2 fs' xs) : XR T K io' m F2 H c fs' d := by
  unfold XR at x ⊢
  cases hfn : T.fn c with
  | nil => rw [hfn] at x; exact ⟨x.1, hf x.2⟩
  | cons f r =>
    rw [hfn] at x
    obtain ⟨dd, xs, e1, e2, r, l⟩ := x
    exact ⟨dd, xs, e1, e2, hr xs r, l⟩
theorem frzTops_nil {T : Nat → List Str} {vs : List Val} (e : frzTops T h [] = some vs) : vs = [] := by
  cases h with
  | nil => cases e; rfl
  | cons o t => simpa [frzTops] using e.symm
theorem callP_ok {f : Fx} {as : List Val} {vs : List V} (sr : SR T K io h F H) (r : VRs T K io h.length F as vs) (w : Wants T K io h.length F H W Q (callP T.fn f as h)) : spF T K f vs H Q W := by
  unfold callP at w
  by_cases hp : (h.isEmpty || pureVs as) = true
  · rw [if_pos hp] at w
    have r0 : VRs T K io ([] : Hh).length F as vs := by
      rcases Bool.or_eq_true_iff.mp hp with z | z
      · have : h = [] := List.isEmpty_iff.mp z
        subst this; exact r
      · exact r.pure z
    refine ⟨io, [], F, as, ⟨sr.sub, fun k hk => absurd hk (Nat.not_lt_zero _), fun j k hj => absurd hj (Nat.not_lt_zero _), fun k o e => by simp at e⟩, r0, ?_⟩
    cases e : f [] as with
    | bad => rw [e] at w; exact w
    | ok v h' =>
      rw [e] at w
      obtain ⟨z, ez, w1⟩ := wants_ofO w
      intro io1 F1 H1 x st sr1 vr
      obtain ⟨a, b⟩ := sr_back sr st sr1
      exact w1 io _ H1 x b a (frzTop_ok sr1 ez vr)
    | exc c fs h' =>
      rw [e] at w
      intro io1 F1 H1 d st sr1 xr
      dsimp only at w
      cases ez : frzTops T.fn h' fs with
      | none => rw [ez] at w; exact w.elim
      | some fs' =>
        rw [ez] at w
        obtain ⟨a, b⟩ := sr_back sr st sr1
        exact w io _ H1 d b a (xr.change (fun z => by subst z; exact frzTops_nil ez) fun xs r => frzTops_ok sr1 ez r)
  · rw [if_neg hp] at w; exact w.elim
/-- with the caller's whole heap -/
theorem callA_ok {f : Fx} {as : List Val} {vs : List V} (sr : SR T K io h F H) (r : VRs T K io h.length F as vs) (w : Wants T K io h.length F H W Q (f h as)) : spF T K f vs H Q W := ⟨io, h, F, as, sr, r, w⟩
end

theorem callP_heap {T : Nat → List Str} {f : Fx} {as : List Val} {h h2 : Hh} {v : Val} (e : callP T f as h = .ok v h2) : h2 = h := by
  unfold callP at e
  split at e
  · split at e
    · unfold Res.ofO at e
      split at e
      · cases e; rfl
      · cases e
    · split at e <;> cases e
    · cases e
  · cases e
/-! ### lists that are lent to a callee: it sees them as lists that never change, and hands none of them back -/
mutual
def noLst : Val → Bool
  | .lst _ => false
  | .dct _ _ => false
  | .ref _ => false
  | .tup vs => noLsts vs
  | .obj _ vs => noLsts vs
  | _ => true
def noLsts : List Val → Bool
  | [] => true
  | v :: vs => noLst v && noLsts vs
end
open Classical in
noncomputable def FL (io : Nat → Addr) (n : Nat) (F H : Hp) : Hp := fun b => match F b with
  | some o => some o
  | none => if ∃ k xs, k < n ∧ io k = b ∧ H b = some (.lst xs) then H b else none
open Classical in
noncomputable def FB (F H F1 : Hp) : Hp := fun b => match F b with
  | some o => some o
  | none => if H b = none ∨ ∃ y, F1 b = some (.own y) then F1 b else none
section
variable {T : Tb} {K : PySem.W.Frag} {io io1 : Nat → Addr} {n : Nat} {F H F1 H1 : Hp} {h : Hh}
theorem FL_sub : ∀ b o, F b = some o → FL io n F H b = some o := fun b o e => by unfold FL; rw [e]
theorem FL_in (s : ∀ b o, F b = some o → H b = some o) : ∀ b o, FL io n F H b = some o → H b = some o := fun b o e => by
  unfold FL at e
  cases q : F b with
  | some u => rw [q] at e; cases e; exact s b _ q
  | none =>
    rw [q] at e
    dsimp only at e
    split at e
    · exact e
    · cases e
theorem FL_or (b : Addr) (o : HO) (e : FL io n F H b = some o) : F b = some o ∨ ∃ xs, o = .lst xs := by
  unfold FL at e
  cases q : F b with
  | some u => rw [q] at e; cases e; exact .inl rfl
  | none =>
    rw [q] at e
    dsimp only at e
    split at e
    · rename_i z
      obtain ⟨k, xs, _, _, z⟩ := z
      rw [z] at e
      cases e
      exact .inr ⟨xs, rfl⟩
    · cases e
theorem FL_at (sr : SR T K io h F H) {k : Nat} {xs : List V} (hk : k < h.length) (e : H (io k) = some (.lst xs)) : FL io h.length F H (io k) = some (.lst xs) := by
  unfold FL
  rw [sr.dis k hk]
  dsimp only
  rw [if_pos ⟨k, xs, hk, rfl, e⟩]
  exact e
theorem FB_sub : ∀ b o, F b = some o → FB F H F1 b = some o := fun b o e => by unfold FB; rw [e]
/-- what the callee's frozen part has, the caller's has too, but for the lent lists -/
theorem FB_of (s : ∀ b o, F b = some o → H b = some o) (st : Step io 0 (FL io n F H) H io1 0 F1 H1) {b : Addr} {o : HO} (e : F1 b = some o) (hn : ∀ xs, o ≠ .lst xs) : FB F H F1 b = some o := by
  unfold FB
  cases q : F b with
  | some u =>
    have z := st.phi b u (FL_sub b u q)
    rw [e] at z
    cases z
    rfl
  | none =>
    dsimp only
    rcases st.fresh b o e with z | z | ⟨y, z⟩
    · rcases FL_or b o z with z | ⟨xs, z⟩
      · rw [q] at z; cases z
      · exact absurd z (hn xs)
    · rw [if_pos (.inl z)]; exact e
    · rw [if_pos (.inr ⟨y, by rw [e, z]⟩)]; exact e
mutual
theorem VR.back (s : ∀ b o, F b = some o → H b = some o) (st : Step io 0 (FL io n F H) H io1 0 F1 H1) : ∀ {v : Val} {x : V}, VR T K io1 0 F1 v x → noLst v = true → VR T K io n (FB F H F1) v x
  | _, _, .non, _ => .non
  | _, _, .bl b, _ => .bl b
  | _, _, .int i, _ => .int i
  | _, _, .str t, _ => .str t
  | _, _, .glo g, _ => .glo g
  | _, _, .ref k hk, _ => absurd hk (Nat.not_lt_zero _)
  | _, _, .lst q r, e => by simp [noLst] at e
  | _, _, .dct q _ _ _ _, e => by simp [noLst] at e
  | _, _, .tup q r, e => .tup (by
      rcases q with (q | ⟨o, q⟩) | q
      · exact .inl (.inl (FB_of s st q fun xs z => by cases z))
      · exact .inl (.inr ⟨o, FB_of s st q fun xs z => by cases z⟩)
      · exact .inr q) (VRs.back s st r (by simpa [noLst] using e))
  | _, _, .obj q qd r hl, e => .obj (FB_of s st q fun xs z => by cases z) (FB_of s st qd fun xs z => by cases z) (VRs.back s st r (by simpa [noLst] using e)) hl
theorem VRs.back (s : ∀ b o, F b = some o → H b = some o) (st : Step io 0 (FL io n F H) H io1 0 F1 H1) : ∀ {v : List Val} {x : List V}, VRs T K io1 0 F1 v x → noLsts v = true → VRs T K io n (FB F H F1) v x
  | _, _, .nil, _ => .nil
  | _, _, .cons a t, e => by
    simp [noLsts] at e
    exact .cons (VR.back s st a e.1) (VRs.back s st t e.2)
end
theorem lend_back (sr : SR T K io h F H) (st : Step io 0 (FL io h.length F H) H io1 0 F1 H1) (sr1 : SR T K io1 [] F1 H1) : SR T K io h (FB F H F1) H1 ∧ Step io h.length F H io h.length (FB F H F1) H1 := by
  have hH : ∀ b o, H b = some o → H1 b = some o := fun b o e => st.frame b o e fun k hk => absurd hk (Nat.not_lt_zero _)
  have inn : ∀ b o, FB F H F1 b = some o → H1 b = some o := fun b o e => by
    unfold FB at e
    cases q : F b with
    | some u => rw [q] at e; cases e; exact hH _ _ (sr.sub _ _ q)
    | none =>
      rw [q] at e
      dsimp only at e
      split at e
      · exact sr1.sub _ _ e
      · cases e
  have fr : ∀ b o, FB F H F1 b = some o → F b = some o ∨ H b = none ∨ ∃ y, o = .own y := fun b o e => by
    unfold FB at e
    cases q : F b with
    | some u => rw [q] at e; cases e; exact .inl rfl
    | none =>
      rw [q] at e
      dsimp only at e
      split at e
      · rename_i z
        rcases z with z | ⟨y, z⟩
        · exact .inr (.inl z)
        · rw [z] at e; cases e; exact .inr (.inr ⟨y, rfl⟩)
      · cases e
  refine ⟨⟨inn, fun k hk => ?_, sr.inj, fun k o e => (sr.obj k o e).mono (Nat.le_refl _) (fun _ _ => rfl) FB_sub hH⟩, ⟨Nat.le_refl _, fun _ _ => rfl, FB_sub, fun b o e _ => hH b o e, fun k a b => absurd b (Nat.not_lt.mpr a), fr⟩⟩
  cases q : FB F H F1 (io k) with
  | none => rfl
  | some o =>
    exfalso
    obtain ⟨u, hu⟩ := sr.there hk
    rcases fr _ _ q with z | z | ⟨y, z⟩
    · rw [sr.dis k hk] at z; cases z
    · rw [hu] at z; cases z
    · subst z
      have e3 := inn _ _ q
      have e2 : h[k]? = some h[k] := by simp [hk]
      rw [hH _ _ hu] at e3
      exact (sr.obj k _ e2).notOwn y (hu.trans e3)
end
def lend (h : Hh) (v : Val) : Option Val := if pureV v = true then some v else match v with
  | .ref k => (match h[k]? with
    | some (.lst vs) => if pureVs vs = true then some (.lst vs) else none
    | _ => none)
  | _ => none
theorem lend_ok {T : Tb} {K : PySem.W.Frag} {io : Nat → Addr} {F H : Hp} {h : Hh} (sr : SR T K io h F H) (v v' : Val) (x : V) (e : lend h v = some v') (r : VR T K io h.length F v x) : VR T K io 0 (FL io h.length F H) v' x := by
  unfold lend at e
  by_cases hp : pureV v = true
  · rw [if_pos hp] at e
    cases e
    exact (r.pure (io' := io) (m := 0) hp).mono (Nat.le_refl _) (fun _ _ => rfl) FL_sub
  · rw [if_neg hp] at e
    cases r with
    | ref k hk =>
      dsimp only at e
      cases ek : h[k]? with
      | none => rw [ek] at e; cases e
      | some ob =>
        rw [ek] at e
        cases ob with
        | ins c vs => cases e
        | dct ks vs => cases e
        | lst vs =>
          dsimp only at e
          split at e
          · rename_i hv
            cases e
            obtain ⟨xs, ea, rr⟩ := sr.obj k _ ek
            exact .lst (SqL.of (FL_at sr hk ea)) ((rr.pure (io' := io) (m := 0) hv).mono (Nat.le_refl _) (fun _ _ => rfl) FL_sub)
          · cases e
    | _ => cases e
def callQ (T : Nat → List Str) (f : Fx) (as : List Val) (h : Hh) : Res := if pureVs as = true then callP T f as h else match as.mapM (lend h) with
  | some bs => (match callP T f bs [] with
    | .ok v _ => if noLst v = true then .ok v h else .bad
    | _ => .bad)
  | none => .bad
theorem callQ_ok {T : Tb} {K : PySem.W.Frag} {io : Nat → Addr} {F H : Hp} {h : Hh} {W : XK} {Q : VK} {f : Fx} {as : List Val} {vs : List V} (sr : SR T K io h F H) (r : VRs T K io h.length F as vs) (w : Wants T K io h.length F H W Q (callQ T.fn f as h)) : spF T K f vs H Q W := by
  unfold callQ at w
  by_cases hp : pureVs as = true
  · rw [if_pos hp] at w
    exact callP_ok sr r w
  · rw [if_neg hp] at w
    cases em : as.mapM (lend h) with
    | none => rw [em] at w; exact w.elim
    | some bs =>
      rw [em] at w
      dsimp only at w
      have r0 : VRs T K io ([] : Hh).length (FL io h.length F H) bs vs := mapM_VRs (lend_ok sr) em r
      have s0 : SR T K io [] (FL io h.length F H) H := ⟨FL_in sr.sub, fun k hk => absurd hk (Nat.not_lt_zero _), fun j k hj => absurd hj (Nat.not_lt_zero _), fun k o e => by simp at e⟩
      refine callP_ok s0 r0 ?_
      cases ec : callP T.fn f bs [] with
      | bad => rw [ec] at w; exact w.elim
      | exc c fs h' => rw [ec] at w; exact w.elim
      | ok v h2 =>
        have eh := callP_heap ec
        subst eh
        rw [ec] at w
        dsimp only at w
        split at w
        · rename_i hz
          intro io1 F1 H1 x st sr1 vr
          obtain ⟨a, b⟩ := lend_back sr st sr1
          exact w io _ H1 x b a (vr.back sr.sub st hz)
        · exact w.elim
/-! ### calls by name -/
/-- what is known of a def that is called: its promise, its place, its defaults -/
structure Fn (T : Tb) (X : Cx) (x : Str) (ps : List Str) (k : Nat) (f : Fx) : Prop where
  ex : ∃ (a : Addr) (fd : FuncData), FnG X.prog X.w X.K X.mg X.base (CX X.prog X.w) k a fd ps (spF T X.K f) ∧ X.mg x = some (.ref a) ∧ PySem.W.keepIn X.K (.ref a) = true ∧ ∃ (dv : List V) (ds : List Value), True
section
variable {T : Tb} {X : Cx} {W : WX} {e : Expr} {es : List Expr} {fl : Lx} {pos : Pos} {ps : List Str} {k : Nat} {f : Fx} {x : Str} {a : Addr} {fd : FuncData} {dvs : List V} {ds : List Value}
def xCallP (T : Nat → List Str) (f : Fx) (dfl : List Val) (l : Lx) : Ex := fun sg h => (l sg h).bind fun as h1 => callQ T f (as ++ dfl) h1
def xCallA (f : Fx) (dfl : List Val) (l : Lx) : Ex := fun sg h => (l sg h).bind fun as h1 => f h1 (as ++ dfl)
/-- the defaults, as values that hold anywhere -/
def Dfl (T : Tb) (K : PySem.W.Frag) (dfl : List Val) (dvs : List V) : Prop := ∀ io n F, VRs T K io n F dfl dvs
theorem Dfl.nil {K : PySem.W.Frag} : Dfl T K [] [] := fun _ _ _ => .nil
theorem je_callP (G : FnG X.prog X.w X.K X.mg X.base (CX X.prog X.w) k a fd ps (spF T X.K f)) (hr : RoomG k X.A) (hm : X.mg x = some (.ref a)) (hk : PySem.W.keepIn X.K (.ref a) = true) {dfl : List Val} (hD : Dfl T X.K dfl dvs) (hb : Binds X.K fd ps ds) (hd : Vals dvs ds) (tk : Takes X W)
    (ha : JA T X W (e :: es) fl) {p : Pos} (hg : Gl X x := by rfl) (hdb : (x == ("__debug__" : Str)) = false := by decide) (he : starEach (e :: es) X.env = (false, eval e X.env) :: starEach es X.env := by rfl) (hpl : (backTo pos (starEach es X.env)).any (·.1) = false := by rfl) :
    JE T X W (.Call (.Name x p) (e :: es) [] pos) (xCallP T.fn f dfl fl) :=
  pe_imp (pe_callG (E := fun σ c d H => W c d σ H) G hr hg hm hk hb hd (fun σ => passAt tk σ) ha hdb he hpl) fun σ H Q ⟨io, h, F, sg, sr, rs, w⟩ =>
    ⟨io, h, F, sg, sr, rs, Wants.bindOfL w fun vs h1 io1 F1 H1 xs st sr1 vr w1 => callQ_ok sr1 (vr.append (hD _ _ _)) w1⟩
theorem je_callA (G : FnG X.prog X.w X.K X.mg X.base (CX X.prog X.w) k a fd ps (spF T X.K f)) (hr : RoomG k X.A) (hm : X.mg x = some (.ref a)) (hk : PySem.W.keepIn X.K (.ref a) = true) {dfl : List Val} (hD : Dfl T X.K dfl dvs) (hb : Binds X.K fd ps ds) (hd : Vals dvs ds) (tk : Takes X W)
    (ha : JA T X W (e :: es) fl) {p : Pos} (hg : Gl X x := by rfl) (hdb : (x == ("__debug__" : Str)) = false := by decide) (he : starEach (e :: es) X.env = (false, eval e X.env) :: starEach es X.env := by rfl) (hpl : (backTo pos (starEach es X.env)).any (·.1) = false := by rfl) :
    JE T X W (.Call (.Name x p) (e :: es) [] pos) (xCallA f dfl fl) :=
  pe_imp (pe_callG (E := fun σ c d H => W c d σ H) G hr hg hm hk hb hd (fun σ => passAt tk σ) ha hdb he hpl) fun σ H Q ⟨io, h, F, sg, sr, rs, w⟩ =>
    ⟨io, h, F, sg, sr, rs, Wants.bindOfL w fun vs h1 io1 F1 H1 xs st sr1 vr w1 => callA_ok sr1 (vr.append (hD _ _ _)) w1⟩
end
end Py

namespace Py
open PySem PySem.Spec PyProof.Rows L2

/-! ### targets of a comprehension: which slots are written -/
def WantsGw (T : Tb) (K : PySem.W.Frag) (io : Nat → Addr) (n : Nat) (F H : Hp) (σ : L2.St) (ws : List Nat) (Q : L2.St → Hp → Prop) : ResG → Prop
  | .ok sg' h' => ∀ io' F' H' σ', Step io n F H io' h'.length F' H' → SR T K io' h' F' H' → RSt T K io' h'.length F' sg' σ' → (∀ j, j ∉ ws → σ'[j]? = σ[j]?) → σ'.length = σ.length → Q σ' H'
  | .bad => False
def tGw (T : Tb) (K : PySem.W.Frag) (ws : List Nat) (g : Gx) : TG := fun x σ H Q => ∃ io h F sg v, SR T K io h F H ∧ RSt T K io h.length F sg σ ∧ VR T K io h.length F v x ∧ WantsGw T K io h.length F H σ ws Q (g v sg h)
def tGsw (T : Tb) (K : PySem.W.Frag) (ws : List Nat) (g : Gs) : TGs := fun xs σ H Q => ∃ io h F sg vs, SR T K io h F H ∧ RSt T K io h.length F sg σ ∧ VRs T K io h.length F vs xs ∧ WantsGw T K io h.length F H σ ws Q (g vs sg h)
abbrev JGw (T : Tb) (X : Cx) (ws : List Nat) (e : Expr) (g : Gx) : Prop := PG X e (tGw T X.K ws g)
abbrev JGsw (T : Tb) (X : Cx) (ws : List Nat) (es : List Expr) (g : Gs) : Prop := PGs X es (tGsw T X.K ws g)
section
variable {T : Tb} {X : Cx} {W : WX} {a b c e : Expr} {fa fb fc fe : Ex} {pos : Pos}
theorem WantsGw.rebase {K : PySem.W.Frag} {io io1 : Nat → Addr} {n : Nat} {F F1 H H1 : Hp} {h1 : Hh} {σ : L2.St} {ws : List Nat} {Q : L2.St → Hp → Prop} {r : ResG} (w : WantsGw T K io n F H σ ws Q r) (a : Step io n F H io1 h1.length F1 H1) (s : SR T K io1 h1 F1 H1) : WantsGw T K io1 h1.length F1 H1 σ ws Q r := by
  cases r with
  | ok v h' => exact fun io' F' H' x st sr vr hj hl => w io' F' H' x (a.trans s st) sr vr hj hl
  | bad => exact w
theorem jgw_name (i : Nat) {x : Str} (hN : X.N.Nodup) (hi : X.N[i]? = some x := by rfl) (hx : Loc X.env.scope x := by first | exact .inl rfl | exact .inr rfl) (hf : X.fn x = true ∨ X.env.scope.names.lookup x = some .local := by first | exact .inl rfl | exact .inr rfl | assumption) : JGw T X [i] (.Name x pos) (gN i) :=
  pg_imp (pg_name hN hi hx hf) fun x σ H Q ⟨io, h, F, sg, v, sr, rs, vr, w⟩ => w io F H _ .refl sr (rs.set i vr) (fun j hj => by rw [List.getElem?_set_ne (fun z => hj (by simp [z]))]) (by simp)
theorem jgsw_nil : JGsw T X [] [] gsNil := by
  refine ⟨fun pins s σ H xs us Q I r h => pgs_nil.run pins s σ H xs us Q I r ?_⟩
  obtain ⟨io, hh, F, sg, vs, sr, rs, vr, w⟩ := h
  cases vr with
  | nil => exact ⟨rfl, w io F H σ .refl sr rs (fun _ _ => rfl) rfl⟩
  | cons a b => exact w.elim
theorem jgsw_cons {tg : Expr} {tgs : List Expr} {g : Gx} {r : Gs} {w1 w2 : List Nat} (h1 : JGw T X w1 tg g) (h2 : JGsw T X w2 tgs r) (hs : (assignEach (tg :: tgs) X.env).map (·.2) = assign tg X.env :: (assignEach tgs X.env).map (·.2) := by rfl) : JGsw T X (w1 ++ w2) (tg :: tgs) (gsCons g r) := by
  refine ⟨fun pins s σ H xs us Q I rl h => (pgs_cons h1 h2 hs).run pins s σ H xs us Q I rl ?_⟩
  obtain ⟨io, hh, F, sg, vs, sr, rs, vr, w⟩ := h
  cases vr with
  | nil => exact w.elim
  | @cons v x vs' xs' a b =>
    refine ⟨x, xs', rfl, ⟨io, hh, F, sg, v, sr, rs, a, ?_⟩⟩
    have w' : WantsGw T X.K io hh.length F H σ (w1 ++ w2) Q (match g v sg hh with
      | .ok sg1 h1 => r vs' sg1 h1
      | .bad => .bad) := w
    cases e : g v sg hh with
    | ok sg1 h1 =>
      rw [e] at w'
      intro io' F' H' σ' st sr' rs' hj hl
      refine ⟨io', h1, F', sg1, vs', sr', rs', b.step st, ?_⟩
      have w2' := WantsGw.rebase w' st sr'
      dsimp only at w2'
      cases er : r vs' sg1 h1 with
      | ok sg2 h2 =>
        rw [er] at w2'
        exact fun io2 F2 H2 σ2 st2 sr2 rs2 hj2 hl2 => w2' io2 F2 H2 σ2 st2 sr2 rs2 (fun j hjj => by
          rw [List.mem_append, not_or] at hjj
          rw [hj2 j hjj.2, hj j hjj.1]) (hl2.trans hl)
      | bad => rw [er] at w2'; exact w2'
    | bad => rw [e] at w'; exact w'
theorem jgw_tup {tgs : List Expr} {k : Nat} {r : Gs} {n : Nat} {ws : List Nat} (hc : X.calm = true) (h : JGsw T X ws tgs r) (hn : (assignEach tgs X.env).length = n := by rfl) (hst : (assignEach tgs X.env).findIdx? (·.1) = none := by rfl) : JGw T X ws (.Tuple tgs k pos) (gTu n r) := by
  refine pg_imp (pg_tup hc h hn hst) fun x σ H Q ⟨io, hh, F, sg, v, sr, rs, vr, w⟩ => ?_
  cases vr with
  | @tup vs a xs q r' =>
    have w' : WantsGw T X.K io hh.length F H σ ws Q (if vs.length = n then r vs sg hh else .bad) := w
    by_cases hl : vs.length = n
    · rw [if_pos hl] at w'
      exact ⟨a, xs, rfl, sqT_mono sr.sub q, by rw [← r'.length]; exact hl, io, hh, F, sg, vs, sr, rs, r', w'⟩
    · rw [if_neg hl] at w'; exact w'.elim
  | _ => exact w.elim

/-! ### list comprehensions -/
abbrev Wno : WX := fun _ _ _ _ => False
def wipeG (sg : Sg) : List Nat → Sg
  | [] => sg
  | v :: vs => (wipeG sg vs).set v none
theorem wipeG_ok {K : PySem.W.Frag} {io : Nat → Addr} {n : Nat} {F : Hp} {sg : Sg} {σ : L2.St} (r : RSt T K io n F sg σ) : ∀ vs : List Nat, RSt T K io n F (wipeG sg vs) (wipe σ vs)
  | [] => r
  | v :: vs => by
    have ih := wipeG_ok r vs
    refine ⟨by simp [wipeG, wipe, ih.len], fun i u e => ?_⟩
    unfold wipeG at e
    by_cases hv : v = i
    · subst hv
      by_cases hl : v < (wipeG sg vs).length
      · rw [List.getElem?_set_self hl] at e; cases e
      · rw [List.getElem?_eq_none (by simpa using hl)] at e; cases e
    · rw [List.getElem?_set_ne hv] at e
      obtain ⟨x, e1, e2⟩ := ih.at_ i u e
      exact ⟨x, by unfold wipe; rw [List.getElem?_set_ne hv]; exact e1, e2⟩
theorem wipe_at {σ : L2.St} {i : Nat} : ∀ {vs : List Nat}, i ∉ vs → (wipe σ vs)[i]? = σ[i]?
  | [], _ => rfl
  | v :: vs, h => by
    unfold wipe
    rw [List.getElem?_set_ne (fun z => h (by simp [z])), wipe_at (fun z => h (List.mem_cons_of_mem _ z))]
theorem wipe_in {σ : L2.St} {i : Nat} : ∀ {vs : List Nat}, i ∈ vs → i < σ.length → (wipe σ vs)[i]? = some none
  | v :: vs, h, hl => by
    unfold wipe
    by_cases hv : v = i
    · subst hv; rw [List.getElem?_set_self (by rw [wipe_length]; exact hl)]
    · rw [List.getElem?_set_ne hv, wipe_in ((List.mem_cons.mp h).resolve_left (fun z => hv z.symm)) hl]
theorem wipe_eq {σ σ' : L2.St} {vs ws : List Nat} (hw : ∀ j, j ∈ ws → j ∈ vs) (hj : ∀ j, j ∉ ws → σ'[j]? = (wipe σ vs)[j]?) (hl : σ'.length = (wipe σ vs).length) : wipe σ' vs = wipe σ vs := by
  apply List.ext_getElem?
  intro j
  by_cases h : j ∈ vs
  · by_cases hs : j < σ.length
    · rw [wipe_in h hs, wipe_in h (by rw [hl, wipe_length]; exact hs)]
    · rw [List.getElem?_eq_none (by rw [wipe_length, hl, wipe_length]; omega), List.getElem?_eq_none (by rw [wipe_length]; omega)]
  · rw [wipe_at h, hj j (fun z => h (hw j z))]
def compItems (g : Gx) (t e : Ex) (sg : Sg) : List Val → List Val → Hh → ResL
  | [], acc, h => .ok acc h
  | v :: r, acc, h => match g v sg h with
    | .ok sg1 h1 => (match t sg1 h1 with
      | .ok (.bl true) h2 => (match e sg1 h2 with
        | .ok y h3 => compItems g t e sg r (acc ++ [y]) h3
        | _ => .bad)
      | .ok (.bl false) h2 => compItems g t e sg r acc h2
      | _ => .bad)
    | .bad => .bad
def compRef (g : Gx) (t e : Ex) (sg : Sg) (k : Hh → Option (List Val)) : Nat → Nat → List Val → Hh → ResL
  | 0, _, _, _ => .bad
  | m + 1, i, acc, h => match k h with
    | some xs => (match xs[i]? with
      | none => .ok acc h
      | some v => match g v sg h with
        | .ok sg1 h1 => (match t sg1 h1 with
          | .ok (.bl true) h2 => (match e sg1 h2 with
            | .ok y h3 => compRef g t e sg k m (i + 1) (acc ++ [y]) h3
            | _ => .bad)
          | .ok (.bl false) h2 => compRef g t e sg k m (i + 1) acc h2
          | _ => .bad)
        | .bad => .bad)
    | _ => .bad
def xCompL (own : List Nat) (fi : Ix) (g : Gx) (t e : Ex) : Lx := fun sg h => match fi sg h with
  | .ok (.items vs) h1 => if vs.length ≤ 1000000 then compItems g t e (wipeG sg own) vs [] h1 else .bad
  | .ok (.ref k) h1 => compRef g t e (wipeG sg own) k 1000000 0 [] h1
  | .exc c fs h1 => .exc c fs h1
  | .bad => .bad
def xComp (own : List Nat) (fi : Ix) (g : Gx) (t e : Ex) : Ex := fun sg h => (xCompL own fi g t e sg h).bind fun vs h1 => .ok (.ref h1.length) (h1 ++ [.lst vs])
def xCompF (own : List Nat) (fi : Ix) (g : Gx) (t e : Ex) : Ex := fun sg h => (xCompL own fi g t e sg h).bind fun vs h1 => .ok (.lst vs) h1
/-- the tests of a comprehension -/
abbrev JTs (T : Tb) (X : Cx) (W : WX) (es : List Expr) (f : Ex) : Prop := PTs X es (tB1 T X.K W f)
theorem jts_nil : JTs T X W [] (xC (.bl true)) := ⟨fun pins s σ H Q I ⟨io, h, F, sg, sr, rs, w⟩ => pts_nil.run pins s σ H Q I (w io F H .refl sr)⟩
theorem jts_one (h : JT T X W c fc) : JTs T X W [c] fc := pts_one h
/-- what is wanted of the new list at D -/
def WantsD (T : Tb) (K : PySem.W.Frag) (io1 : Nat → Addr) (n1 : Nat) (F1 H1 : Hp) (D : Addr) (Q : VK) : ResL → Prop
  | .ok acc h' => ∀ io' F' H' xs, Step io1 n1 F1 H1 io' h'.length F' H' → SR T K io' h' F' H' → H' D = some (.lst xs) → VRs T K io' h'.length F' acc xs → F' D = none → (∀ k, k < h'.length → io' k ≠ D) → Q (.ref D) H'
  | _ => False
structure CInv (T : Tb) (K : PySem.W.Frag) (io1 : Nat → Addr) (n1 : Nat) (F1 H1 : Hp) (D : Addr) (io : Nat → Addr) (h : Hh) (F H : Hp) : Prop where
  sr : SR T K io h F H
  st : Step io1 n1 F1 H1 io h.length F H
  fd : F D = none
  nd : ∀ k, k < h.length → io k ≠ D
theorem CInv.go {K : PySem.W.Frag} {io1 io io' : Nat → Addr} {n1 : Nat} {F1 H1 F H F' H' : Hp} {D : Addr} {h h' : Hh} {xs : List V} (c : CInv T K io1 n1 F1 H1 D io h F H) (hD : H D = some (.lst xs)) (st : Step io h.length F H io' h'.length F' H') (sr : SR T K io' h' F' H') :
    CInv T K io1 n1 F1 H1 D io' h' F' H' ∧ H' D = some (.lst xs) := by
  have e := st.frame D _ hD c.nd
  refine ⟨⟨sr, c.st.trans c.sr st, ?_, fun k hk z => ?_⟩, e⟩
  · cases q : F' D with
    | none => rfl
    | some o =>
      exfalso
      rcases st.fresh D o q with z | z | ⟨y, z⟩
      · rw [c.fd] at z; cases z
      · rw [hD] at z; cases z
      · subst z
        have := sr.sub D _ q
        rw [e] at this; cases this
  · by_cases hk' : k < h.length
    · exact c.nd k hk' ((st.eq k hk').symm.trans z)
    · have := st.new k (by omega) hk
      rw [z, hD] at this; cases this
theorem CInv.app {K : PySem.W.Frag} {io1 io : Nat → Addr} {n1 : Nat} {F1 H1 F H : Hp} {D : Addr} {h : Hh} {xs : List V} (hD1 : H1 D = none) (c : CInv T K io1 n1 F1 H1 D io h F H) (hD : H D = some (.lst xs)) (ys : List V) : CInv T K io1 n1 F1 H1 D io h F (upd H D (.lst ys)) := by
  refine ⟨⟨fun b o e => ?_, c.sr.dis, c.sr.inj, fun k o e => ?_⟩, ⟨c.st.le, c.st.eq, c.st.phi, fun b o e hb => ?_, c.st.new, c.st.fresh⟩, c.fd, c.nd⟩
  · have : b ≠ D := fun z => by rw [z, c.fd] at e; cases e
    rw [upd_ne this]; exact c.sr.sub b o e
  · have hk : k < h.length := (List.getElem?_eq_some_iff.mp e).1
    have r := c.sr.obj k o e
    cases o with
    | lst vs => obtain ⟨zs, e1, r⟩ := r; exact ⟨zs, by rw [upd_ne (c.nd k hk)]; exact e1, r⟩
    | dct ks vs => obtain ⟨es, ep, zs, us, e1, r⟩ := r; exact ⟨es, ep, zs, us, by rw [upd_ne (c.nd k hk)]; exact e1, r⟩
    | ins cc vs =>
      obtain ⟨dx, zs, e1, d, r, l⟩ := r
      exact ⟨dx, zs, by rw [upd_ne (c.nd k hk)]; exact e1, by rw [upd_ne (fun z => by rw [z, hD] at d; cases d)]; exact d, r, l⟩
  · rw [upd_ne (ne_of_none e hD1)]; exact c.st.frame b o e hb
/-- one turn -/
theorem comp_turn {K : PySem.W.Frag} {io1 io : Nat → Addr} {n1 : Nat} {F1 H1 F H : Hp} {D : Addr} {h : Hh} {xs : List V} {acc : List Val} {sg : Sg} {σ : L2.St} {own ws : List Nat} {g : Gx} {t el : Ex} {Q : VK} {J : It} {i : Nat} {v : Val} {rest : List Val → Hh → ResL} {Nx : Hp → Prop}
    (hw : ∀ j, j ∈ ws → j ∈ own) (hD1 : H1 D = none) (c : CInv T K io1 n1 F1 H1 D io h F H) (hD : H D = some (.lst xs)) (va : VRs T K io h.length F acc xs) (rs : RSt T K io h.length F sg (wipe σ own)) (hz : acc.length < 1000000)
    (y : YldOk T K J i (some v) io h F H)
    (w : WantsD T K io1 n1 F1 H1 D Q (match g v sg h with
      | .ok sg1 h1 => (match t sg1 h1 with
        | .ok (.bl true) h2 => (match el sg1 h2 with
          | .ok y h3 => rest (acc ++ [y]) h3
          | _ => .bad)
        | .ok (.bl false) h2 => rest acc h2
        | _ => .bad)
      | .bad => .bad))
    (hN : ∀ acc' h' io' F' H' xs', acc'.length ≤ acc.length + 1 → CInv T K io1 n1 F1 H1 D io' h' F' H' → H' D = some (.lst xs') → VRs T K io' h'.length F' acc' xs' → RSt T K io' h'.length F' sg (wipe σ own) → (h.length ≤ h'.length ∧ (∀ k, k < h.length → io' k = io k) ∧ ∀ b o, F b = some o → F' b = some o) → WantsD T K io1 n1 F1 H1 D Q (rest acc' h') → Nx H') :
    ∀ x H', J.yld i H x H' → tGw T K ws g x (wipe σ own) H' fun σ2 H2 => wipe σ2 own = wipe σ own ∧ tB1 T K Wno t σ2 H2 fun b H3 =>
      if b = true then tE T K Wno el σ2 H3 fun y H4 => ∃ acc, H4 D = some (.lst acc) ∧ acc.length < sizeLine ∧ Nx (upd H4 D (.lst (acc ++ [y]))) else Nx H3 := by
  intro x H' hy
  obtain ⟨F', st, sr', vr⟩ := y.2 x H' hy
  obtain ⟨c1, hD'⟩ := c.go hD st sr'
  refine ⟨io, h, F', sg, v, sr', rs.step st, vr, ?_⟩
  cases eg : g v sg h with
  | bad => rw [eg] at w; exact w.elim
  | ok sg1 h1 =>
    rw [eg] at w
    intro io2 F2 H2 σ2 st2 sr2 rs2 hj hl
    obtain ⟨c2, hD2⟩ := c1.go hD' st2 sr2
    refine ⟨wipe_eq hw hj hl, io2, h1, F2, sg1, sr2, rs2, ?_⟩
    dsimp only at w
    cases et : t sg1 h1 with
    | bad => rw [et] at w; exact w.elim
    | exc cc fs hh => rw [et] at w; exact w.elim
    | ok tv h2 =>
      rw [et] at w
      cases tv with
      | bl tb =>
        intro io3 F3 H3 st3 sr3
        obtain ⟨c3, hD3⟩ := c2.go hD2 st3 sr3
        have st03 := ((st.trans sr' st2).trans sr2 st3)
        cases tb with
        | false =>
          rw [if_neg Bool.false_ne_true]
          exact hN acc h2 io3 F3 H3 xs (Nat.le_succ _) c3 hD3 (va.step st03) (rs.step st03) ⟨st03.le, st03.eq, st03.phi⟩ w
        | true =>
          rw [if_pos rfl]
          refine ⟨io3, h2, F3, sg1, sr3, rs2.step st3, ?_⟩
          dsimp only at w
          cases ee : el sg1 h2 with
          | bad => rw [ee] at w; exact w.elim
          | exc cc fs hh => rw [ee] at w; exact w.elim
          | ok yv h3 =>
            rw [ee] at w
            intro io4 F4 H4 y4 st4 sr4 vr4
            obtain ⟨c4, hD4⟩ := c3.go hD3 st4 sr4
            have st04 := st03.trans sr3 st4
            have va4 := va.step st04
            refine ⟨xs, hD4, by rw [← va.length, sizeLine_eq]; omega, ?_⟩
            exact hN (acc ++ [yv]) h3 io4 F4 _ (xs ++ [y4]) (by simp) (c4.app hD1 hD4 _) upd_same (va4.append (.cons vr4 .nil)) (rs.step st04) ⟨st04.le, st04.eq, st04.phi⟩ w
      | _ => exact w.elim
theorem comp_core {tg iter elt : Expr} {ifs : List Expr} {fi : Ix} {g : Gx} {t el : Ex} {own ws : List Nat} (hw : ∀ j, j ∈ ws → j ∈ own) {σ : L2.St} {H : Hp} {Q : VK} {io : Nat → Addr} {h : Hh} {F : Hp} {sg : Sg} (sr : SR T X.K io h F H) (rs : RSt T X.K io h.length F sg σ)
    {R : VK} (w : match xCompL own fi g t el sg h with
      | .ok acc h' => ∀ D io' F' H' xs, H D = none → Step io h.length F H io' h'.length F' H' → SR T X.K io' h' F' H' → H' D = some (.lst xs) → VRs T X.K io' h'.length F' acc xs → F' D = none → (∀ k, k < h'.length → io' k ≠ D) → R (.ref D) H'
      | .exc c fs h' => WExc T X.K io h.length F H c fs h' (fun c d H' => W c d σ H')
      | .bad => False) :
    tLc (tI T X.K W fi) (tGw T X.K ws g) (tB1 T X.K Wno t) (tE T X.K Wno el) own σ H R := by
  refine ⟨io, h, F, sg, sr, rs, ?_⟩
  unfold xCompL at w
  cases e : fi sg h with
  | bad => rw [e] at w; exact w
  | exc c fs h1 => rw [e] at w; exact w
  | ok s h1 =>
    rw [e] at w
    intro io1 F1 H1 J st1 sr1 so D hD
    have hD0 : H D = none := by
      cases q : H D with
      | none => rfl
      | some o =>
        exfalso
        by_cases hc : ∀ k, k < h.length → io k ≠ D
        · rw [st1.frame D o q hc] at hD; cases hD
        · apply hc
          intro k hk z
          obtain ⟨u, hu⟩ := sr1.there (k := k) (Nat.lt_of_lt_of_le hk st1.le)
          rw [st1.eq k hk, z, hD] at hu; cases hu
    have c0 : CInv T X.K io1 h1.length F1 H1 D io1 h1 F1 (upd H1 D (.lst [])) :=
      ⟨sr1.garb hD _, sr1.garbStep hD _, sr1.none_of hD, fun k hk z => by obtain ⟨u, hu⟩ := sr1.there hk; rw [z, hD] at hu; cases hu⟩
    have rs1 := (wipeG_ok rs own).step st1
    have wd : ∀ r : ResL, (match r with
      | .ok acc h' => ∀ D io' F' H' xs, H D = none → Step io h.length F H io' h'.length F' H' → SR T X.K io' h' F' H' → H' D = some (.lst xs) → VRs T X.K io' h'.length F' acc xs → F' D = none → (∀ k, k < h'.length → io' k ≠ D) → R (.ref D) H'
      | .exc c fs h' => WExc T X.K io h.length F H c fs h' (fun c d H' => W c d σ H')
      | .bad => False) → (∀ c fs h', r ≠ .exc c fs h') → WantsD T X.K io1 h1.length F1 H1 D R r := fun r wr hne => by
      cases r with
      | bad => exact wr
      | exc c fs h' => exact absurd rfl (hne c fs h')
      | ok acc h' => exact fun io' F' H' xs st sr' hd va fd nd => wr D io' F' H' xs hD0 (st1.trans sr1 st) sr' hd va fd nd
    cases s with
    | items vs =>
      dsimp only at w
      by_cases hvl : vs.length ≤ 1000000
      · rw [if_pos hvl] at w
        have nex : ∀ (vs acc : List Val) (h : Hh) c fs h', compItems g t el (wipeG sg own) vs acc h ≠ .exc c fs h' := by
          intro vs
          induction vs with
          | nil => intro acc h c fs h' q; cases q
          | cons v r ih =>
            intro acc h c fs h'
            unfold compItems
            split
            · split
              · split
                · exact ih _ _ c fs h'
                · exact fun q => nomatch q
              · exact ih _ _ c fs h'
              · exact fun q => nomatch q
            · exact fun q => nomatch q
        have w1 := wd _ w (nex vs [] h1)
        refine ⟨fun i m H2 => m = vs.length - i ∧ i ≤ vs.length ∧ ∃ io2 h2 F2 acc xs, acc.length ≤ i ∧ CInv T X.K io1 h1.length F1 H1 D io2 h2 F2 H2 ∧ H2 D = some (.lst xs) ∧ VRs T X.K io2 h2.length F2 acc xs ∧ RSt T X.K io2 h2.length F2 (wipeG sg own) (wipe σ own) ∧ WantsD T X.K io1 h1.length F1 H1 D R (compItems g t el (wipeG sg own) (vs.drop i) acc h2),
          ⟨vs.length, by simp, Nat.zero_le _, io1, h1, F1, [], [], Nat.le_refl _, c0, upd_same, .nil, rs1, by simpa using w1⟩, ?_⟩
        rintro i m H2 ⟨rfl, hi, io2, h2, F2, acc, xs, hacc, c2, hD2, va, rs2, w2⟩
        have y := so i io2 h2 F2 H2 c2.sr c2.st.le c2.st.eq c2.st.phi hi
        by_cases hlt : i < vs.length
        · have ev : vs[i]? = some vs[i] := by simp [hlt]
          rw [ev] at y
          rw [List.drop_eq_getElem_cons hlt] at w2
          unfold compItems at w2
          refine .inr ⟨y.1, fun H3 => ∃ io2 h2 F2 acc xs, acc.length ≤ i + 1 ∧ CInv T X.K io1 h1.length F1 H1 D io2 h2 F2 H3 ∧ H3 D = some (.lst xs) ∧ VRs T X.K io2 h2.length F2 acc xs ∧ RSt T X.K io2 h2.length F2 (wipeG sg own) (wipe σ own) ∧ WantsD T X.K io1 h1.length F1 H1 D R (compItems g t el (wipeG sg own) (vs.drop (i + 1)) acc h2),
            fun H' n' => ⟨vs.length - (i + 1), by omega, rfl, hlt, n'⟩, ?_⟩
          refine comp_turn (rest := fun acc h => compItems g t el (wipeG sg own) (vs.drop (i + 1)) acc h) hw hD c2 hD2 va rs2 (by omega) y w2 fun acc' h' io' F' H' xs' hl c' hd' va' rs' _ w' => ⟨io', h', F', acc', xs', by omega, c', hd', va', rs', w'⟩
        · have : i = vs.length := by omega
          subst this
          rw [List.getElem?_eq_none (Nat.le_refl _)] at y
          rw [List.drop_length] at w2
          exact .inl ⟨y, w2 io2 F2 H2 xs c2.st c2.sr hD2 va c2.fd c2.nd⟩
      · rw [if_neg hvl] at w; exact w.elim
    | ref k =>
      dsimp only at w
      have nex : ∀ (m i : Nat) (acc : List Val) (h : Hh) c fs h', compRef g t el (wipeG sg own) k m i acc h ≠ .exc c fs h' := by
        intro m
        induction m with
        | zero => intro i acc h c fs h' q; cases q
        | succ m ih =>
          intro i acc h c fs h'
          unfold compRef
          split
          · split
            · exact fun q => nomatch q
            · split
              · split
                · split
                  · exact ih _ _ _ c fs h'
                  · exact fun q => nomatch q
                · exact ih _ _ _ c fs h'
                · exact fun q => nomatch q
              · exact fun q => nomatch q
          · exact fun q => nomatch q
      have w1 := wd _ w (nex 1000000 0 [] h1)
      refine ⟨fun i m H2 => m + i = 1000000 ∧ ∃ io2 h2 F2 acc xs, acc.length ≤ i ∧ CInv T X.K io1 h1.length F1 H1 D io2 h2 F2 H2 ∧ H2 D = some (.lst xs) ∧ VRs T X.K io2 h2.length F2 acc xs ∧ RSt T X.K io2 h2.length F2 (wipeG sg own) (wipe σ own) ∧ WantsD T X.K io1 h1.length F1 H1 D R (compRef g t el (wipeG sg own) k m i acc h2),
        ⟨1000000, rfl, io1, h1, F1, [], [], Nat.le_refl _, c0, upd_same, .nil, rs1, w1⟩, ?_⟩
      rintro i m H2 ⟨hm, io2, h2, F2, acc, xs, hacc, c2, hD2, va, rs2, w2⟩
      cases m with
      | zero => exact w2.elim
      | succ m =>
        unfold compRef at w2
        cases ek : k h2 with
        | none => rw [ek] at w2; exact w2.elim
        | some ys =>
          rw [ek] at w2
          · have y := so i io2 h2 F2 H2 ys c2.sr c2.st.le c2.st.eq c2.st.phi ek
            dsimp only at w2
            cases ev : ys[i]? with
            | none => rw [ev] at w2 y; exact .inl ⟨y, w2 io2 F2 H2 xs c2.st c2.sr hD2 va c2.fd c2.nd⟩
            | some v =>
              rw [ev] at w2 y
              dsimp only at w2
              refine .inr ⟨y.1, fun H3 => ∃ io2 h2 F2 acc xs, acc.length ≤ i + 1 ∧ CInv T X.K io1 h1.length F1 H1 D io2 h2 F2 H3 ∧ H3 D = some (.lst xs) ∧ VRs T X.K io2 h2.length F2 acc xs ∧ RSt T X.K io2 h2.length F2 (wipeG sg own) (wipe σ own) ∧ WantsD T X.K io1 h1.length F1 H1 D R (compRef g t el (wipeG sg own) k m (i + 1) acc h2),
                fun H' n' => ⟨m, Nat.lt_succ_self _, by omega, n'⟩, ?_⟩
              refine comp_turn (rest := fun acc h => compRef g t el (wipeG sg own) k m (i + 1) acc h) hw hD c2 hD2 va rs2 (by omega) y w2 fun acc' h' io' F' H' xs' hl c' hd' va' rs' _ w' => ⟨io', h', F', acc', xs', by omega, c', hd', va', rs', w'⟩
/-- the list at D as a new mutable object; as one that never changes -/
theorem CInv.push {K : PySem.W.Frag} {io1 io : Nat → Addr} {n1 : Nat} {F1 H1 F H : Hp} {D : Addr} {h : Hh} {xs : List V} {acc : List Val} (hD1 : H1 D = none) (st : Step io1 n1 F1 H1 io h.length F H) (sr : SR T K io h F H) (hD : H D = some (.lst xs)) (va : VRs T K io h.length F acc xs) (fd : F D = none) (nd : ∀ k, k < h.length → io k ≠ D) :
    Step io1 n1 F1 H1 (ioPush io h.length D) (h ++ [Obj.lst acc]).length F H ∧ SR T K (ioPush io h.length D) (h ++ [Obj.lst acc]) F H ∧ VR T K (ioPush io h.length D) (h ++ [Obj.lst acc]).length F (.ref h.length) (.ref D) := by
  have len : (h ++ [Obj.lst acc]).length = h.length + 1 := by simp
  refine ⟨⟨by rw [len]; exact Nat.le_succ_of_le st.le, fun k hk => (ioPush_lt io D (Nat.lt_of_lt_of_le hk st.le)).trans (st.eq k hk), st.phi, st.frame, fun k a b => ?_, st.fresh⟩, ⟨sr.sub, fun k hk => ?_, fun j k hj hk e => ?_, fun k o e => ?_⟩, ?_⟩
  · rw [len] at b
    by_cases q : k = h.length
    · subst q; rw [ioPush_at]; exact hD1
    · rw [ioPush_lt io D (by omega)]; exact st.new k a (by omega)
  · rw [len] at hk
    by_cases q : k = h.length
    · subst q; rw [ioPush_at]; exact fd
    · rw [ioPush_lt io D (by omega)]; exact sr.dis k (by omega)
  · rw [len] at hj hk
    by_cases qj : j = h.length
    · by_cases qk : k = h.length
      · rw [qj, qk]
      · rw [qj, ioPush_at, ioPush_lt io D (by omega)] at e; exact absurd e.symm (nd k (by omega))
    · by_cases qk : k = h.length
      · rw [qk, ioPush_at, ioPush_lt io D (by omega)] at e; exact absurd e (nd j (by omega))
      · rw [ioPush_lt io D (by omega), ioPush_lt io D (by omega)] at e; exact sr.inj j k (by omega) (by omega) e
  · rw [len]
    by_cases q : k < h.length
    · rw [List.getElem?_append_left q] at e
      rw [ioPush_lt io D q]
      exact (sr.obj k o e).mono (Nat.le_succ _) (fun j hj => ioPush_lt io D hj) (fun _ _ e => e) (fun _ _ e => e)
    · rw [List.getElem?_append_right (by omega)] at e
      by_cases q2 : k = h.length
      · subst q2
        simp at e
        subst e
        rw [ioPush_at]
        exact ⟨xs, hD, va.mono (Nat.le_succ _) (fun j hj => ioPush_lt io D hj) (fun _ _ e => e)⟩
      · rw [List.getElem?_eq_none (by simp; omega)] at e; cases e
  · have vp : VR T K (ioPush io h.length D) (h ++ [Obj.lst acc]).length F (.ref h.length) (.ref (ioPush io h.length D h.length)) := .ref _ (by simp)
    rw [ioPush_at] at vp
    exact vp
theorem CInv.froze {K : PySem.W.Frag} {io1 io : Nat → Addr} {n1 : Nat} {F1 H1 F H : Hp} {D : Addr} {h : Hh} {o : HO} (hD1 : H1 D = none) (st : Step io1 n1 F1 H1 io h.length F H) (sr : SR T K io h F H) (hD : H D = some o) (fd : F D = none) (nd : ∀ k, k < h.length → io k ≠ D) :
    Step io1 n1 F1 H1 io h.length (upd F D o) H ∧ SR T K io h (upd F D o) H ∧ (∀ b u, F b = some u → upd F D o b = some u) := by
  have mn := upd_sub (o := o) F fd
  refine ⟨⟨st.le, st.eq, fun b u e => mn b u (st.phi b u e), st.frame, st.new, fun b u e => ?_⟩, ⟨fun b u e => ?_, fun k hk => ?_, sr.inj, fun k ob e => (sr.obj k ob e).mono (Nat.le_refl _) (fun _ _ => rfl) mn (fun _ _ e => e)⟩, mn⟩
  · by_cases hb : b = D
    · subst hb; exact .inr (.inl hD1)
    · rw [upd_ne hb] at e; exact st.fresh b u e
  · by_cases hb : b = D
    · subst hb; rw [upd_same] at e; cases e; exact hD
    · rw [upd_ne hb] at e; exact sr.sub b u e
  · rw [upd_ne (nd k hk)]; exact sr.dis k hk
theorem je_lc {elt tg iter : Expr} {ifs : List Expr} {scope : Scope} (own : List (Str × Nat)) {fi : Ix} {g : Gx} {t el : Ex} {ws : List Nat} (hc : X.calm = true) (hN : X.N.Nodup) (hi : JI T X W tg iter fi) (ok : BlkOk X.N X.env.scope scope own) (hw : ∀ j, j ∈ ws → j ∈ own.map (·.2))
    (hg : ∀ (s : Shared) (H : Hp) (C : Addr) (cl : List (Str × Addr)) (fp : List Addr), JGw T (X.blk s H scope (compEnvC scope cl C X.env) fp) ws tg g) (ht : ∀ (s : Shared) (H : Hp) (C : Addr) (cl : List (Str × Addr)) (fp : List Addr), JTs T (X.blk s H scope (compEnvC scope cl C X.env) fp) Wno ifs t)
    (he : ∀ (s : Shared) (H : Hp) (C : Addr) (cl : List (Str × Addr)) (fp : List Addr), JE T (X.blk s H scope (compEnvC scope cl C X.env) fp) Wno elt el) (hs : ∀ x, foldedSetIterable iter X.env x = pure x := by intro _; rfl) :
    JE T X W (.ListComp elt [⟨tg, iter, ifs, 0⟩] scope pos) (xComp (own.map (·.2)) fi g t el) := by
  refine pe_imp (pe_lc hc hN hi ok hg ht he hs) fun σ H Q ⟨io, h, F, sg, sr, rs, w⟩ => comp_core (tg := tg) (iter := iter) (elt := elt) (ifs := ifs) (Q := Q) hw sr rs ?_
  unfold xComp at w
  cases e : xCompL (own.map (·.2)) fi g t el sg h with
  | bad => rw [e] at w; exact w
  | exc c fs h' => rw [e] at w; exact w
  | ok acc h' =>
    rw [e] at w
    intro D io' F' H' xs hD st sr' hd va fd nd
    obtain ⟨s1, s2, s3⟩ := CInv.push hD st sr' hd va fd nd
    exact w _ F' H' _ s1 s2 s3
theorem je_lcF {elt tg iter : Expr} {ifs : List Expr} {scope : Scope} (own : List (Str × Nat)) {fi : Ix} {g : Gx} {t el : Ex} {ws : List Nat} (hc : X.calm = true) (hN : X.N.Nodup) (hi : JI T X W tg iter fi) (ok : BlkOk X.N X.env.scope scope own) (hw : ∀ j, j ∈ ws → j ∈ own.map (·.2))
    (hg : ∀ (s : Shared) (H : Hp) (C : Addr) (cl : List (Str × Addr)) (fp : List Addr), JGw T (X.blk s H scope (compEnvC scope cl C X.env) fp) ws tg g) (ht : ∀ (s : Shared) (H : Hp) (C : Addr) (cl : List (Str × Addr)) (fp : List Addr), JTs T (X.blk s H scope (compEnvC scope cl C X.env) fp) Wno ifs t)
    (he : ∀ (s : Shared) (H : Hp) (C : Addr) (cl : List (Str × Addr)) (fp : List Addr), JE T (X.blk s H scope (compEnvC scope cl C X.env) fp) Wno elt el) (hs : ∀ x, foldedSetIterable iter X.env x = pure x := by intro _; rfl) :
    JE T X W (.ListComp elt [⟨tg, iter, ifs, 0⟩] scope pos) (xCompF (own.map (·.2)) fi g t el) := by
  refine pe_imp (pe_lc hc hN hi ok hg ht he hs) fun σ H Q ⟨io, h, F, sg, sr, rs, w⟩ => comp_core (tg := tg) (iter := iter) (elt := elt) (ifs := ifs) (Q := Q) hw sr rs ?_
  unfold xCompF at w
  cases e : xCompL (own.map (·.2)) fi g t el sg h with
  | bad => rw [e] at w; exact w
  | exc c fs h' => rw [e] at w; exact w
  | ok acc h' =>
    rw [e] at w
    intro D io' F' H' xs hD st sr' hd va fd nd
    obtain ⟨s1, s2, mn⟩ := CInv.froze hD st sr' hd fd nd
    exact w _ _ H' _ s1 s2 (.lst (SqL.of upd_same) (va.mono (Nat.le_refl _) (fun _ _ => rfl) mn))
end
end Py

namespace Py
open PySem PySem.Spec PyProof.Rows L2

/-! ### what is known of a class of the text -/
structure Cf (T : Tb) (K : PySem.W.Frag) (c : Nat) : Prop where
  cls : Cls K (He.ga K (T.cn c))
  nd : (T.fn c).Nodup
  no : ∀ f, f ∈ T.fn c → NoAttr K (He.ga K (T.cn c)) f
  few : (T.fn c).length < 1000
theorem zip_lookup {f : Str} {v : V} : ∀ {ns : List Str} {xs : List V} {i : Nat}, ns.Nodup → ns[i]? = some f → xs[i]? = some v → (ns.zip xs).lookup f = some v
  | [], _, _, _, h, _ => by simp at h
  | _ :: _, [], _, _, _, h => by simp at h
  | n :: ns, x :: xs, 0, nd, h1, h2 => by
    simp at h1 h2
    subst h1 h2
    simp [List.zip_cons_cons, List.lookup]
  | n :: ns, x :: xs, i + 1, nd, h1, h2 => by
    have h1' : ns[i]? = some f := by simpa using h1
    have h2' : xs[i]? = some v := by simpa using h2
    have hne : f ≠ n := fun z => by
      subst z
      exact (List.nodup_cons.mp nd).1 (List.mem_of_getElem? h1')
    have hb : (f == n) = false := beq_eq_false_iff_ne.mpr hne
    simp only [List.zip_cons_cons, List.lookup, hb]
    exact zip_lookup (List.nodup_cons.mp nd).2 h1' h2'
theorem zip_none {f : Str} : ∀ {ns : List Str} {xs : List V}, f ∉ ns → (ns.zip xs).lookup f = none
  | [], _, _ => rfl
  | _ :: _, [], _ => rfl
  | n :: ns, x :: xs, h => by
    have hb : (f == n) = false := beq_eq_false_iff_ne.mpr fun z => h (by simp [z])
    simp only [List.zip_cons_cons, List.lookup, hb]
    exact zip_none fun z => h (List.mem_cons_of_mem _ z)
theorem putF_zip_new {f : Str} {y : V} : ∀ {ns : List Str} {xs : List V}, xs.length = ns.length → f ∉ ns → putF f y (ns.zip xs) = (ns ++ [f]).zip (xs ++ [y])
  | [], [], _, _ => rfl
  | n :: ns, x :: xs, hl, h => by
    have hne : n ≠ f := fun z => h (by simp [z])
    have ih := putF_zip_new (f := f) (y := y) (ns := ns) (xs := xs) (by simpa using hl) fun z => h (List.mem_cons_of_mem _ z)
    show (if n = f then _ else (n, x) :: putF f y (ns.zip xs)) = _
    rw [if_neg hne, ih]
    rfl
  | [], _ :: _, hl, _ => by simp at hl
  | _ :: _, [], hl, _ => by simp at hl
theorem putF_zip_old {f : Str} {y : V} : ∀ {ns : List Str} {xs : List V} {i : Nat}, ns.Nodup → ns[i]? = some f → i < xs.length → putF f y (ns.zip xs) = ns.zip (xs.set i y)
  | [], _, _, _, h, _ => by simp at h
  | _ :: _, [], _, _, _, h => by simp at h
  | n :: ns, x :: xs, 0, nd, h1, h2 => by
    simp at h1
    subst h1
    show (if n = n then (n, y) :: ns.zip xs else _) = _
    rw [if_pos rfl]; rfl
  | n :: ns, x :: xs, i + 1, nd, h1, h2 => by
    have h1' : ns[i]? = some f := by simpa using h1
    have hne : n ≠ f := fun z => by
      subst z
      exact (List.nodup_cons.mp nd).1 (List.mem_of_getElem? h1')
    have ih := putF_zip_old (y := y) (List.nodup_cons.mp nd).2 h1' (show i < xs.length by simpa using h2)
    show (if n = f then _ else (n, x) :: putF f y (ns.zip xs)) = _
    rw [if_neg hne, ih]; rfl

/-! ### attributes -/
def AttOk (T : Tb) (K : PySem.W.Frag) (f : Str) (l : List (Nat × Nat)) : Prop := ∀ c i, l.lookup c = some i → (T.fn c)[i]? = some f ∧ Cf T K c
theorem AttOk.nil {T : Tb} {K : PySem.W.Frag} {f : Str} : AttOk T K f [] := fun c i e => by cases e
theorem AttOk.cons {T : Tb} {K : PySem.W.Frag} {f : Str} {l : List (Nat × Nat)} {c i : Nat} (h : (T.fn c)[i]? = some f) (k : Cf T K c) (r : AttOk T K f l) : AttOk T K f ((c, i) :: l) := fun c' i' e => by
  by_cases q : c' = c
  · subst q; simp [List.lookup] at e; subst e; exact ⟨h, k⟩
  · have hb : (c' == c) = false := beq_eq_false_iff_ne.mpr q
    simp only [List.lookup, hb] at e
    exact r c' i' e
def gAttr (l : List (Nat × Nat)) : Hh → Val → Option Val := fun h v => match v with
  | .obj c fs => (match l.lookup c with
    | some i => fs[i]?
    | none => none)
  | .ref k => (match h[k]? with
    | some (.ins c fs) => (match l.lookup c with
      | some i => fs[i]?
      | none => none)
    | _ => none)
  | _ => none
section
variable {T : Tb} {X : Cx} {W : WX} {a b c e o : Expr} {fa fb fc fe fo : Ex} {pos pos' apos : Pos} {f : Str}
theorem je_attr {l : List (Nat × Nat)} (he : JE T X W e fe) (hl : AttOk T X.K f l) (hb : attributeBase e f X.env (eval e X.env) = eval e X.env := by rfl) : JE T X W (.Attribute e f pos) (xUn (gAttr l) fe) := by
  refine pe_imp (pe_fld he hb) fun σ H Q ⟨io, h, F, sg, sr, rs, w⟩ => ⟨io, h, F, sg, sr, rs, Wants.bind w fun v h1 io1 F1 H1 x st sr1 vr w1 => ?_⟩
  obtain ⟨z, ez, w2⟩ := wants_ofO w1
  unfold gAttr at ez
  cases vr with
  | @obj cc vs aa dx xs q qd r hlen =>
    dsimp only at ez
    cases el : l.lookup cc with
    | none => rw [el] at ez; cases ez
    | some i =>
      rw [el] at ez
      obtain ⟨hf, k⟩ := hl cc i el
      obtain ⟨x', ex, rx⟩ := r.get ez
      exact ⟨aa, _, dx, _, x', rfl, sr1.sub _ _ q, k.cls, k.no f (List.mem_of_getElem? hf), zip_lookup k.nd hf ex, w2 io1 F1 H1 x' .refl sr1 rx⟩
  | ref k hk =>
    dsimp only at ez
    cases ek : h1[k]? with
    | none => rw [ek] at ez; cases ez
    | some ob =>
      rw [ek] at ez
      cases ob with
      | lst vs => cases ez
      | dct ks vs => cases ez
      | ins cc vs =>
        dsimp only at ez
        cases el : l.lookup cc with
        | none => rw [el] at ez; cases ez
        | some i =>
          rw [el] at ez
          obtain ⟨hf, kk⟩ := hl cc i el
          obtain ⟨dx, xs, ea, ed, r, hlen⟩ := sr1.obj k _ ek
          obtain ⟨x', ex, rx⟩ := r.get ez
          have hi : i < vs.length := (List.getElem?_eq_some_iff.mp ez).1
          have hf' : ((T.fn cc).take vs.length)[i]? = some f := by rw [List.getElem?_take_of_lt hi]; exact hf
          exact ⟨io1 k, _, dx, _, x', rfl, ea, kk.cls, kk.no f (List.mem_of_getElem? hf), zip_lookup (kk.nd.sublist (List.take_sublist _ _)) hf' ex, w2 io1 F1 H1 x' .refl sr1 rx⟩
  | _ => cases ez
/-- self.f = value, self a mutable object -/
def xSetAttr (l : List (Nat × Nat)) (v o : Ex) : Sx := fun sg h => (v sg h).bindS sg fun y h1 => (o sg h1).bindS sg fun ov h2 => match ov with
  | .ref k => (match h2[k]? with
    | some (.ins c fs) => (match l.lookup c with
      | some i => if i < fs.length then .next sg (h2.set k (.ins c (fs.set i y))) else if i = fs.length then .next sg (h2.set k (.ins c (fs ++ [y]))) else .bad
      | none => .bad)
    | _ => .bad)
  | _ => .bad
theorem take_succ_at {ns : List Str} {f : Str} {i : Nat} (h : ns[i]? = some f) : ns.take (i + 1) = ns.take i ++ [f] := by
  rw [List.take_add_one, h]; rfl
theorem js_setattr {l : List (Nat × Nat)} (hl : AttOk T X.K f l) (hv : JE T X W e fe) (ho : JE T X W o fo) (hs : swapsWith e (some (.Attribute o f pos')) pos.line X.env = pure false := by rfl) : JS T X W (.Assign [.Attribute o f pos'] e pos) (xSetAttr l fe fo) := by
  refine ps_imp (ps_fld ho hv hs) fun D σ H ⟨io, h, F, sg, sr, rs, w⟩ => ⟨io, h, F, sg, sr, rs, WantsS.ofRes rs w fun y h1 io1 F1 H1 yx st sr1 vy w1 => ⟨io1, h1, F1, sg, sr1, rs.step st, WantsS.ofRes (rs.step st) w1 fun ov h2 io2 F2 H2 ox st2 sr2 vo w2 => ?_⟩⟩
  cases vo with
  | ref k hk =>
    dsimp only at w2
    cases ek : h2[k]? with
    | none => rw [ek] at w2; exact w2.elim
    | some ob =>
      rw [ek] at w2
      cases ob with
      | lst vs => exact w2.elim
      | dct ks vs => exact w2.elim
      | ins cc vs =>
        dsimp only at w2
        cases el : l.lookup cc with
        | none => rw [el] at w2; exact w2.elim
        | some i =>
          rw [el] at w2
          dsimp only at w2
          obtain ⟨hf, kk⟩ := hl cc i el
          obtain ⟨dx, xs, ea, ed, r, hlen⟩ := sr2.obj k _ ek
          have xl := r.length
          have hno : ∀ z, H2 (io2 k) ≠ some (.own z) := fun z q => by rw [ea] at q; cases q
          have nod : dx ≠ io2 k := fun z => by rw [z, ea] at ed; cases ed
          have hsm : (((T.fn cc).take vs.length).zip xs).length < 1000 := by
            have := kk.few
            rw [List.length_zip, List.length_take]
            omega
          have vy2 := vy.step st2
          have rs2 := (rs.step st).step st2
          have tk : ∀ (ys : List Val) (zs : List V), VRs T X.K io2 h2.length F2 ys zs → ys.length ≤ (T.fn cc).length → (((T.fn cc).take vs.length).zip xs).length < 1000 → putF f yx (((T.fn cc).take vs.length).zip xs) = ((T.fn cc).take ys.length).zip zs → WantsS T X.K io2 h2.length F2 H2 W D (.next sg (h2.set k (.ins cc ys))) → 
              ∃ a C dx' fs, V.ref (io2 k) = .ref a ∧ H2 a = some (.ins C dx' fs) ∧ Cls X.K C ∧ NoAttr X.K C f ∧ fs.length < 1000 ∧ D.nx σ (upd H2 a (.ins C dx' (putF f yx fs))) := by
            intro ys zs ry hy hsm hp wn
            refine ⟨io2 k, _, dx, _, rfl, ea, kk.cls, kk.no f (List.mem_of_getElem? hf), hsm, ?_⟩
            have st3 : Step io2 h2.length F2 H2 io2 (h2.set k (.ins cc ys)).length F2 (upd H2 (io2 k) (.ins (He.ga X.K (T.cn cc)) dx (putF f yx (((T.fn cc).take vs.length).zip xs)))) := sr2.writeStep hk
            refine wn io2 F2 _ σ st3 (sr2.write hk hno ⟨dx, zs, by rw [upd_same, hp], by rw [upd_ne nod]; exact ed, ry, hy⟩) ?_
            have := rs2.step st3
            exact this
          by_cases hi : i < vs.length
          · rw [if_pos hi] at w2
            have hf' : ((T.fn cc).take vs.length)[i]? = some f := by rw [List.getElem?_take_of_lt hi]; exact hf
            exact tk (vs.set i y) (xs.set i yx) (r.set vy2 i) (by simpa using hlen) hsm (by rw [List.length_set]; exact putF_zip_old (kk.nd.sublist (List.take_sublist _ _)) hf' (by omega)) w2
          · rw [if_neg hi] at w2
            by_cases hi2 : i = vs.length
            · rw [if_pos hi2] at w2
              subst hi2
              have hlt : vs.length < (T.fn cc).length := (List.getElem?_eq_some_iff.mp hf).1
              have hnot : f ∉ (T.fn cc).take vs.length := fun hm => by
                obtain ⟨j, hj, ej⟩ := List.mem_iff_getElem.mp hm
                have hj' : j < vs.length := by simp at hj; omega
                have e1 : (T.fn cc)[j]? = some f := by
                  rw [← List.getElem?_take_of_lt hj', List.getElem?_eq_getElem hj, ej]
                have := nodup_ix kk.nd e1 hf
                omega
              exact tk (vs ++ [y]) (xs ++ [yx]) (r.append (.cons vy2 .nil)) (by simp; omega) hsm (by
                rw [putF_zip_new (by rw [List.length_take]; omega) hnot, List.length_append, List.length_singleton, take_succ_at hf]) w2
            · rw [if_neg hi2] at w2; exact w2.elim
  | _ => exact w2.elim
end
end Py

namespace Py
open PySem PySem.Spec PyProof.Rows L2

/-! ### the receiver: an object of the class c, frozen or mutable -/
def isA (c : Nat) (h : Hh) : Val → Bool
  | .obj c' _ => c' == c
  | .ref k => (match h[k]? with
    | some (.ins c' _) => c' == c
    | _ => false)
  | _ => false
section
variable {T : Tb} {K : PySem.W.Frag} {io : Nat → Addr} {F H : Hp} {h : Hh} {v : Val} {x : V} {c : Nat}
theorem isA_ok (sr : SR T K io h F H) (vr : VR T K io h.length F v x) (e : isA c h v = true) (m : Str) (hm : m ∉ T.fn c) : ∃ a dx fs, x = .ref a ∧ H a = some (.ins (He.ga K (T.cn c)) dx fs) ∧ fs.lookup m = none := by
  unfold isA at e
  cases vr with
  | @obj cc vs a dx xs q qd r hl =>
    have : cc = c := beq_iff_eq.mp e
    subst this
    exact ⟨a, dx, _, rfl, sr.sub _ _ q, zip_none hm⟩
  | ref k hk =>
    dsimp only at e
    cases ek : h[k]? with
    | none => rw [ek] at e; cases e
    | some ob =>
      rw [ek] at e
      cases ob with
      | lst vs => cases e
      | dct ks vs => cases e
      | ins cc vs =>
        have : cc = c := beq_iff_eq.mp e
        subst this
        obtain ⟨dx, xs, ea, ed, r, hlen⟩ := sr.obj k _ ek
        exact ⟨io k, dx, _, rfl, ea, zip_none fun z => hm (List.mem_of_mem_take z)⟩
  | _ => cases e
end

/-! ### method calls -/
section
variable {T : Tb} {X : Cx} {W : WX} {e o : Expr} {es : List Expr} {fo : Ex} {fl : Lx} {pos apos : Pos} {ps : List Str} {k : Nat} {f : Fx} {m : Str} {c : Nat} {a : Addr} {fd : FuncData} {dvs : List V} {ds : List Value} {CXq : CXT} {sp : Sp} {E : L2.St → XK}
def tMethS (C : Addr) (m : Str) (sp : Sp) (dvs : List V) (E : L2.St → XK) (ta : TE) (t : TA) : TE := fun σ H Q => ta σ H fun x H1 => ∃ a dx fs, x = .ref a ∧ H1 a = some (.ins C dx fs) ∧ fs.lookup m = none ∧ t σ H1 fun vs H2 => sp (x :: (vs ++ dvs)) H2 Q (E σ)
theorem pe_methS {pl : Sem Bool} {C : Addr} {ta : TE} {t : TA} (he : PE X o ta) (cl : Cls X.K C) (hm : Meth X.K C m a) (G : FnG X.prog X.w X.K X.mg X.base CXq k a fd ps sp) (hr : RoomG k X.A) (hb : Binds X.K fd ps ds) (hd : Vals dvs ds) (hx : ∀ σ, PassesAt CXq X σ (E σ)) (ha : PA X (e :: es) t)
    (hst : starEach (e :: es) X.env = (false, eval e X.env) :: starEach es X.env) (hpl : (backTo pos (starEach es X.env)).any (·.1) = false)
    (ht : eval (.Call (.Attribute o m apos) (e :: es) [] pos) X.env = (eval o X.env >>= fun ov => standAt apos.atName >>= fun _ => holding [ov] (getMethod ov m pl) >>= fun p => callWith pos p.1 p.2 (backTo pos (starEach (e :: es) X.env)) (backToKw pos (keywordEach [] X.env)))) :
    PE X (.Call (.Attribute o m apos) (e :: es) [] pos) (tMethS C m sp dvs E ta t) := by
  refine ⟨fun pins s σ H Q I hq => PySem.W.methodCall_KW (pl := pl) (thn (he.run pins s σ H _ I hq) ?_) ht⟩
  rintro u s1 ⟨x, H1, I1, rx, q, dx, fs, rfl, ea, l, q1⟩
  cases (show u = Value.ref q from rx)
  exact getmeth_ok I1 ea cl hm l (PySem.W.callWith_K (first := [.ref q]) (h₀ := X.base) I.ok.mod.kin hm.kp (thn (ha.run pos pins s1 σ H1 _ I1 q1) fun us s2 ⟨vs, H2, I2, r, q2⟩ => ⟨I2.kIn, run_fnG (us := .ref q :: us) (vs := .ref q :: vs) G hr hb hd (hx σ) I2 (.cons rfl r) q2⟩) hst hpl)
theorem pe_methS0 {pl : Sem Bool} {C : Addr} {ta : TE} (he : PE X o ta) (cl : Cls X.K C) (hm : Meth X.K C m a) (G : FnG X.prog X.w X.K X.mg X.base CXq k a fd ps sp) (hr : RoomG k X.A) (hb : Binds X.K fd ps ds) (hd : Vals dvs ds) (hx : ∀ σ, PassesAt CXq X σ (E σ))
    (ht : eval (.Call (.Attribute o m apos) [] [] pos) X.env = (eval o X.env >>= fun ov => standAt apos.atName >>= fun _ => holding [ov] (getMethod ov m pl) >>= fun p => callWith pos p.1 p.2 (backTo pos (starEach [] X.env)) (backToKw pos (keywordEach [] X.env)))) :
    PE X (.Call (.Attribute o m apos) [] [] pos) (tMethS C m sp dvs E ta tNil) := by
  refine ⟨fun pins s σ H Q I hq => PySem.W.methodCall_KW (pl := pl) (thn (he.run pins s σ H _ I hq) ?_) ht⟩
  rintro u s1 ⟨x, H1, I1, rx, q, dx, fs, rfl, ea, l, q1⟩
  cases (show u = Value.ref q from rx)
  exact getmeth_ok I1 ea cl hm l (PySem.W.callWith_K0 (first := [.ref q]) I1.kIn hm.kp (run_fnG (us := [.ref q]) (vs := [.ref q]) G hr hb hd (hx σ) I1 (.cons rfl .nil) q1))
def xMethP (T : Nat → List Str) (c : Nat) (f : Fx) (dfl : List Val) (o : Ex) (l : Lx) : Ex := fun sg h => (o sg h).bind fun ov h1 => if isA c h1 ov = true then (l sg h1).bind fun as h2 => callQ T f (ov :: (as ++ dfl)) h2 else .bad
def xMethA (c : Nat) (f : Fx) (dfl : List Val) (o : Ex) (l : Lx) : Ex := fun sg h => (o sg h).bind fun ov h1 => if isA c h1 ov = true then (l sg h1).bind fun as h2 => f h2 (ov :: (as ++ dfl)) else .bad
theorem je_methP {pl : Sem Bool} (ho : JE T X W o fo) (cf : Cf T X.K c) (hm : Meth X.K (He.ga X.K (T.cn c)) m a) (hmf : m ∉ T.fn c) (G : FnG X.prog X.w X.K X.mg X.base (CX X.prog X.w) k a fd ps (spF T X.K f)) (hr : RoomG k X.A) {dfl : List Val} (hD : Dfl T X.K dfl dvs) (hb : Binds X.K fd ps ds) (hd : Vals dvs ds) (tk : Takes X W) (ha : JA T X W (e :: es) fl)
    (hst : starEach (e :: es) X.env = (false, eval e X.env) :: starEach es X.env := by rfl) (hpl : (backTo pos (starEach es X.env)).any (·.1) = false := by rfl)
    (ht : eval (.Call (.Attribute o m apos) (e :: es) [] pos) X.env = (eval o X.env >>= fun ov => standAt apos.atName >>= fun _ => holding [ov] (getMethod ov m pl) >>= fun p => callWith pos p.1 p.2 (backTo pos (starEach (e :: es) X.env)) (backToKw pos (keywordEach [] X.env))) := by rfl) :
    JE T X W (.Call (.Attribute o m apos) (e :: es) [] pos) (xMethP T.fn c f dfl fo fl) := by
  refine pe_imp (pe_methS (E := fun σ c d H => W c d σ H) (sp := spF T X.K f) ho cf.cls hm G hr hb hd (fun σ => passAt tk σ) ha hst hpl ht) fun σ H Q ⟨io, h, F, sg, sr, rs, w⟩ => ⟨io, h, F, sg, sr, rs, Wants.bind w fun ov h1 io1 F1 H1 x st sr1 vr w1 => ?_⟩
  by_cases hi : isA c h1 ov = true
  · rw [if_pos hi] at w1
    obtain ⟨a, dx, fs, ex, ea, l⟩ := isA_ok sr1 vr hi m hmf
    exact ⟨a, dx, fs, ex, ea, l, io1, h1, F1, sg, sr1, rs.step st, Wants.bindOfL w1 fun vs h2 io2 F2 H2 xs st2 sr2 vrs w2 => callQ_ok sr2 (.cons (vr.step st2) (vrs.append (hD _ _ _))) w2⟩
  · rw [if_neg hi] at w1; exact w1.elim
theorem je_methP0 {pl : Sem Bool} (ho : JE T X W o fo) (cf : Cf T X.K c) (hm : Meth X.K (He.ga X.K (T.cn c)) m a) (hmf : m ∉ T.fn c) (G : FnG X.prog X.w X.K X.mg X.base (CX X.prog X.w) k a fd ps (spF T X.K f)) (hr : RoomG k X.A) {dfl : List Val} (hD : Dfl T X.K dfl dvs) (hb : Binds X.K fd ps ds) (hd : Vals dvs ds) (tk : Takes X W)
    (ht : eval (.Call (.Attribute o m apos) [] [] pos) X.env = (eval o X.env >>= fun ov => standAt apos.atName >>= fun _ => holding [ov] (getMethod ov m pl) >>= fun p => callWith pos p.1 p.2 (backTo pos (starEach [] X.env)) (backToKw pos (keywordEach [] X.env))) := by rfl) :
    JE T X W (.Call (.Attribute o m apos) [] [] pos) (xMethP T.fn c f dfl fo xNil) := by
  refine pe_imp (pe_methS0 (E := fun σ c d H => W c d σ H) (sp := spF T X.K f) ho cf.cls hm G hr hb hd (fun σ => passAt tk σ) ht) fun σ H Q ⟨io, h, F, sg, sr, rs, w⟩ => ⟨io, h, F, sg, sr, rs, Wants.bind w fun ov h1 io1 F1 H1 x st sr1 vr w1 => ?_⟩
  by_cases hi : isA c h1 ov = true
  · rw [if_pos hi] at w1
    obtain ⟨a, dx, fs, ex, ea, l⟩ := isA_ok sr1 vr hi m hmf
    exact ⟨a, dx, fs, ex, ea, l, callQ_ok sr1 (.cons vr (hD _ _ _)) w1⟩
  · rw [if_neg hi] at w1; exact w1.elim

/-! ### a new object of an own class: made, then never changed -/
def makeP (T : Nat → List Str) (c : Nat) (f : Fx) (as : List Val) (h : Hh) : Res := if (h.isEmpty || pureVs as) = true then (match f [.ins c []] (.ref 0 :: as) with
  | .ok _ h' => .ofO (frz T h' 30 (.ref 0)) h
  | .exc c fs h' => (match frzTops T h' fs with
    | some fs' => .exc c fs' h
    | none => .bad)
  | .bad => .bad) else .bad
def spMk (T : Tb) (K : PySem.W.Frag) (c : Nat) (sp : Sp) (vs : List V) (H : Hp) (Q : VK) (W : XK) : Prop := ∀ x dx, H x = none → H dx = none → dx ≠ x →
  sp (.ref x :: vs) (upd (upd H dx (.own x)) x (.ins (He.ga K (T.cn c)) dx [])) (fun v H2 => v = .non ∧ Q (.ref x) H2) W
theorem makeP_ok {K : PySem.W.Frag} {io : Nat → Addr} {F H : Hp} {h : Hh} {W : XK} {Q : VK} {f : Fx} {as : List Val} {vs : List V} (hf : ∀ as h v h', f h as = .ok v h' → v = .non) (sr : SR T K io h F H) (r : VRs T K io h.length F as vs) (w : Wants T K io h.length F H W Q (makeP T.fn c f as h)) : spMk T K c (spF T K f) vs H Q W := by
  intro x dx hx hdx hne
  unfold makeP at w
  by_cases hp : (h.isEmpty || pureVs as) = true
  · rw [if_pos hp] at w
    have r0 : VRs T K io 0 F as vs := by
      rcases Bool.or_eq_true_iff.mp hp with z | z
      · have : h = [] := List.isEmpty_iff.mp z
        subst this; exact r
      · exact r.pure z
    have hx2 : upd H dx (.own x) x = none := by rw [upd_ne (Ne.symm hne)]; exact hx
    have hH : ∀ b u, H b = some u → upd (upd H dx (.own x)) x (.ins (He.ga K (T.cn c)) dx []) b = some u := fun b u e => upd_sub _ hx2 b u (upd_sub H hdx b u e)
    have fx : F x = none := sr.none_of hx
    let io0 : Nat → Addr := fun _ => x
    have s0 : SR T K io0 [.ins c []] F (upd (upd H dx (.own x)) x (.ins (He.ga K (T.cn c)) dx [])) := by
      refine ⟨fun b o e => hH b o (sr.sub b o e), fun k hk => fx, fun j k hj hk _ => ?_, fun k o e => ?_⟩
      · have h1 : j < 1 := hj
        have h2 : k < 1 := hk
        omega
      · have hk : k = 0 := by
          have := (List.getElem?_eq_some_iff.mp e).1
          have h1 : k < 1 := this
          omega
        subst hk
        cases (Option.some.inj e : Obj.ins c [] = o)
        exact ⟨dx, [], by rw [show io0 0 = x from rfl, upd_same]; rfl, by rw [upd_ne hne, upd_same], .nil, Nat.zero_le _⟩
    refine ⟨io0, [.ins c []], F, .ref 0 :: as, s0, .cons (.ref 0 (Nat.lt_succ_self 0)) (r0.mono (Nat.zero_le _) (fun k hk => absurd hk (Nat.not_lt_zero _)) (fun _ _ e => e)), ?_⟩
    -- the state behind the callee, from ahead of the new object
    have back : ∀ {io' : Nat → Addr} {h' : Hh} {F' H' : Hp}, Step io0 ([Obj.ins c []] : Hh).length F (upd (upd H dx (.own x)) x (.ins (He.ga K (T.cn c)) dx [])) io' h'.length F' H' → SR T K io' h' F' H' → Step io 0 F H io' h'.length F' H' := fun {io' h' F' H'} st sr' => by
      refine ⟨Nat.zero_le _, fun k hk => absurd hk (Nat.not_lt_zero _), st.phi, fun b o e _ => st.frame b o (hH b o e) fun k hk z => ?_, fun k _ hk => ?_, fun b o e => ?_⟩
      · have : x = b := z
        rw [this, e] at hx; cases hx
      · by_cases h0 : k < 1
        · rw [st.eq k h0]; exact hx
        · have z := st.new k (by show 1 ≤ k; omega) hk
          cases q : H (io' k) with
          | none => rfl
          | some u => rw [hH _ _ q] at z; cases z
      · rcases st.fresh b o e with z | z | z
        · exact .inl z
        · refine .inr (.inl ?_)
          cases q : H b with
          | none => rfl
          | some u => rw [hH _ _ q] at z; cases z
        · exact .inr (.inr z)
    cases e : f [.ins c []] (.ref 0 :: as) with
    | bad => rw [e] at w; exact w
    | ok v h' =>
      rw [e] at w
      obtain ⟨z, ez, w1⟩ := wants_ofO w
      intro io1 F1 H1 x1 st sr1 vr
      have hv := hf _ _ _ _ e
      subst hv
      cases vr
      refine ⟨rfl, ?_⟩
      have st0 := back st sr1
      obtain ⟨a1, b1⟩ := sr_back sr st0 sr1
      have hlen : 0 < h'.length := Nat.lt_of_lt_of_le (Nat.lt_succ_self 0) st.le
      have v0 : VR T K io1 h'.length F1 (.ref 0) (.ref (io1 0)) := .ref 0 hlen
      have e0 : io1 0 = x := st.eq 0 (Nat.lt_succ_self 0)
      rw [e0] at v0
      refine w1 io _ H1 (.ref x) b1 a1 ?_
      exact (frz_ok (io' := io) sr1 F2of_sub (fun k hk => F2of_at sr1 hk) (fun k d hk e => F2of_own sr1 hk e) 30 (.ref 0) z (.ref x) ez v0).ofEmpty rfl
    | exc cc fs h' =>
      rw [e] at w
      intro io1 F1 H1 d st sr1 xr
      dsimp only at w
      cases ez : frzTops T.fn h' fs with
      | none => rw [ez] at w; exact w.elim
      | some fs' =>
        rw [ez] at w
        obtain ⟨a1, b1⟩ := sr_back sr (back st sr1) sr1
        exact w io _ H1 d b1 a1 (xr.change (fun z => by subst z; exact frzTops_nil ez) fun xs r => frzTops_ok sr1 ez r)
  · rw [if_neg hp] at w; exact w.elim
theorem makeP_heap {T : Nat → List Str} {as : List Val} {h h2 : Hh} {v : Val} {f : Fx} {c : Nat} (e : makeP T c f as h = .ok v h2) : h2 = h := by
  unfold makeP at e
  split at e
  · split at e
    · unfold Res.ofO at e
      split at e
      · cases e; rfl
      · cases e
    · split at e <;> cases e
    · cases e
  · cases e
def makeQ (T : Nat → List Str) (c : Nat) (f : Fx) (as : List Val) (h : Hh) : Res := if pureVs as = true then makeP T c f as h else match as.mapM (lend h) with
  | some bs => (match makeP T c f bs [] with
    | .ok v _ => if noLst v = true then .ok v h else .bad
    | _ => .bad)
  | none => .bad
theorem makeQ_ok {K : PySem.W.Frag} {io : Nat → Addr} {F H : Hp} {h : Hh} {W : XK} {Q : VK} {f : Fx} {as : List Val} {vs : List V} (hf : ∀ as h v h', f h as = .ok v h' → v = .non) (sr : SR T K io h F H) (r : VRs T K io h.length F as vs) (w : Wants T K io h.length F H W Q (makeQ T.fn c f as h)) : spMk T K c (spF T K f) vs H Q W := by
  unfold makeQ at w
  by_cases hp : pureVs as = true
  · rw [if_pos hp] at w
    exact makeP_ok hf sr r w
  · rw [if_neg hp] at w
    cases em : as.mapM (lend h) with
    | none => rw [em] at w; exact w.elim
    | some bs =>
      rw [em] at w
      dsimp only at w
      have r0 : VRs T K io ([] : Hh).length (FL io h.length F H) bs vs := mapM_VRs (lend_ok sr) em r
      have s0 : SR T K io [] (FL io h.length F H) H := ⟨FL_in sr.sub, fun k hk => absurd hk (Nat.not_lt_zero _), fun j k hj => absurd hj (Nat.not_lt_zero _), fun k o e => by simp at e⟩
      refine makeP_ok hf s0 r0 ?_
      cases ec : makeP T.fn c f bs [] with
      | bad => rw [ec] at w; exact w.elim
      | exc c fs h' => rw [ec] at w; exact w.elim
      | ok v h2 =>
        have eh := makeP_heap ec
        subst eh
        rw [ec] at w
        dsimp only at w
        split at w
        · rename_i hz
          intro io1 F1 H1 x st sr1 vr
          obtain ⟨a, b⟩ := lend_back sr st sr1
          exact w io _ H1 x b a (vr.back sr.sub st hz)
        · exact w.elim
/-- C(..), what it raises wished for at the slots -/
theorem run_makeS {C : Addr} {pins : List (Addr × PySem.Obj)} {σ : L2.St} {H : Hp} {s : Shared} {Q : VK} {us : List Value} {vs : List V} {Eσ : XK} (M : Mk X.K C a) (G : FnG X.prog X.w X.K X.mg X.base CXq k a fd ps sp) (hr : RoomG (k + 1) X.A) (hb : Binds X.K fd ps ds) (hd : Vals dvs ds)
    (hx : PassesAt CXq X σ Eσ) (I : L2.Inv X pins σ H s) (r : Vals vs us)
    (h : ∀ x dx, H x = none → H dx = none → dx ≠ x → sp (.ref x :: (vs ++ dvs)) (upd (upd H dx (.own x)) x (.ins C dx [])) (fun v H2 => v = .non ∧ Q (.ref x) H2) Eσ) :
    wpAny (model X.prog X.w) X.A (call (.ref C) us) (EP X pins σ Q) X.xe s := by
  have f0 : H s.heap.objs.size = none := I.hok.fresh (Nat.le_refl _)
  have f1 : H (s.heap.objs.size + 1) = none := I.hok.fresh (Nat.le_succ _)
  have hq := h _ _ f1 f0 (Nat.ne_of_lt (Nat.lt_succ_self _))
  have I2 : L2.Inv X pins σ _ _ := L2.Inv.made (C := C) I
  have rr : Vals (V.ref (s.heap.objs.size + 1) :: (vs ++ dvs)) (Value.ref (s.heap.objs.size + 1) :: (us ++ ds)) := Paired.cons rfl (Vals.append r hd)
  have hl : (Value.ref (s.heap.objs.size + 1) :: us ++ ds).length = ps.length := by
    have e1 := Vals.length rr
    rw [G.len _ _ _ _ hq] at e1
    exact Eq.symm e1
  refine wpAny_call (make_map (f := a) I.kIn M.makes M.init (beq_iff_eq.mp M.fn) ?_)
  refine codeAny_mono (G.run _ X.stack _ _ _ _ _ _ Eσ (hr.make C us []) (I2.env0.make C us []) (hb _ (Value.ref (s.heap.objs.size + 1) :: us) I2.kIn hl) rr hq) ?_
  intro rs s' hq'
  match rs, hq' with
  | .error er, hq' => exact hx pins _ _ er s' I2 hq'
  | .ok (.ret u), hq' =>
    obtain ⟨v, H', I3, rv, ev, q3⟩ := I2.after hq'
    rw [ev] at rv
    exact ⟨rv, ⟨V.ref (s.heap.objs.size + 1), H', I3, rfl, q3⟩⟩
  | .ok .next, hq' => exact False.elim hq'
  | .ok .brk, hq' => exact False.elim hq'
  | .ok .cont, hq' => exact False.elim hq'
def tMakeS (C : Addr) (sp : Sp) (dvs : List V) (E : L2.St → XK) (t : TA) : TE := fun σ H Q => t σ H fun vs H1 => ∀ x dx, H1 x = none → H1 dx = none → dx ≠ x →
  sp (.ref x :: (vs ++ dvs)) (upd (upd H1 dx (.own x)) x (.ins C dx [])) (fun v H2 => v = .non ∧ Q (.ref x) H2) (E σ)
variable {x : Str} {p : Pos}
theorem pe_makeS {C : Addr} {t : TA} (M : Mk X.K C a) (G : FnG X.prog X.w X.K X.mg X.base CXq k a fd ps sp) (hr : RoomG (k + 1) X.A) (hg : Gl X x) (hm : X.mg x = some (.ref C)) (hb : Binds X.K fd ps ds) (hd : Vals dvs ds) (hx : ∀ σ, PassesAt CXq X σ (E σ)) (ha : PA X (e :: es) t) (hdb : (x == ("__debug__" : Str)) = false)
    (he : starEach (e :: es) X.env = (false, eval e X.env) :: starEach es X.env) (hpl : (backTo pos (starEach es X.env)).any (·.1) = false) : PE X (.Call (.Name x p) (e :: es) [] pos) (tMakeS C sp dvs E t) :=
  ⟨fun pins s σ H Q I h => wpAny_Call_Name_kw (ld_glob I hg hm (PySem.W.callWith_K (h₀ := X.base) I.ok.mod.kin M.kp (thn (ha.run pos pins s σ H _ I h) fun us s1 ⟨vs, H1, I1, r, q⟩ => ⟨I1.kIn, run_makeS M G hr hb hd (hx σ) I1 r q⟩) he hpl) hdb)⟩
theorem pe_makeS0 {C : Addr} (M : Mk X.K C a) (G : FnG X.prog X.w X.K X.mg X.base CXq k a fd ps sp) (hr : RoomG (k + 1) X.A) (hg : Gl X x) (hm : X.mg x = some (.ref C)) (hb : Binds X.K fd ps ds) (hd : Vals dvs ds) (hx : ∀ σ, PassesAt CXq X σ (E σ)) (hdb : (x == ("__debug__" : Str)) = false) : PE X (.Call (.Name x p) [] [] pos) (tMakeS C sp dvs E tNil) :=
  ⟨fun pins s σ H Q I h => wpAny_Call_Name_kw (ld_glob I hg hm (PySem.W.callWith_K0 I.kIn M.kp (run_makeS (us := []) M G hr hb hd (hx σ) I .nil h)) hdb)⟩
def xMakeP (T : Nat → List Str) (c : Nat) (f : Fx) (dfl : List Val) (l : Lx) : Ex := fun sg h => (l sg h).bind fun as h1 => makeQ T c f (as ++ dfl) h1
theorem je_makeP (hf : ∀ as h v h', f h as = .ok v h' → v = .non) (M : Mk X.K (He.ga X.K (T.cn c)) a) (G : FnG X.prog X.w X.K X.mg X.base (CX X.prog X.w) k a fd ps (spF T X.K f)) (hr : RoomG (k + 1) X.A) (hm : X.mg x = some (.ref (He.ga X.K (T.cn c)))) {dfl : List Val} (hD : Dfl T X.K dfl dvs) (hb : Binds X.K fd ps ds) (hd : Vals dvs ds) (tk : Takes X W) (ha : JA T X W (e :: es) fl)
    (hg : Gl X x := by rfl) (hdb : (x == ("__debug__" : Str)) = false := by decide) (he : starEach (e :: es) X.env = (false, eval e X.env) :: starEach es X.env := by rfl) (hpl : (backTo pos (starEach es X.env)).any (·.1) = false := by rfl) :
    JE T X W (.Call (.Name x p) (e :: es) [] pos) (xMakeP T.fn c f dfl fl) := by
  refine pe_imp (pe_makeS (E := fun σ c d H => W c d σ H) (sp := spF T X.K f) M G hr hg hm hb hd (fun σ => passAt tk σ) ha hdb he hpl) fun σ H Q ⟨io, h, F, sg, sr, rs, w⟩ => ⟨io, h, F, sg, sr, rs, Wants.bindOfL w fun vs h1 io1 F1 H1 xs st sr1 vrs w1 => ?_⟩
  exact makeQ_ok (c := c) hf sr1 (vrs.append (hD _ _ _)) w1
theorem je_makeP0 (hf : ∀ as h v h', f h as = .ok v h' → v = .non) (M : Mk X.K (He.ga X.K (T.cn c)) a) (G : FnG X.prog X.w X.K X.mg X.base (CX X.prog X.w) k a fd ps (spF T X.K f)) (hr : RoomG (k + 1) X.A) (hm : X.mg x = some (.ref (He.ga X.K (T.cn c)))) {dfl : List Val} (hD : Dfl T X.K dfl dvs) (hb : Binds X.K fd ps ds) (hd : Vals dvs ds) (tk : Takes X W)
    (hg : Gl X x := by rfl) (hdb : (x == ("__debug__" : Str)) = false := by decide) :
    JE T X W (.Call (.Name x p) [] [] pos) (xMakeP T.fn c f dfl xNil) := by
  refine pe_imp (pe_makeS0 (E := fun σ c d H => W c d σ H) (sp := spF T X.K f) M G hr hg hm hb hd (fun σ => passAt tk σ) hdb) fun σ H Q ⟨io, h, F, sg, sr, rs, w⟩ => ?_
  exact makeQ_ok (c := c) hf sr (hD _ _ _) w
end
end Py

namespace Py
open PySem PySem.Spec PyProof.Rows L2

/-! ### plain operators -/
section
variable {T : Tb} {K : PySem.W.Frag}
def gI (f : Int → Int → Val) : G2 := fun _ v u => match v, u with
  | .int i, .int j => some (f i j)
  | _, _ => none
theorem lift_I0 {f : Int → Int → V} {g : Int → Int → Val} (hg : ∀ i j io n F, VR T K io n F (g i j) (f i j)) : Lift2 T K (rI0 f) (gI g) := by
  intro io h F H v u x y z Q sr vr ur e q
  unfold gI at e
  cases vr with
  | int i =>
    cases ur with
    | int j => cases e; exact ⟨i, j, rfl, rfl, q F H _ .refl sr (hg i j _ _ _)⟩
    | _ => cases e
  | _ => cases e
def gIc (c : Int → Int → Bool) (f : Int → Int → Val) : G2 := fun _ v u => match v, u with
  | .int i, .int j => if c i j = true then some (f i j) else none
  | _, _ => none
theorem lift_I {C : Int → Int → Prop} {f : Int → Int → V} {c : Int → Int → Bool} {g : Int → Int → Val} (hc : ∀ i j, c i j = true → C i j) (hg : ∀ i j io n F, VR T K io n F (g i j) (f i j)) : Lift2 T K (rI C f) (gIc c g) := by
  intro io h F H v u x y z Q sr vr ur e q
  unfold gIc at e
  cases vr with
  | int i =>
    cases ur with
    | int j =>
      dsimp only at e
      by_cases h1 : c i j = true
      · rw [if_pos h1] at e; cases e; exact ⟨i, j, rfl, rfl, hc i j h1, q F H _ .refl sr (hg i j _ _ _)⟩
      · rw [if_neg h1] at e; cases e
    | _ => cases e
  | _ => cases e
abbrev gAdd : G2 := gI fun i j => .int (i + j)
abbrev gSub : G2 := gI fun i j => .int (i - j)
def okMul (i j : Int) : Bool := (decide (-18446744073709551616 < i) && decide (i < 18446744073709551616)) || (decide (-18446744073709551616 < j) && decide (j < 18446744073709551616))
abbrev gMul : G2 := gIc okMul fun i j => .int (i * j)
abbrev gFdiv : G2 := gIc (fun _ j => decide (0 < j) && decide (j < 1073741824)) fun i j => .int (i / j)
abbrev gMod : G2 := gIc (fun _ j => decide (0 < j)) fun i j => .int (i % j)
abbrev gPow : G2 := gIc (fun i j => decide (0 ≤ j) && decide (j ≤ 1000) && decide (i.natAbs < 18446744073709551616)) fun i j => .int (i ^ j.toNat)
abbrev gLt : G2 := gI fun i j => .bl (decide (i < j))
abbrev gLe : G2 := gI fun i j => .bl (decide (i ≤ j))
abbrev gGt : G2 := gI fun i j => .bl (decide (j < i))
abbrev gGe : G2 := gI fun i j => .bl (decide (j ≤ i))
theorem lift_add : Lift2 T K (rI0 fun i j => .int (i + j)) gAdd := lift_I0 fun i j _ _ _ => .int _
theorem lift_sub : Lift2 T K (rI0 fun i j => .int (i - j)) gSub := lift_I0 fun i j _ _ _ => .int _
theorem lift_mul : Lift2 T K (rI CMul fun i j => .int (i * j)) gMul := lift_I (fun i j h => by
  unfold okMul at h
  simp only [Bool.or_eq_true, Bool.and_eq_true, decide_eq_true_eq] at h
  have e : (2 : Int) ^ 64 = 18446744073709551616 := by decide
  unfold CMul
  omega) fun i j _ _ _ => .int _
theorem lift_fdiv : Lift2 T K (rI CDiv fun i j => .int (i / j)) gFdiv := lift_I (fun i j h => by
  simp only [Bool.and_eq_true, decide_eq_true_eq] at h
  exact h) fun i j _ _ _ => .int _
theorem lift_mod : Lift2 T K (rI (fun _ j => 0 < j) fun i j => .int (i % j)) gMod := lift_I (fun i j h => of_decide_eq_true h) fun i j _ _ _ => .int _
theorem lift_pow : Lift2 T K (rI CPow fun i j => .int (i ^ j.toNat)) gPow := lift_I (fun i j h => by
  simp only [Bool.and_eq_true, decide_eq_true_eq] at h
  have e : (2 : Nat) ^ 64 = 18446744073709551616 := by decide
  unfold CPow
  omega) fun i j _ _ _ => .int _
variable {X : Cx}
theorem op_lt' : OpR X (compareOp .Lt) (rI0 fun i j => .bl (decide (i < j))) := opB0 fun _ _ _ _ _ _ _ q => lt_int q
theorem op_le' : OpR X (compareOp .LtE) (rI0 fun i j => .bl (decide (i ≤ j))) := opB0 fun _ _ _ _ _ _ _ q => le_int q
theorem op_gt' : OpR X (compareOp .Gt) (rI0 fun i j => .bl (decide (j < i))) := opB0 fun _ _ _ _ _ _ _ q => gt_int q
theorem op_ge' : OpR X (compareOp .GtE) (rI0 fun i j => .bl (decide (j ≤ i))) := opB0 fun _ _ _ _ _ _ _ q => ge_int q
theorem lift_lt : Lift2 T K (rI0 fun i j => .bl (decide (i < j))) gLt := lift_I0 fun i j _ _ _ => .bl _
theorem lift_le : Lift2 T K (rI0 fun i j => .bl (decide (i ≤ j))) gLe := lift_I0 fun i j _ _ _ => .bl _
theorem lift_gt : Lift2 T K (rI0 fun i j => .bl (decide (j < i))) gGt := lift_I0 fun i j _ _ _ => .bl _
theorem lift_ge : Lift2 T K (rI0 fun i j => .bl (decide (j ≤ i))) gGe := lift_I0 fun i j _ _ _ => .bl _
end

/-! ### == and != of data -/
def okStr (s : List Nat) : Bool := s.all fun c => decide (c < 1114112)
/-- a value as data -/
def dat (h : Hh) : Nat → Val → Option PyData
  | 0, _ => none
  | n + 1, v => match v with
    | .non => some .none
    | .bl b => some (.bool b)
    | .int i => some (.int i)
    | .str s => if okStr s = true then some (.str ⟨s.toArray⟩) else none
    | .tup vs => (vs.mapM (dat h n)).map .tuple
    | .lst vs => (vs.mapM (dat h n)).map .list
    | .ref k => (match h[k]? with
      | some (.lst vs) => (vs.mapM (dat h n)).map .list
      | _ => none)
    | _ => none
section
variable {T : Tb} {K : PySem.W.Frag} {io : Nat → Addr} {F H : Hp} {h : Hh}
theorem mapM_Dp {g : Val → Option PyData} {n : Nat} (hg : ∀ v d x, g v = some d → VR T K io h.length F v x → Dp K H x d ∧ PyData.canLay0 d = true ∧ d.depth ≤ n) : ∀ {vs : List Val} {ds : List PyData} {xs : List V}, vs.mapM g = some ds → VRs T K io h.length F vs xs → DpAll K H xs ds ∧ PyData.canLayAll0 ds = true ∧ PyData.depthAll ds ≤ n
  | [], ds, xs, e, r => by
    simp at e; subst e
    cases r; exact ⟨.nil, rfl, Nat.zero_le _⟩
  | v :: vs, ds, xs, e, r => by
    rw [List.mapM_cons] at e
    cases q : g v with
    | none => rw [q] at e; simp at e
    | some d =>
      rw [q] at e
      cases q2 : vs.mapM g with
      | none => rw [q2] at e; simp at e
      | some us =>
        rw [q2] at e
        simp at e
        subst e
        cases r with
        | cons a b =>
          obtain ⟨a1, a2, a3⟩ := hg v d _ q a
          obtain ⟨b1, b2, b3⟩ := mapM_Dp hg q2 b
          exact ⟨.cons a1 b1, by simp [PyData.canLayAll0, a2, b2], by simp [PyData.depthAll]; omega⟩
theorem dat_ok (sr : SR T K io h F H) : ∀ (n : Nat) (v : Val) (d : PyData) (x : V), dat h n v = some d → VR T K io h.length F v x → Dp K H x d ∧ PyData.canLay0 d = true ∧ d.depth ≤ n
  | 0, _, _, _, e, _ => by cases e
  | n + 1, v, d, x, e, r => by
    have ih := dat_ok sr n
    unfold dat at e
    cases r with
    | non => cases e; exact ⟨.non, rfl, Nat.zero_le _⟩
    | bl b => cases e; exact ⟨.bl b, rfl, Nat.zero_le _⟩
    | int i => cases e; exact ⟨.int i, rfl, Nat.zero_le _⟩
    | str s =>
      dsimp only at e
      by_cases hs : okStr s = true
      · rw [if_pos hs] at e
        cases e
        refine ⟨.str _, ?_, Nat.zero_le _⟩
        simp only [PyData.canLay0, PyData.strOk, List.all_toArray]
        unfold okStr at hs
        exact hs
      · rw [if_neg hs] at e; cases e
    | glo g => cases e
    | dct _ _ _ _ _ => cases e
    | @obj c vs a dx xs q qd rr hl => cases e
    | @tup vs a xs q rr =>
      obtain ⟨ds, e1, rfl⟩ := map_some e
      obtain ⟨b1, b2, b3⟩ := mapM_Dp ih e1 rr
      exact ⟨.tup (sqT_mono sr.sub q) b1, b2, Nat.succ_le_succ b3⟩
    | @lst vs a xs q rr =>
      obtain ⟨ds, e1, rfl⟩ := map_some e
      obtain ⟨b1, b2, b3⟩ := mapM_Dp ih e1 rr
      exact ⟨.lst (sqL_mono sr.sub q) b1, b2, Nat.succ_le_succ b3⟩
    | ref k hk =>
      dsimp only at e
      cases ek : h[k]? with
      | none => rw [ek] at e; cases e
      | some ob =>
        rw [ek] at e
        cases ob with
        | ins c vs => cases e
        | dct ks vs => cases e
        | lst vs =>
          obtain ⟨xs, ea, rr⟩ := sr.obj k _ ek
          obtain ⟨ds, e1, rfl⟩ := map_some e
          obtain ⟨b1, b2, b3⟩ := mapM_Dp ih e1 rr
          exact ⟨.lst (SqL.of ea) b1, b2, Nat.succ_le_succ b3⟩
theorem shaped_of {d : PyData} {n : Nat} (hn : n ≤ 60) (h1 : PyData.canLay0 d = true) (h2 : d.depth ≤ n) : SeqAt.shaped d = true := by
  unfold SeqAt.shaped
  rw [h1, Bool.true_and]
  exact decide_eq_true (by omega)
def eqD (h : Hh) (v u : Val) : Option Bool := match dat h 30 v, dat h 30 u with
  | some d, some e => some (PyData.eqv d e)
  | _, _ => none
def gEq : G2 := fun h v u => (eqD h v u).map .bl
def gNe : G2 := fun h v u => (eqD h v u).map fun b => .bl (!b)
theorem eqD_ok (sr : SR T K io h F H) {v u : Val} {x y : V} {b : Bool} (vr : VR T K io h.length F v x) (ur : VR T K io h.length F u y) (e : eqD h v u = some b) : ∃ d e, Dp K H x d ∧ Dp K H y e ∧ SeqAt.shaped d = true ∧ SeqAt.shaped e = true ∧ PyData.eqv d e = b := by
  unfold eqD at e
  cases e1 : dat h 30 v with
  | none => rw [e1] at e; cases e
  | some d =>
    rw [e1] at e
    cases e2 : dat h 30 u with
    | none => rw [e2] at e; cases e
    | some d2 =>
      rw [e2] at e
      obtain ⟨a1, a2, a3⟩ := dat_ok sr 30 v d x e1 vr
      obtain ⟨b1, b2, b3⟩ := dat_ok sr 30 u d2 y e2 ur
      exact ⟨d, d2, a1, b1, shaped_of (by omega) a2 a3, shaped_of (by omega) b2 b3, Option.some.inj e⟩
theorem lift_eqD : Lift2 T K (rEqD K) gEq := by
  intro io h F H v u x y z Q sr vr ur e q
  obtain ⟨b, eb, rfl⟩ := map_some e
  obtain ⟨d, d2, a1, a2, a3, a4, a5⟩ := eqD_ok sr vr ur eb
  exact ⟨d, d2, a1, a2, a3, a4, by rw [a5]; exact q F H _ .refl sr (.bl b)⟩
theorem lift_neD : Lift2 T K (rNeD K) gNe := by
  intro io h F H v u x y z Q sr vr ur e q
  obtain ⟨b, eb, rfl⟩ := map_some e
  obtain ⟨d, d2, a1, a2, a3, a4, a5⟩ := eqD_ok sr vr ur eb
  exact ⟨d, d2, a1, a2, a3, a4, by rw [a5]; exact q F H _ .refl sr (.bl _)⟩
end

/-! ### sequences: the items of a value -/
def lstOf (h : Hh) : Val → Option (List Val)
  | .lst vs => some vs
  | .ref k => (match h[k]? with
    | some (.lst vs) => some vs
    | _ => none)
  | _ => none
def tupOf : Val → Option (List Val)
  | .tup vs => some vs
  | _ => none
section
variable {T : Tb} {K : PySem.W.Frag} {io : Nat → Addr} {F H : Hp} {h : Hh} {v : Val} {x : V} {vs : List Val}
theorem lstOf_ok (sr : SR T K io h F H) (r : VR T K io h.length F v x) (e : lstOf h v = some vs) : ∃ a xs, x = .ref a ∧ SqL K H a xs ∧ VRs T K io h.length F vs xs := by
  unfold lstOf at e
  cases r with
  | @lst vs' a xs q rr => cases e; exact ⟨a, xs, rfl, sqL_mono sr.sub q, rr⟩
  | ref k hk =>
    dsimp only at e
    cases ek : h[k]? with
    | none => rw [ek] at e; cases e
    | some ob =>
      rw [ek] at e
      cases ob with
      | ins c vs => cases e
      | dct ks vs => cases e
      | lst vs =>
        cases e
        obtain ⟨xs, ea, rr⟩ := sr.obj k _ ek
        exact ⟨io k, xs, rfl, SqL.of ea, rr⟩
  | _ => cases e
theorem tupOf_ok (sr : SR T K io h F H) (r : VR T K io h.length F v x) (e : tupOf v = some vs) : ∃ a xs, x = .ref a ∧ SqT K H a xs ∧ VRs T K io h.length F vs xs := by
  unfold tupOf at e
  cases r with
  | @tup vs' a xs q rr => cases e; exact ⟨a, xs, rfl, sqT_mono sr.sub q, rr⟩
  | _ => cases e
end
/-- an index of any sign -/
def atV (vs : List Val) (i : Int) : Option Val := if 0 ≤ i then vs[i.toNat]? else if 0 ≤ i + vs.length then vs[(i + vs.length).toNat]? else none
theorem atV_ok {T : Tb} {K : PySem.W.Frag} {io : Nat → Addr} {n : Nat} {F : Hp} {vs : List Val} {xs : List V} {i : Int} {z : Val} (r : VRs T K io n F vs xs) (e : atV vs i = some z) : ∃ y, atI xs i = some y ∧ VR T K io n F z y := by
  have hl := r.length
  unfold atV at e
  unfold atI ixN
  by_cases h0 : 0 ≤ i
  · rw [if_pos h0] at e
    have hi : i.toNat < vs.length := (List.getElem?_eq_some_iff.mp e).1
    rw [if_pos h0, if_pos (by omega)]
    obtain ⟨y, e1, r1⟩ := r.get e
    exact ⟨y, e1, r1⟩
  · rw [if_neg h0] at e
    by_cases h1 : 0 ≤ i + vs.length
    · rw [if_pos h1] at e
      rw [if_neg h0, if_pos (by omega)]
      obtain ⟨y, e1, r1⟩ := r.get e
      refine ⟨y, ?_, r1⟩
      show xs[(i + xs.length).toNat]? = some y
      rw [← hl]; exact e1
    · rw [if_neg h1] at e; cases e
def gIx : G2 := fun h v u => match u with
  | .int i => (match v with
    | .tup vs => atV vs i
    | .str s => if s.length ≤ 1000000 then (if 0 ≤ i then (s[i.toNat]?).map fun c => .str [c] else if 0 ≤ i + s.length then (s[(i + s.length).toNat]?).map fun c => .str [c] else none) else none
    | v => (match lstOf h v with
      | some vs => atV vs i
      | none => none))
  | _ => none
section
variable {T : Tb} {K : PySem.W.Frag}
theorem lift_ix : Lift2 T K (rIx K) gIx := by
  intro io h F H v u x y z Q sr vr ur e q
  unfold gIx at e
  cases ur with
  | int i =>
    have viaL : (match lstOf h v with
      | some vs => atV vs i
      | none => none) = some z → rIx K x (.int i) H Q := fun e => by
      cases el : lstOf h v with
      | none => rw [el] at e; cases e
      | some vs =>
        rw [el] at e
        obtain ⟨a, xs, rfl, sq, rr⟩ := lstOf_ok sr vr el
        obtain ⟨y, e1, r1⟩ := atV_ok rr e
        exact .inl ⟨a, xs, i, y, rfl, rfl, sq, e1, q F H _ .refl sr r1⟩
    cases vr with
    | @tup vs a xs sq rr =>
      obtain ⟨y, e1, r1⟩ := atV_ok rr e
      exact .inr (.inl ⟨a, xs, i, y, rfl, rfl, sqT_mono sr.sub sq, e1, q F H _ .refl sr r1⟩)
    | str s =>
      dsimp only at e
      by_cases hz : s.length ≤ 1000000
      · rw [if_pos hz] at e
        refine .inr (.inr ?_)
        have fin : ∀ c, atI s i = some c → z = .str [c] → rIxS (.str ⟨s.toArray⟩) (.int i) H Q := fun c hc hz' => by
          subst hz'
          exact ⟨⟨s.toArray⟩, i, c, rfl, rfl, by show s.toArray.size ≤ sizeLine; simpa using sizeOk hz, by simpa using hc, q F H _ .refl sr (.str [c])⟩
        by_cases h0 : 0 ≤ i
        · rw [if_pos h0] at e
          obtain ⟨c, ec, rfl⟩ := map_some e
          refine fin c ?_ rfl
          have hi := (List.getElem?_eq_some_iff.mp ec).1
          unfold atI ixN
          rw [if_pos h0, if_pos (by omega)]
          exact ec
        · rw [if_neg h0] at e
          by_cases h1 : 0 ≤ i + s.length
          · rw [if_pos h1] at e
            obtain ⟨c, ec, rfl⟩ := map_some e
            refine fin c ?_ rfl
            unfold atI ixN
            rw [if_neg h0, if_pos (by omega)]
            exact ec
          · rw [if_neg h1] at e; cases e
      · rw [if_neg hz] at e; cases e
    | ref k hk => exact viaL e
    | @lst vs a xs sq rr => exact viaL e
    | non => exact viaL e
    | bl b => exact viaL e
    | int j => exact viaL e
    | obj a b c d => exact viaL e
    | glo g => exact viaL e
    | dct _ _ _ _ _ => exact viaL e
  | _ => cases e
end
section
variable {T : Tb} {X : Cx} {W : WX} {a b e o : Expr} {es : List Expr} {fa fb fe fo : Ex} {fl : Lx} {pos apos cpos p : Pos} {r : R2} {g : G2}
theorem je_ix (ha : JE T X W a fa) (hb : JE T X W b fb) (hs : PlainIx b := by exact fun _ _ => rfl) : JE T X W (.Subscript a b pos) (xOp gIx fa fb) :=
  pe_imp (pe_ix ix_seq ha hb hs) fun _ _ _ => tOp_of lift_ix

/-! ### built-in functions -/
abbrev GC := Hh → List Val → Option (Val × Hh)
def LiftC (T : Tb) (K : PySem.W.Frag) (r : List V → Hp → VK → Prop) (g : GC) : Prop :=
  ∀ io h F H vs xs z h' Q, SR T K io h F H → VRs T K io h.length F vs xs → g h vs = some (z, h') →
    (∀ io' F' H' x', Step io h.length F H io' h'.length F' H' → SR T K io' h' F' H' → VR T K io' h'.length F' z x' → Q x' H') → r xs H Q
def Res.ofP (o : Option (Val × Hh)) : Res := match o with
  | some (v, h) => .ok v h
  | none => .bad
def xCB (g : GC) (l : Lx) : Ex := fun sg h => (l sg h).bind fun vs h1 => .ofP (g h1 vs)
theorem wants_ofP {K : PySem.W.Frag} {io : Nat → Addr} {n : Nat} {F H : Hp} {W : XK} {Q : VK} {o : Option (Val × Hh)} (w : Wants T K io n F H W Q (.ofP o)) : ∃ z h', o = some (z, h') ∧ Wants T K io n F H W Q (.ok z h') := by
  cases o with
  | none => exact w.elim
  | some z => obtain ⟨z, h'⟩ := z; exact ⟨z, h', rfl, w⟩
theorem tCB_of {r : List V → Hp → VK → Prop} {g : GC} (hl : LiftC T X.K r g) {σ : L2.St} {H : Hp} {Q : VK} : tE T X.K W (xCB g fl) σ H Q → tCB r (tL T X.K W fl) σ H Q := by
  rintro ⟨io, h, F, sg, sr, rs, w⟩
  refine ⟨io, h, F, sg, sr, rs, Wants.bindOfL w fun vs h1 io1 F1 H1 xs st sr1 vrs w1 => ?_⟩
  obtain ⟨z, h', e, w2⟩ := wants_ofP w1
  exact hl io1 h1 F1 H1 vs xs z h' Q sr1 vrs e w2
theorem je_callB {x : Str} {id : String} {r : List V → Hp → VK → Prop} {g : GC} (hc : CallR X (.builtin id) r) (hl : LiftC T X.K r g) (hm : X.mg x = none) (ha : JA T X W (e :: es) fl) (hv : bootBuiltins x = some (.builtin id) := by decide +kernel) (hg : Gl X x := by rfl) (hn : x ≠ "__name__" := by decide) (hdb : (x == ("__debug__" : Str)) = false := by decide)
    (he : starEach (e :: es) X.env = (false, eval e X.env) :: starEach es X.env := by rfl) (hpl : (backTo pos (starEach es X.env)).any (·.1) = false := by rfl) : JE T X W (.Call (.Name x p) (e :: es) [] pos) (xCB g fl) :=
  pe_imp (pe_callB hc hg hm hv ha hn hdb he hpl) fun _ _ _ => tCB_of hl
theorem je_callTy {x : Str} {id : String} {r : List V → Hp → VK → Prop} {g : GC} (hc : CallR X (.type id) r) (hl : LiftC T X.K r g) (hm : X.mg x = none) (ha : JA T X W (e :: es) fl) (hv : bootBuiltins x = some (.type id) := by decide +kernel) (hg : Gl X x := by rfl) (hn : x ≠ "__name__" := by decide) (hdb : (x == ("__debug__" : Str)) = false := by decide)
    (he : starEach (e :: es) X.env = (false, eval e X.env) :: starEach es X.env := by rfl) (hpl : (backTo pos (starEach es X.env)).any (·.1) = false := by rfl) : JE T X W (.Call (.Name x p) (e :: es) [] pos) (xCB g fl) :=
  pe_imp (pe_callTy hc hg hm hv ha hn hdb he hpl) fun _ _ _ => tCB_of hl

/-! len, abs, max, min, int, all, any, tuple, list -/
def gLen : GC := fun h vs => match vs with
  | [.str s] => if s.length ≤ 1000000 then some (.int s.length, h) else none
  | [.tup xs] => some (.int xs.length, h)
  | [v] => (lstOf h v).map fun xs => (.int xs.length, h)
  | _ => none
theorem lift_len {K : PySem.W.Frag} : LiftC T K (fun xs H Q => ∃ x n, xs = [x] ∧ LenV K x H n ∧ Q (.int n) H) gLen := by
  intro io h F H vs xs z h' Q sr rr e q
  have one : ∃ v x, vs = [v] ∧ xs = [x] ∧ VR T K io h.length F v x := by
    cases rr with
    | nil => cases e
    | @cons v x vs xs r t =>
      cases t with
      | nil => exact ⟨v, x, rfl, rfl, r⟩
      | cons r2 t2 => cases v <;> cases e
  obtain ⟨v, x, rfl, rfl, r⟩ := one
  have viaL : (lstOf h v).map (fun xs => (Val.int xs.length, h)) = some (z, h') → ∃ x1 n, [x] = [x1] ∧ LenV K x1 H n ∧ Q (.int n) H := fun e => by
    obtain ⟨ys, el, e2⟩ := map_some e
    cases e2
    obtain ⟨a, xs, rfl, sq, rr⟩ := lstOf_ok sr r el
    exact ⟨_, xs.length, rfl, .inl ⟨xs, sq, rfl⟩, by rw [← rr.length]; exact q io F H _ .refl sr (.int _)⟩
  cases r with
  | str s =>
    simp only [gLen] at e
    by_cases hz : s.length ≤ 1000000
    · rw [if_pos hz] at e
      cases e
      exact ⟨_, s.length, rfl, ⟨by show s.toArray.size ≤ sizeLine; simpa using sizeOk hz, by show s.length = s.toArray.size; simp⟩, q io F H _ .refl sr (.int _)⟩
    · rw [if_neg hz] at e; cases e
  | @tup ys a xs sq r9 =>
    cases e
    exact ⟨_, xs.length, rfl, .inr ⟨xs, sqT_mono sr.sub sq, rfl⟩, by rw [← r9.length]; exact q io F H _ .refl sr (.int _)⟩
  | ref k hk => exact viaL e
  | lst sq rr => exact viaL e
  | non => exact viaL e
  | bl b => exact viaL e
  | int j => exact viaL e
  | obj a b c d => exact viaL e
  | glo g => exact viaL e
  | dct _ _ _ _ _ => exact viaL e
def gAbs : GC := fun h vs => match vs with
  | [.int i] => some (.int (if i < 0 then -i else i), h)
  | _ => none
theorem vrs_int1 {K : PySem.W.Frag} {io : Nat → Addr} {n : Nat} {F : Hp} {i : Int} {xs : List V} (r : VRs T K io n F [.int i] xs) : xs = [.int i] := by
  cases r with
  | cons a b => cases a; cases b; rfl
theorem vrs_int2 {K : PySem.W.Frag} {io : Nat → Addr} {n : Nat} {F : Hp} {i j : Int} {xs : List V} (r : VRs T K io n F [.int i, .int j] xs) : xs = [.int i, .int j] := by
  cases r with
  | cons a b => cases a; cases b with
    | cons a b => cases a; cases b; rfl
theorem lift_abs {K : PySem.W.Frag} : LiftC T K (fun xs H Q => ∃ i, xs = [.int i] ∧ Q (.int (if i < 0 then -i else i)) H) gAbs := by
  intro io h F H vs xs z h' Q sr rr e q
  unfold gAbs at e
  split at e
  · cases e
    rw [vrs_int1 rr]
    exact ⟨_, rfl, q io F H _ .refl sr (.int _)⟩
  · cases e
def gMax2 : GC := fun h vs => match vs with
  | [.int i, .int j] => some (.int (if j > i then j else i), h)
  | _ => none
def gMin2 : GC := fun h vs => match vs with
  | [.int i, .int j] => some (.int (if j < i then j else i), h)
  | _ => none
theorem lift_max2 {K : PySem.W.Frag} : LiftC T K (fun xs H Q => ∃ i j, xs = [.int i, .int j] ∧ Q (.int (if j > i then j else i)) H) gMax2 := by
  intro io h F H vs xs z h' Q sr rr e q
  unfold gMax2 at e
  split at e
  · cases e
    rw [vrs_int2 rr]
    exact ⟨_, _, rfl, q io F H _ .refl sr (.int _)⟩
  · cases e
theorem lift_min2 {K : PySem.W.Frag} : LiftC T K (fun xs H Q => ∃ i j, xs = [.int i, .int j] ∧ Q (.int (if j < i then j else i)) H) gMin2 := by
  intro io h F H vs xs z h' Q sr rr e q
  unfold gMin2 at e
  split at e
  · cases e
    rw [vrs_int2 rr]
    exact ⟨_, _, rfl, q io F H _ .refl sr (.int _)⟩
  · cases e
def gInt1 : GC := fun h vs => match vs with
  | [.int i] => some (.int i, h)
  | [.bl b] => some (.int (if b then 1 else 0), h)
  | _ => none
theorem lift_int1 {K : PySem.W.Frag} : LiftC T K (fun xs H Q => (∃ i, xs = [.int i] ∧ Q (.int i) H) ∨ ∃ k, xs = [.bl k] ∧ Q (.int (if k then 1 else 0)) H) gInt1 := by
  intro io h F H vs xs z h' Q sr rr e q
  unfold gInt1 at e
  split at e
  · cases e
    rw [vrs_int1 rr]
    exact .inl ⟨_, rfl, q io F H _ .refl sr (.int _)⟩
  · cases e
    cases rr with
    | cons a b =>
      cases a
      cases b
      exact .inr ⟨_, rfl, q io F H _ .refl sr (.int _)⟩
  · cases e
/-- a list of bools -/
def bools : List Val → Option (List Bool)
  | [] => some []
  | .bl b :: r => (bools r).map (b :: ·)
  | _ :: _ => none
theorem bools_ok {K : PySem.W.Frag} {io : Nat → Addr} {n : Nat} {F : Hp} : ∀ {vs : List Val} {xs : List V} {bs : List Bool}, VRs T K io n F vs xs → bools vs = some bs → xs = bs.map V.bl
  | [], xs, bs, r, e => by cases r; cases e; rfl
  | v :: vs, xs, bs, r, e => by
    cases r with
    | cons a b =>
      cases a with
      | bl q =>
        obtain ⟨cs, e1, rfl⟩ := map_some (show (bools vs).map (q :: ·) = some bs from e)
        rw [bools_ok b e1]; rfl
      | _ => cases e
def gAll : GC := fun h vs => match vs with
  | [v] => (match lstOf h v with
    | some ys => (bools ys).map fun bs => (.bl (bs.all id), h)
    | none => none)
  | _ => none
def gAny : GC := fun h vs => match vs with
  | [v] => (match lstOf h v with
    | some ys => (bools ys).map fun bs => (.bl (bs.any id), h)
    | none => none)
  | _ => none
theorem lift_all {K : PySem.W.Frag} : LiftC T K (rAll K) gAll := by
  intro io h F H vs xs z h' Q sr rr e q
  unfold gAll at e
  split at e
  · rename_i v
    cases rr with
    | @cons _ x _ _ r t =>
      cases t
      cases el : lstOf h v with
      | none => rw [el] at e; cases e
      | some ys =>
        rw [el] at e
        obtain ⟨bs, e1, e2⟩ := map_some e
        cases e2
        obtain ⟨a, xs, rfl, sq, r2⟩ := lstOf_ok sr r el
        rw [bools_ok r2 e1] at sq
        exact ⟨a, bs, rfl, sq, q io F H _ .refl sr (.bl _)⟩
  · cases e
theorem lift_any {K : PySem.W.Frag} : LiftC T K (rAny K) gAny := by
  intro io h F H vs xs z h' Q sr rr e q
  unfold gAny at e
  split at e
  · rename_i v
    cases rr with
    | @cons _ x _ _ r t =>
      cases t
      cases el : lstOf h v with
      | none => rw [el] at e; cases e
      | some ys =>
        rw [el] at e
        obtain ⟨bs, e1, e2⟩ := map_some e
        cases e2
        obtain ⟨a, xs, rfl, sq, r2⟩ := lstOf_ok sr r el
        rw [bools_ok r2 e1] at sq
        exact ⟨a, bs, rfl, sq, q io F H _ .refl sr (.bl _)⟩
  · cases e
def gTuple : GC := fun h vs => match vs with
  | [.tup xs] => some (.tup xs, h)
  | [v] => (match lstOf h v with
    | some ys => some (.tup ys, h)
    | none => none)
  | _ => none
theorem lift_tuple {K : PySem.W.Frag} : LiftC T K (fun xs H Q => ∃ p ys, xs = [.ref p] ∧ ((SqL K H p ys ∧ ∀ l, H l = none → Q (.ref l) (upd H l (.tup ys))) ∨ (SqT K H p ys ∧ Q (.ref p) H))) gTuple := by
  intro io h F H vs xs z h' Q sr rr e q
  have one : ∃ v x, vs = [v] ∧ xs = [x] ∧ VR T K io h.length F v x := by
    cases rr with
    | nil => cases e
    | @cons v x vs xs r t =>
      cases t with
      | nil => exact ⟨v, x, rfl, rfl, r⟩
      | cons r2 t2 => cases v <;> cases e
  obtain ⟨v, x, rfl, rfl, r⟩ := one
  have viaL : (match lstOf h v with
    | some ys => some (Val.tup ys, h)
    | none => none) = some (z, h') → ∃ p ys, [x] = [V.ref p] ∧ ((SqL K H p ys ∧ ∀ l, H l = none → Q (.ref l) (upd H l (.tup ys))) ∨ (SqT K H p ys ∧ Q (.ref p) H)) := fun e => by
    cases el : lstOf h v with
    | none => rw [el] at e; cases e
    | some ys =>
      rw [el] at e
      cases e
      obtain ⟨a, xs, rfl, sq, r2⟩ := lstOf_ok sr r el
      exact ⟨a, xs, rfl, .inl ⟨sq, fun l hl => q io _ _ _ (sr.allocStep hl _) (sr.alloc hl _) (.tup (SqT.of upd_same) (r2.step (sr.allocStep hl (.tup xs))))⟩⟩
  cases r with
  | @tup ys a xs sq r2 => cases e; exact ⟨a, xs, rfl, .inr ⟨sqT_mono sr.sub sq, q io F H _ .refl sr (.tup sq r2)⟩⟩
  | ref k hk => exact viaL e
  | lst sq r2 => exact viaL e
  | str s => exact viaL e
  | non => exact viaL e
  | bl b => exact viaL e
  | int j => exact viaL e
  | obj a b c d => exact viaL e
  | glo g => exact viaL e
  | dct _ _ _ _ _ => exact viaL e
/-- list(x): a new mutable list -/
def gList : GC := fun h vs => match vs with
  | [.tup xs] => some (.ref h.length, h ++ [.lst xs])
  | [v] => (match lstOf h v with
    | some ys => some (.ref h.length, h ++ [.lst ys])
    | none => none)
  | _ => none
theorem push_new {K : PySem.W.Frag} {io : Nat → Addr} {F H : Hp} {h : Hh} {l : Addr} {ys : List Val} {xs : List V} (sr : SR T K io h F H) (r : VRs T K io h.length F ys xs) (hl : H l = none) :
    Step io h.length F H (ioPush io h.length l) (h ++ [Obj.lst ys]).length F (upd H l (.lst xs)) ∧ SR T K (ioPush io h.length l) (h ++ [Obj.lst ys]) F (upd H l (.lst xs)) ∧ VR T K (ioPush io h.length l) (h ++ [Obj.lst ys]).length F (.ref h.length) (.ref l) := by
  have hH : ∀ b u, H b = some u → upd H l (.lst xs) b = some u := upd_sub H hl
  refine ⟨sr.pushStep hl hH, sr.push hl hH ⟨xs, upd_same, r.mono (Nat.le_succ _) (fun k hk => ioPush_lt io l hk) (fun _ _ e => e)⟩, ?_⟩
  have vp : VR T K (ioPush io h.length l) (h ++ [Obj.lst ys]).length F (.ref h.length) (.ref (ioPush io h.length l h.length)) := .ref _ (by simp)
  rw [ioPush_at] at vp
  exact vp
theorem lift_list {K : PySem.W.Frag} : LiftC T K (fun xs H Q => ∃ p ys, xs = [.ref p] ∧ (SqL K H p ys ∨ SqT K H p ys) ∧ ∀ l, H l = none → Q (.ref l) (upd H l (.lst ys))) gList := by
  intro io h F H vs xs z h' Q sr rr e q
  have one : ∃ v x, vs = [v] ∧ xs = [x] ∧ VR T K io h.length F v x := by
    cases rr with
    | nil => cases e
    | @cons v x vs xs r t =>
      cases t with
      | nil => exact ⟨v, x, rfl, rfl, r⟩
      | cons r2 t2 => cases v <;> cases e
  obtain ⟨v, x, rfl, rfl, r⟩ := one
  have viaL : (match lstOf h v with
    | some ys => some (Val.ref h.length, h ++ [Obj.lst ys])
    | none => none) = some (z, h') → ∃ p ys, [x] = [V.ref p] ∧ (SqL K H p ys ∨ SqT K H p ys) ∧ ∀ l, H l = none → Q (.ref l) (upd H l (.lst ys)) := fun e => by
    cases el : lstOf h v with
    | none => rw [el] at e; cases e
    | some ys =>
      rw [el] at e
      cases e
      obtain ⟨a, xs, rfl, sq, r2⟩ := lstOf_ok sr r el
      exact ⟨a, xs, rfl, .inl sq, fun l hl => let ⟨s1, s2, s3⟩ := push_new sr r2 hl; q _ _ _ _ s1 s2 s3⟩
  cases r with
  | @tup ys a xs sq r2 => cases e; exact ⟨a, xs, rfl, .inr (sqT_mono sr.sub sq), fun l hl => let ⟨s1, s2, s3⟩ := push_new sr r2 hl; q _ _ _ _ s1 s2 s3⟩
  | ref k hk => exact viaL e
  | lst sq r2 => exact viaL e
  | str s => exact viaL e
  | non => exact viaL e
  | bl b => exact viaL e
  | int j => exact viaL e
  | obj a b c d => exact viaL e
  | glo g => exact viaL e
  | dct _ _ _ _ _ => exact viaL e

/-! ### methods of built-in types -/
abbrev GM := Hh → Val → List Val → Option (Val × Hh)
def LiftM (T : Tb) (K : PySem.W.Frag) (r : V → List V → Hp → VK → Prop) (g : GM) : Prop :=
  ∀ io h F H v x vs xs z h' Q, SR T K io h F H → VR T K io h.length F v x → VRs T K io h.length F vs xs → g h v vs = some (z, h') →
    (∀ io' F' H' x', Step io h.length F H io' h'.length F' H' → SR T K io' h' F' H' → VR T K io' h'.length F' z x' → Q x' H') → r x xs H Q
def isTy (ty : String) (h : Hh) (v : Val) : Bool := match v with
  | .str _ => decide (ty = "str")
  | v => decide (ty = "list") && (lstOf h v).isSome
theorem isTy_ok {K : PySem.W.Frag} {io : Nat → Addr} {F H : Hp} {h : Hh} {v : Val} {x : V} {ty : String} (sr : SR T K io h F H) (r : VR T K io h.length F v x) (e : isTy ty h v = true) : tyV K ty x H := by
  have viaL : (decide (ty = "list") && (lstOf h v).isSome) = true → tyV K ty x H := fun e => by
    rw [Bool.and_eq_true] at e
    obtain ⟨ys, el⟩ := Option.isSome_iff_exists.mp e.2
    obtain ⟨a, xs, rfl, sq, r2⟩ := lstOf_ok sr r el
    exact .inl ⟨of_decide_eq_true e.1, xs, sq⟩
  unfold isTy at e
  cases r with
  | str s => exact (of_decide_eq_true e : ty = "str")
  | ref k hk => exact viaL e
  | lst sq r2 => exact viaL e
  | tup sq r2 => exact viaL e
  | non => exact viaL e
  | bl b => exact viaL e
  | int j => exact viaL e
  | obj a b c d => exact viaL e
  | glo g => exact viaL e
  | dct _ _ _ _ _ => exact viaL e
def xBM (ty : String) (g : GM) (o : Ex) (l : Lx) : Ex := fun sg h => (o sg h).bind fun ov h1 => if isTy ty h1 ov = true then (l sg h1).bind fun vs h2 => .ofP (g h2 ov vs) else .bad
def xBM0 (ty : String) (g : GM) (o : Ex) : Ex := fun sg h => (o sg h).bind fun ov h1 => if isTy ty h1 ov = true then .ofP (g h1 ov []) else .bad
theorem je_bm {ty id : String} {name : Str} {r : V → List V → Hp → VK → Prop} {g : GM} (pa : PlainAttrs ty) (slot : Slot ty name id) (hty : typeOf (.builtin id) = pure (.type "method_descriptor")) (hm : MtR X id r) (hl : LiftM T X.K r g) (ho : JE T X W o fo) (ha : JA T X W (e :: es) fl)
    (hbase : attributeBase o name X.env (eval o X.env) = eval o X.env := by rfl)
    (hfew : ((backTo cpos (starEach (e :: es) X.env)).all (fun x => !x.1) && (backToKw cpos (keywordEach [] X.env)).all (fun x => x.1.isSome)
      && decide ((e :: es).length + ([] : List Keyword).length + (if ([] : List Keyword).isEmpty then 0 else 1) < 30)) = true := by rfl)
    (hline : (apos.endLine == cpos.line) = true := by rfl) (hs : starEach (e :: es) X.env = (false, eval e X.env) :: starEach es X.env := by rfl) (hplain : (backTo cpos (starEach es X.env)).any (·.1) = false := by rfl) :
    JE T X W (.Call (.Attribute o name apos) (e :: es) [] cpos) (xBM ty g fo fl) := by
  refine pe_imp (pe_bm pa slot hty hm ho ha hbase hfew hline hs hplain) fun σ H Q ⟨io, h, F, sg, sr, rs, w⟩ => ⟨io, h, F, sg, sr, rs, Wants.bind w fun ov h1 io1 F1 H1 x st sr1 vr w1 => ?_⟩
  by_cases ht : isTy ty h1 ov = true
  · rw [if_pos ht] at w1
    refine ⟨isTy_ok sr1 vr ht, io1, h1, F1, sg, sr1, rs.step st, Wants.bindOfL w1 fun vs h2 io2 F2 H2 xs st2 sr2 vrs w2 => ?_⟩
    obtain ⟨z, h', e, w3⟩ := wants_ofP w2
    exact hl io2 h2 F2 H2 ov x vs xs z h' Q sr2 (vr.step st2) vrs e w3
  · rw [if_neg ht] at w1; exact w1.elim
theorem je_bm0 {ty id : String} {name : Str} {r : V → List V → Hp → VK → Prop} {g : GM} (pa : PlainAttrs ty) (slot : Slot ty name id) (hty : typeOf (.builtin id) = pure (.type "method_descriptor")) (hm : MtR X id r) (hl : LiftM T X.K r g) (ho : JE T X W o fo)
    (hbase : attributeBase o name X.env (eval o X.env) = eval o X.env := by rfl) (hline : (apos.endLine == cpos.line) = true := by rfl) : JE T X W (.Call (.Attribute o name apos) [] [] cpos) (xBM0 ty g fo) := by
  refine pe_imp (pe_bm0 pa slot hty hm ho hbase hline) fun σ H Q ⟨io, h, F, sg, sr, rs, w⟩ => ⟨io, h, F, sg, sr, rs, Wants.bind w fun ov h1 io1 F1 H1 x st sr1 vr w1 => ?_⟩
  by_cases ht : isTy ty h1 ov = true
  · rw [if_pos ht] at w1
    obtain ⟨z, h', e, w3⟩ := wants_ofP w1
    exact ⟨isTy_ok sr1 vr ht, hl io1 h1 F1 H1 ov x [] [] z h' Q sr1 vr .nil e w3⟩
  · rw [if_neg ht] at w1; exact w1.elim
/-- a mutable list -/
def mutOf (h : Hh) : Val → Option (Nat × List Val)
  | .ref k => (match h[k]? with
    | some (.lst vs) => some (k, vs)
    | _ => none)
  | _ => none
theorem mutOf_ok {K : PySem.W.Frag} {io : Nat → Addr} {F H : Hp} {h : Hh} {v : Val} {x : V} {k : Nat} {vs : List Val} (sr : SR T K io h F H) (r : VR T K io h.length F v x) (e : mutOf h v = some (k, vs)) : ∃ xs, x = .ref (io k) ∧ k < h.length ∧ H (io k) = some (.lst xs) ∧ VRs T K io h.length F vs xs ∧
    ∀ ys zs, VRs T K io h.length F ys zs → Step io h.length F H io (h.set k (.lst ys)).length F (upd H (io k) (.lst zs)) ∧ SR T K io (h.set k (.lst ys)) F (upd H (io k) (.lst zs)) := by
  unfold mutOf at e
  cases r with
  | ref k' hk =>
    dsimp only at e
    cases ek : h[k']? with
    | none => rw [ek] at e; cases e
    | some ob =>
      rw [ek] at e
      cases ob with
      | ins c vs => cases e
      | dct ks vs => cases e
      | lst us =>
        cases e
        obtain ⟨xs, ea, rr⟩ := sr.obj k _ ek
        exact ⟨xs, rfl, hk, ea, rr, fun ys zs r2 => ⟨sr.writeStep hk, sr.write hk (fun y q => by rw [ea] at q; cases q) ⟨zs, upd_same, r2⟩⟩⟩
  | _ => cases e
def gAppend : GM := fun h v vs => match vs with
  | [y] => (match mutOf h v with
    | some (k, us) => if us.length < 1000000 then some (.non, h.set k (.lst (us ++ [y]))) else none
    | none => none)
  | _ => none
theorem lift_append {K : PySem.W.Frag} : LiftM T K rAppend gAppend := by
  intro io h F H v x vs xs z h' Q sr vr rr e q
  unfold gAppend at e
  split at e
  · rename_i y
    cases rr with
    | @cons _ yx _ _ ry t =>
      cases t
      cases em : mutOf h v with
      | none => rw [em] at e; cases e
      | some p =>
        obtain ⟨k, us⟩ := p
        rw [em] at e
        dsimp only at e
        by_cases hz : us.length < 1000000
        · rw [if_pos hz] at e
          cases e
          obtain ⟨xs, rfl, hk, ea, rr, go⟩ := mutOf_ok sr vr em
          obtain ⟨s1, s2⟩ := go (us ++ [y]) (xs ++ [yx]) (rr.append (.cons ry .nil))
          exact ⟨io k, xs, yx, rfl, rfl, ea, by rw [← rr.length, sizeLine_eq]; omega, q io F _ _ s1 s2 .non⟩
        · rw [if_neg hz] at e; cases e
  · cases e
def gPop : GM := fun h v vs => match vs with
  | [] => (match mutOf h v with
    | some (k, us) => (us[us.length - 1]?).map fun y => (y, h.set k (.lst us.dropLast))
    | none => none)
  | _ => none
theorem VRs.dropLast {K : PySem.W.Frag} {io : Nat → Addr} {n : Nat} {F : Hp} {vs : List Val} {xs : List V} (r : VRs T K io n F vs xs) : VRs T K io n F vs.dropLast xs.dropLast := by
  rw [List.dropLast_eq_take, List.dropLast_eq_take, r.length]
  exact r.take _
theorem lift_pop {K : PySem.W.Frag} : LiftM T K rPop gPop := by
  intro io h F H v x vs xs z h' Q sr vr rr e q
  unfold gPop at e
  split at e
  · cases rr
    cases em : mutOf h v with
    | none => rw [em] at e; cases e
    | some p =>
      obtain ⟨k, us⟩ := p
      rw [em] at e
      obtain ⟨y, ey, e2⟩ := map_some e
      cases e2
      obtain ⟨xs, rfl, hk, ea, rr, go⟩ := mutOf_ok sr vr em
      obtain ⟨s1, s2⟩ := go us.dropLast xs.dropLast rr.dropLast
      obtain ⟨yx, ex, ry⟩ := rr.get ey
      rw [rr.length] at ex
      exact ⟨io k, xs, yx, rfl, rfl, ea, ex, q io F _ _ s1 s2 (by simpa using ry.step s1)⟩
  · cases e
/-- xs[i] = v -/
def gSetIx (o i : Ex) : Gx := fun v sg h => match o sg h with
  | .ok ov h1 => (match i sg h1 with
    | .ok (.int j) h2 => (match mutOf h2 ov with
      | some (k, us) => if 0 ≤ j ∧ j < us.length then .ok sg (h2.set k (.lst (us.set j.toNat v))) else .bad
      | none => .bad)
    | _ => .bad)
  | _ => .bad
theorem jg_ix {i : Expr} {fi : Ex} (ho : JE T X Wno o fo) (hi : JE T X Wno i fi)
    (ha : ∀ v, assign (.Subscript o i pos) X.env v = (do
      let ov ← holding [v] (eval o X.env)
      let iv ← holding [v, ov] (eval i X.env)
      standAt pos
      holding [v, ov, iv] (setItem ov iv v)
      release [v, ov, iv] []) := by intro _; rfl) : JG T X (.Subscript o i pos) (gSetIx fo fi) := by
  refine pg_imp (pg_sub ho hi set_list ha) fun y σ H Q ⟨io, h, F, sg, v, sr, rs, vr, w⟩ => ⟨io, h, F, sg, sr, rs, ?_⟩
  unfold gSetIx at w
  cases eo : fo sg h with
  | bad => rw [eo] at w; exact w
  | exc c fs h1 => rw [eo] at w; exact w.elim
  | ok ov h1 =>
    rw [eo] at w
    intro io1 F1 H1 ox st1 sr1 vo
    refine ⟨io1, h1, F1, sg, sr1, rs.step st1, ?_⟩
    dsimp only at w
    cases ei : fi sg h1 with
    | bad => rw [ei] at w; exact w
    | exc c fs h1 => rw [ei] at w; exact w.elim
    | ok iv h2 =>
      rw [ei] at w
      intro io2 F2 H2 ix st2 sr2 vi
      cases vi with
      | int j =>
        dsimp only at w
        cases em : mutOf h2 ov with
        | none => rw [em] at w; exact w.elim
        | some p =>
          obtain ⟨k, us⟩ := p
          rw [em] at w
          dsimp only at w
          by_cases hj : 0 ≤ j ∧ j < us.length
          · rw [if_pos hj] at w
            obtain ⟨xs, rfl, hk, ea, rr, go⟩ := mutOf_ok sr2 (vo.step st2) em
            have st02 := st1.trans sr1 st2
            obtain ⟨s1, s2⟩ := go (us.set j.toNat v) (xs.set j.toNat y) (rr.set (vr.step st02) _)
            refine ⟨io2 k, xs, j, j.toNat, rfl, rfl, ea, ?_, w io2 F2 _ σ (st02.trans sr2 s1) s2 ((rs.step st02).step s1)⟩
            unfold ixN
            rw [if_pos hj.1, if_pos (by rw [← rr.length]; exact hj.2)]
          · rw [if_neg hj] at w; exact w.elim
      | _ => exact w.elim
end
end Py

namespace Py
open PySem PySem.Spec PyProof.Rows L2

/-! ### isinstance with a built-in class -/
inductive Kd where
  | non | bool | int | str | tuple | list
  deriving DecidableEq
def Kd.name : Kd → String
  | .non => "NoneType"
  | .bool => "bool"
  | .int => "int"
  | .str => "str"
  | .tuple => "tuple"
  | .list => "list"
def kdOf (h : Hh) : Val → Option Kd
  | .non => some .non
  | .bl _ => some .bool
  | .int _ => some .int
  | .str _ => some .str
  | .tup _ => some .tuple
  | v => (lstOf h v).map fun _ => .list
def kdIs (a b : Kd) : Bool := decide (a = b) || (decide (a = .bool) && decide (b = .int))
theorem kdIs_ok (K : PySem.W.Frag) (a b : Kd) : PySem.W.kitOne K (.type a.name) (.type b.name) = some (kdIs a b) := by
  apply kit_ty
  cases a <;> cases b <;> decide +kernel
section
variable {T : Tb} {K : PySem.W.Frag} {io : Nat → Addr} {F H : Hp} {h : Hh} {v : Val} {x : V} {k : Kd}
theorem tyx_lst {a : Addr} {xs : List V} (q : SqL K H a xs) : TyX K H (.ref a) (.type "list") := by
  rcases q with (q | ⟨o, q⟩) | ⟨o, its, n, e, c, _⟩
  · exact .base (.lst q)
  · exact .base (.frz q)
  · exact .kList e c
theorem tyx_tup {a : Addr} {xs : List V} (q : SqT K H a xs) : TyX K H (.ref a) (.type "tuple") := by
  rcases q with (q | ⟨o, q⟩) | ⟨o, its, n, e, c, _⟩
  · exact .base (.tup q)
  · exact .fTuple q
  · exact .kTuple e c
theorem kdOf_ok (sr : SR T K io h F H) (r : VR T K io h.length F v x) (e : kdOf h v = some k) : TyX K H x (.type k.name) := by
  have viaL : (lstOf h v).map (fun _ => Kd.list) = some k → TyX K H x (.type k.name) := fun e => by
    obtain ⟨ys, el, rfl⟩ := map_some e
    obtain ⟨a, xs, rfl, sq, r2⟩ := lstOf_ok sr r el
    exact tyx_lst sq
  unfold kdOf at e
  cases r with
  | non => cases e; exact .base .non
  | bl b => cases e; exact .base (.bl b)
  | int i => cases e; exact .base (.int i)
  | str s => cases e; exact .base (.str _)
  | tup sq r2 => cases e; exact tyx_tup (sqT_mono sr.sub sq)
  | ref k hk => exact viaL e
  | lst sq r2 => exact viaL e
  | obj a b c d => exact viaL e
  | glo g => exact viaL e
  | dct _ _ _ _ _ => exact viaL e
end
section
variable {T : Tb} {X : Cx} {W : WX} {a b c e o : Expr} {es : List Expr} {fa fb fe fo : Ex} {fl : Lx} {pos apos cpos p p1 p2 p3 : Pos}
def gIsi (b : Kd) : Hh → Val → Option Val := fun h v => (kdOf h v).map fun k => .bl (kdIs k b)
def gIsi2 (b c : Kd) : Hh → Val → Option Val := fun h v => (kdOf h v).map fun k => .bl (kdIs k b || kdIs k c)
theorem je_isi (b : Kd) (he : JE T X W e fe) (hm : X.mg "isinstance" = none) {cn : Str} (hmc : X.mg cn = none) (hvc : bootBuiltins cn = some (.type b.name) := by decide +kernel) (hgc : Gl X cn := by rfl) (hg : Gl X "isinstance" := by rfl) (hn : cn ≠ "__name__" := by decide) (hd : (cn == ("__debug__" : Str)) = false := by decide)
    (hs : starEach [e, .Name cn p2] X.env = (false, eval e X.env) :: starEach [.Name cn p2] X.env := by rfl) (hs2 : starEach [.Name cn p2] X.env = (false, eval (.Name cn p2) X.env) :: starEach [] X.env := by rfl) (hpl : (backTo pos (starEach [.Name cn p2] X.env)).any (·.1) = false := by rfl) :
    JE T X W (.Call (.Name "isinstance" p1) [e, .Name cn p2] [] pos) (xUn (gIsi b) fe) := by
  refine pe_imp (pe_callB call_isi hg hm (by decide +kernel) (pa_cons he (pa_cons (pe_bltn (v := .ty b.name) hgc hmc hvc rfl hn hd) pa_nil hs2) hs) (by decide) (by decide) hs hpl) fun σ H Q ⟨io, h, F, sg, sr, rs, w⟩ => ⟨io, h, F, sg, sr, rs, Wants.bind w fun v h1 io1 F1 H1 x st sr1 vr w1 => ?_⟩
  obtain ⟨z, ez, w2⟩ := wants_ofO w1
  obtain ⟨k, ek, rfl⟩ := map_some ez
  exact ⟨x, .ty b.name, .type k.name, .type b.name, kdIs k b, rfl, .ty _, kdOf_ok sr1 vr ek, kdIs_ok _ k b, w2 io1 F1 H1 _ .refl sr1 (.bl _)⟩
theorem je_isi2 (b c : Kd) (he : JE T X W e fe) (hm : X.mg "isinstance" = none) {cb cc : Str} {kt : Nat} (hmb : X.mg cb = none) (hmc : X.mg cc = none) (hvb : bootBuiltins cb = some (.type b.name) := by decide +kernel) (hvc : bootBuiltins cc = some (.type c.name) := by decide +kernel) (hgb : Gl X cb := by rfl) (hgc : Gl X cc := by rfl) (hg : Gl X "isinstance" := by rfl)
    (hn : cb ≠ "__name__" := by decide) (hd : (cb == ("__debug__" : Str)) = false := by decide) (hn' : cc ≠ "__name__" := by decide) (hd' : (cc == ("__debug__" : Str)) = false := by decide)
    (hs : starEach [e, .Tuple [.Name cb p2, .Name cc p3] kt p] X.env = (false, eval e X.env) :: starEach [.Tuple [.Name cb p2, .Name cc p3] kt p] X.env := by rfl) (hs2 : starEach [.Tuple [.Name cb p2, .Name cc p3] kt p] X.env = (false, eval (.Tuple [.Name cb p2, .Name cc p3] kt p) X.env) :: starEach [] X.env := by rfl)
    (hs3 : starEach [.Name cb p2, .Name cc p3] X.env = (false, eval (.Name cb p2) X.env) :: starEach [.Name cc p3] X.env := by rfl) (hs4 : starEach [.Name cc p3] X.env = (false, eval (.Name cc p3) X.env) :: starEach [] X.env := by rfl) (hpl : (backTo pos (starEach [.Tuple [.Name cb p2, .Name cc p3] kt p] X.env)).any (·.1) = false := by rfl) :
    JE T X W (.Call (.Name "isinstance" p1) [e, .Tuple [.Name cb p2, .Name cc p3] kt p] [] pos) (xUn (gIsi2 b c) fe) := by
  refine pe_imp (pe_callB call_isiT hg hm (by decide +kernel) (pa_cons he (pa_cons (pe_tup (pa_cons (pe_bltn (v := .ty b.name) hgb hmb hvb rfl hn hd) (pa_cons (pe_bltn (v := .ty c.name) hgc hmc hvc rfl hn' hd') pa_nil hs4) hs3)) pa_nil hs2) hs) (by decide) (by decide) hs hpl) fun σ H Q ⟨io, h, F, sg, sr, rs, w⟩ => ⟨io, h, F, sg, sr, rs, Wants.bind w fun v h1 io1 F1 H1 x st sr1 vr w1 => ?_⟩
  obtain ⟨z, ez, w2⟩ := wants_ofO w1
  obtain ⟨k, ek, rfl⟩ := map_some ez
  refine ⟨by show 2 ≤ sizeLine; decide, fun tp htp => ?_⟩
  refine ⟨x, tp, [.ty b.name, .ty c.name], .type k.name, [.type b.name, .type c.name], kdIs k b || kdIs k c, rfl, upd_same, .cons (.ty _) (.cons (.ty _) .nil), ?_, ?_, ?_⟩
  · exact kdOf_ok (sr1.alloc htp (.tup [.ty b.name, .ty c.name])) (vr.step (sr1.allocStep htp _)) ek
  · refine kitAny_cons (kdIs_ok _ k b) (fun e1 => kitAny_cons (kdIs_ok _ k c) (fun e2 => ?_) fun e2 => ?_) fun e1 => ?_
    · rw [e1, e2]; rfl
    · rw [e2]; simp
    · rw [e1]; rfl
  · exact w2 io1 _ _ _ (sr1.allocStep htp _) (sr1.alloc htp _) (.bl _)

/-! ### in, not in: flat things -/
def flat : Val → Bool
  | .non => true
  | .bl _ => true
  | .int _ => true
  | .str _ => true
  | _ => false
def eqF : Val → Val → Bool
  | .non, .non => true
  | .bl a, .bl b => a == b
  | .bl a, .int b => (if a then 1 else 0) == b
  | .int a, .bl b => a == (if b then 1 else 0)
  | .int a, .int b => a == b
  | .str a, .str b => a == b
  | _, _ => false
def seqOf (h : Hh) : Val → Option (List Val)
  | .tup vs => some vs
  | v => lstOf h v
def gIn (neg : Bool) : G2 := fun h v u => match seqOf h u with
  | some vs => if (flat v && vs.all flat) = true then some (.bl (if neg then !(vs.any fun y => eqF y v) else vs.any fun y => eqF y v)) else none
  | none => none
theorem seqOf_ok {K : PySem.W.Frag} {io : Nat → Addr} {F H : Hp} {h : Hh} {v : Val} {x : V} {vs : List Val} (sr : SR T K io h F H) (r : VR T K io h.length F v x) (e : seqOf h v = some vs) : ∃ a xs, x = .ref a ∧ (SqL K H a xs ∨ SqT K H a xs) ∧ VRs T K io h.length F vs xs := by
  have viaL : lstOf h v = some vs → ∃ a xs, x = .ref a ∧ (SqL K H a xs ∨ SqT K H a xs) ∧ VRs T K io h.length F vs xs := fun e => by
    obtain ⟨a, xs, e1, sq, r2⟩ := lstOf_ok sr r e
    exact ⟨a, xs, e1, .inl sq, r2⟩
  unfold seqOf at e
  cases r with
  | @tup vs' a xs sq r2 => cases e; exact ⟨a, xs, rfl, .inr (sqT_mono sr.sub sq), r2⟩
  | non => exact viaL e
  | bl b => exact viaL e
  | int i => exact viaL e
  | str s => exact viaL e
  | ref k hk => exact viaL e
  | lst sq r2 => exact viaL e
  | obj a b c d => exact viaL e
  | glo g => exact viaL e
  | dct _ _ _ _ _ => exact viaL e
theorem toArray_beq (a b : List Nat) : ((⟨a.toArray⟩ : Str) == ⟨b.toArray⟩) = (a == b) := by
  rw [Bool.eq_iff_iff]
  simp
theorem flat_ok {K : PySem.W.Frag} {io : Nat → Addr} {n : Nat} {F : Hp} {v u : Val} {x y : V} (r : VR T K io n F v x) (q : VR T K io n F u y) (hv : flat v = true) (hu : flat u = true) : flatV x = true ∧ eqV x y = eqF v u := by
  cases r with
  | non => cases q <;> first | exact ⟨rfl, rfl⟩ | cases hu
  | bl b => cases q <;> first | exact ⟨rfl, rfl⟩ | cases hu
  | int i => cases q <;> first | exact ⟨rfl, rfl⟩ | cases hu
  | str s =>
    cases q with
    | str t => exact ⟨rfl, toArray_beq s t⟩
    | _ => first | exact ⟨rfl, rfl⟩ | cases hu
  | _ => cases hv
theorem flat_all {K : PySem.W.Frag} {io : Nat → Addr} {n : Nat} {F : Hp} {v : Val} {x : V} (r : VR T K io n F v x) (hv : flat v = true) : ∀ {vs : List Val} {xs : List V}, VRs T K io n F vs xs → vs.all flat = true → xs.all flatV = true ∧ inV x xs = vs.any fun y => eqF y v
  | _, _, .nil, _ => ⟨rfl, rfl⟩
  | _, _, .cons a t, h => by
    rw [List.all_cons, Bool.and_eq_true] at h
    obtain ⟨h1, h2⟩ := flat_all r hv t h.2
    obtain ⟨f1, f2⟩ := flat_ok a r h.1 hv
    refine ⟨by rw [List.all_cons, f1, h1]; rfl, ?_⟩
    unfold inV at h2 ⊢
    rw [List.any_cons, List.any_cons, f2, h2]
theorem lift_in {K : PySem.W.Frag} (neg : Bool) : Lift2 T K (rIn K neg) (gIn neg) := by
  intro io h F H v u x y z Q sr vr ur e q
  unfold gIn at e
  cases es : seqOf h u with
  | none => rw [es] at e; cases e
  | some vs =>
    rw [es] at e
    dsimp only at e
    by_cases hf : (flat v && vs.all flat) = true
    · rw [if_pos hf] at e
      rw [Bool.and_eq_true] at hf
      cases e
      obtain ⟨a, xs, rfl, sq, r2⟩ := seqOf_ok sr ur es
      obtain ⟨f1, f2⟩ := flat_all vr hf.1 r2 hf.2
      refine ⟨a, xs, rfl, sq, (flat_ok vr vr hf.1 hf.1).1, f1, ?_⟩
      rw [f2]
      exact q F H _ .refl sr (.bl _)
    · rw [if_neg hf] at e; cases e

/-! ### starred items -/
def xStar (a : Ex) (r : Lx) : Lx := fun sg h => (a sg h).bindL fun v h1 => match seqOf h1 v with
  | some us => (r sg h1).bindL fun vs h2 => .ok (us ++ vs) h2
  | none => .bad
theorem ja_star (ha : JE T X W e fe) (hr : JA T X W es fl) (hs : starEach (.Starred e p :: es) X.env = (true, eval e X.env) :: starEach es X.env := by rfl) : JA T X W (.Starred e p :: es) (xStar fe fl) := by
  refine pa_imp (StX.pa_star ha hr hs) fun σ H Q ⟨io, h, F, sg, sr, rs, w⟩ => ⟨io, h, F, sg, sr, rs, WantsL.ofBind w fun v h1 io1 F1 H1 x st sr1 vr w1 => ?_⟩
  cases ev : seqOf h1 v with
  | none => rw [ev] at w1; exact w1.elim
  | some us =>
    rw [ev] at w1
    obtain ⟨a, xs, ex, sq, r2⟩ := seqOf_ok sr1 vr ev
    refine ⟨a, xs, ex, sq.symm, io1, h1, F1, sg, sr1, rs.step st, WantsL.bindL w1 fun vs h2 io2 F2 H2 ys st2 sr2 vrs w2 => ?_⟩
    exact w2 io2 F2 H2 _ .refl sr2 ((r2.step st2).append vrs)

/-! ### name = [ .. for ..] -/
theorem js_setLc (i : Nat) {y : Str} {py spos : Pos} {elt tg iter : Expr} {ifs : List Expr} {scope : Scope} (own : List (Str × Nat)) {fi : Ix} {g : Gx} {t el : Ex} {ws : List Nat} (hc : X.calm = true) (hN : X.N.Nodup) (hi : JI T X W tg iter fi) (ok : BlkOk X.N X.env.scope scope own) (hw : ∀ j, j ∈ ws → j ∈ own.map (·.2))
    (hg : ∀ (s : Shared) (H : Hp) (C : Addr) (cl : List (Str × Addr)) (fp : List Addr), JGw T (X.blk s H scope (compEnvC scope cl C X.env) fp) ws tg g) (ht : ∀ (s : Shared) (H : Hp) (C : Addr) (cl : List (Str × Addr)) (fp : List Addr), JTs T (X.blk s H scope (compEnvC scope cl C X.env) fp) Wno ifs t)
    (he : ∀ (s : Shared) (H : Hp) (C : Addr) (cl : List (Str × Addr)) (fp : List Addr), JE T (X.blk s H scope (compEnvC scope cl C X.env) fp) Wno elt el) (hy : X.N[i]? = some y := by rfl) (hyl : X.env.scope.names.lookup y = some .local := by rfl)
    (hsw : swapsWith (.ListComp elt [⟨tg, iter, ifs, 0⟩] scope pos) (some (.Name y py)) spos.line X.env = pure true := by exact sw_true rfl rfl rfl (by decide +kernel)) (hs : ∀ x, foldedSetIterable iter X.env x = pure x := by intro _; rfl) :
    JS T X W (.Assign [.Name y py] (.ListComp elt [⟨tg, iter, ifs, 0⟩] scope pos) spos) (xSet i (xComp (own.map (·.2)) fi g t el)) := by
  refine ps_imp (ps_setLc hc hN hy hyl hsw hi ok hg ht he hs) fun D σ H ⟨io, h, F, sg, sr, rs, w⟩ => comp_core (tg := tg) (iter := iter) (elt := elt) (ifs := ifs) (Q := fun _ _ => True) hw sr rs ?_
  unfold xSet xComp at w
  cases e : xCompL (own.map (·.2)) fi g t el sg h with
  | bad => rw [e] at w; exact w
  | exc c fs h' => rw [e] at w; exact fun io' F' H' d st sr xr => w io' F' H' σ d st sr (rs.step st) xr
  | ok acc h' =>
    rw [e] at w
    intro D io' F' H' xs hD st sr' hd va fd nd
    obtain ⟨s1, s2, s3⟩ := CInv.push hD st sr' hd va fd nd
    exact w _ F' H' _ s1 s2 ((rs.step s1).set i s3)

/-! ### a call that gets one mutable list: it may change it -/
/-- frozen, but for the object 0 -/
def frzB (T : Nat → List Str) (h : Hh) : Nat → Val → Option Val
  | 0, _ => none
  | n + 1, v => match v with
    | .ref k => if k = 0 then none else (match h[k]? with
      | some (.lst vs) => (vs.mapM (frzB T h n)).map .lst
      | some (.ins c vs) => if vs.length = (T c).length then (vs.mapM (frzB T h n)).map (.obj c) else none
      | some (.dct ks vs) => (vs.mapM (frzB T h n)).map (.dct ks)
      | none => none)
    | .tup vs => (vs.mapM (frzB T h n)).map .tup
    | .lst vs => (vs.mapM (frzB T h n)).map .lst
    | .obj c vs => (vs.mapM (frzB T h n)).map (.obj c)
    | .dct ks vs => (vs.mapM (frzB T h n)).map (.dct ks)
    | v => some v
theorem frzB_ok {K : PySem.W.Frag} {io io' : Nat → Addr} {F F2 H : Hp} {h : Hh} (sr : SR T K io h F H) (hF : ∀ b o, F b = some o → F2 b = some o) (ht : ∀ k, 0 < k → k < h.length → F2 (io k) = H (io k)) (ho : ∀ k dx, 0 < k → k < h.length → H dx = some (.own (io k)) → F2 dx = some (.own (io k))) :
    ∀ (fu : Nat) (v v' : Val) (x : V), frzB T.fn h fu v = some v' → VR T K io h.length F v x → VR T K io' 0 F2 v' x
  | 0, _, _, _, e, _ => by cases e
  | fu + 1, v, v', x, e, r => by
    have ih := frzB_ok (io' := io') sr hF ht ho fu
    unfold frzB at e
    cases r with
    | non => cases e; exact .non
    | bl b => cases e; exact .bl b
    | int i => cases e; exact .int i
    | str s => cases e; exact .str s
    | glo g => cases e; exact .glo g
    | @tup vs a xs q rr =>
      obtain ⟨us, e1, rfl⟩ := map_some e
      exact .tup (sqT_mono hF q) (mapM_VRs ih e1 rr)
    | @lst vs a xs q rr =>
      obtain ⟨us, e1, rfl⟩ := map_some e
      exact .lst (sqL_mono hF q) (mapM_VRs ih e1 rr)
    | @obj c vs a dx xs q qd rr hl =>
      obtain ⟨us, e1, rfl⟩ := map_some e
      exact .obj (hF _ _ q) (hF _ _ qd) (mapM_VRs ih e1 rr) hl
    | @dct ks vs a es ep xs ys q hk he r1 r2 =>
      obtain ⟨us, e1, rfl⟩ := map_some e
      exact .dct (hF _ _ q) hk he ((r1.pure (io' := io') (m := 0) hk.pure).mono (Nat.le_refl _) (fun _ _ => rfl) hF) (mapM_VRs ih e1 r2)
    | ref k hk =>
      dsimp only at e
      by_cases h0 : k = 0
      · rw [if_pos h0] at e; cases e
      · rw [if_neg h0] at e
        have kp : 0 < k := Nat.pos_of_ne_zero h0
        cases ek : h[k]? with
        | none => rw [ek] at e; cases e
        | some ob =>
          rw [ek] at e
          have o := sr.obj k ob ek
          cases ob with
          | lst vs =>
            obtain ⟨xs, ea, rr⟩ := o
            obtain ⟨us, e1, rfl⟩ := map_some e
            exact .lst (SqL.of (by rw [ht k kp hk]; exact ea)) (mapM_VRs ih e1 rr)
          | dct ks vs =>
            obtain ⟨es, ep, xs, ys, ea, hkk, he, r1, r2⟩ := o
            obtain ⟨us, e1, rfl⟩ := map_some e
            exact .dct (by rw [ht k kp hk]; exact ea) hkk.2 he ((r1.pure (io' := io') hkk.2.pure).mono (Nat.le_refl _) (fun _ _ => rfl) hF) (mapM_VRs ih e1 r2)
          | ins c vs =>
            obtain ⟨dx, xs, ea, ed, rr, hl⟩ := o
            dsimp only at e
            by_cases hz : vs.length = (T.fn c).length
            · rw [if_pos hz] at e
              obtain ⟨us, e1, rfl⟩ := map_some e
              refine .obj (dx := dx) (xs := xs) (by rw [ht k kp hk, ea, hz, List.take_length]) (ho k dx kp hk ed) (mapM_VRs ih e1 rr) (by rw [← rr.length]; exact hz)
            · rw [if_neg hz] at e; cases e
open Classical in
noncomputable def FBof (io' : Nat → Addr) (n' : Nat) (F' H' : Hp) : Hp := fun b => match F' b with
  | some o => some o
  | none => if (∃ k, 0 < k ∧ k < n' ∧ io' k = b) ∨ (∃ k, 0 < k ∧ k < n' ∧ H' b = some (.own (io' k))) then H' b else none
theorem FBof_sub {io' : Nat → Addr} {F' H' : Hp} {n' : Nat} : ∀ b o, F' b = some o → FBof io' n' F' H' b = some o := fun b o e => by unfold FBof; rw [e]
theorem FBof_cases {io' : Nat → Addr} {F' H' : Hp} {n' : Nat} {b : Addr} {o : HO} (e : FBof io' n' F' H' b = some o) : F' b = some o ∨ (H' b = some o ∧ ((∃ k, 0 < k ∧ k < n' ∧ io' k = b) ∨ ∃ y, o = .own y)) := by
  unfold FBof at e
  cases q : F' b with
  | some u => rw [q] at e; cases e; exact .inl rfl
  | none =>
    rw [q] at e
    dsimp only at e
    split at e
    · rename_i z
      refine .inr ⟨e, ?_⟩
      rcases z with z | ⟨k, _, _, z⟩
      · exact .inl z
      · rw [z] at e; cases e; exact .inr ⟨_, rfl⟩
    · cases e
def callB (T : Nat → List Str) (f : Fx) (as : List Val) (h : Hh) : Res := match as with
  | .ref k :: rest => (match h[k]? with
    | some (.lst cs) => if (pureVs rest && pureVs cs) = true then (match f [.lst cs] (.ref 0 :: rest) with
      | .ok v h' => (match (h'[0]? : Option Obj) with
        | some (Obj.lst cs') => if pureVs cs' = true then (match (if pureV v = true then some v else frzB T h' 30 v) with
          | some v' => .ok v' (h.set k (.lst cs'))
          | none => .bad) else .bad
        | _ => .bad)
      | _ => .bad) else .bad
    | _ => .bad)
  | _ => .bad
theorem callB_ok {K : PySem.W.Frag} {io : Nat → Addr} {F H : Hp} {h : Hh} {W : XK} {Q : VK} {f : Fx} {as : List Val} {vs : List V} (sr : SR T K io h F H) (r : VRs T K io h.length F as vs) (w : Wants T K io h.length F H W Q (callB T.fn f as h)) : spF T K f vs H Q W := by
  unfold callB at w
  split at w
  · rename_i k rest
    cases ek : h[k]? with
    | none => rw [ek] at w; exact w.elim
    | some ob =>
      rw [ek] at w
      cases ob with
      | ins c us => exact w.elim
      | dct ks us => exact w.elim
      | lst cs =>
        dsimp only at w
        by_cases hp : (pureVs rest && pureVs cs) = true
        · rw [if_pos hp] at w
          rw [Bool.and_eq_true] at hp
          cases r with
          | @cons _ x0 _ xs0 r0 rt =>
          cases r0 with
          | ref _ hk =>
          obtain ⟨ys, ea, rc⟩ := sr.obj k _ ek
          let io0 : Nat → Addr := fun _ => io k
          have s0 : SR T K io0 [.lst cs] F H := by
            refine ⟨sr.sub, fun j hj => sr.dis k hk, fun i j hi hj _ => ?_, fun j o e => ?_⟩
            · have h1 : i < 1 := hi
              have h2 : j < 1 := hj
              omega
            · have hj : j = 0 := by
                have h1 : j < 1 := (List.getElem?_eq_some_iff.mp e).1
                omega
              subst hj
              cases (Option.some.inj e : Obj.lst cs = o)
              exact ⟨ys, ea, rc.pure hp.2⟩
          refine ⟨io0, [.lst cs], F, .ref 0 :: rest, s0, .cons (.ref 0 (Nat.lt_succ_self 0)) (rt.pure hp.1), ?_⟩
          cases e : f [.lst cs] (.ref 0 :: rest) with
          | bad => rw [e] at w; exact w
          | exc c fs h' => rw [e] at w; exact w.elim
          | ok v h' =>
            rw [e] at w
            intro io1 F1 H1 x1 st sr1 vr
            dsimp only at w
            cases e0 : h'[0]? with
            | none => rw [e0] at w; exact w.elim
            | some ob =>
              rw [e0] at w
              cases ob with
              | ins c us => exact w.elim
              | dct ks us => exact w.elim
              | lst cs' =>
                dsimp only at w
                by_cases hq : pureVs cs' = true
                · rw [if_pos hq] at w
                  cases ev : (if pureV v = true then some v else frzB T.fn h' 30 v) with
                  | none => rw [ev] at w; exact w.elim
                  | some v' =>
                    rw [ev] at w
                    have hlen : 0 < h'.length := (List.getElem?_eq_some_iff.mp e0).1
                    have i0 : io1 0 = io k := st.eq 0 (Nat.lt_succ_self 0)
                    obtain ⟨zs, ea1, rz⟩ := sr1.obj 0 _ e0
                    rw [i0] at ea1
                    have fr : ∀ b o, H b = some o → b ≠ io k → H1 b = some o := fun b o hb hne => st.frame b o hb fun j hj z => hne (show b = io k from (show io0 j = b from z).symm)
                    have keep : ∀ j, j < h.length → j ≠ k → ∀ o, H (io j) = some o → H1 (io j) = some o := fun j hj hne o ho => fr _ o ho fun z => hne (sr.inj j k hj hk z)
                    have dis2 : ∀ j, j < h.length → FBof io1 h'.length F1 H1 (io j) = none := fun j hj => by
                      cases q : FBof io1 h'.length F1 H1 (io j) with
                      | none => rfl
                      | some o =>
                        exfalso
                        obtain ⟨u, hu⟩ := sr.there hj
                        have oj := sr.obj j h[j] (by simp [hj])
                        have notown : ∀ y, H1 (io j) ≠ some (.own y) := fun y z => by
                          by_cases hjk : j = k
                          · subst hjk; rw [ea1] at z; cases z
                          · rw [keep j hj hjk u hu] at z
                            exact oj.notOwn y (hu.trans z)
                        rcases FBof_cases q with z | ⟨z, ⟨i, hi0, hi, ei⟩ | ⟨y, z2⟩⟩
                        · rcases st.fresh _ o z with z1 | z1 | ⟨y, z1⟩
                          · rw [sr.dis j hj] at z1; cases z1
                          · rw [hu] at z1; cases z1
                          · subst z1; exact notown y (sr1.sub _ _ z)
                        · have := st.new i (show 1 ≤ i from hi0) hi
                          rw [ei, hu] at this; cases this
                        · subst z2; exact notown y z
                    have mF : ∀ b o, F b = some o → FBof io1 h'.length F1 H1 b = some o := fun b o e => FBof_sub b o (st.phi b o e)
                    have s2 : SR T K io (h.set k (.lst cs')) (FBof io1 h'.length F1 H1) H1 := by
                      have ln : (h.set k (Obj.lst cs')).length = h.length := by simp
                      refine ⟨fun b o e => ?_, fun j hj => dis2 j (by rwa [ln] at hj), fun i j hi hj => sr.inj i j (by rwa [ln] at hi) (by rwa [ln] at hj), fun j o e => ?_⟩
                      · rcases FBof_cases e with z | ⟨z, _⟩
                        · exact sr1.sub b o z
                        · exact z
                      · rw [ln]
                        by_cases q : k = j
                        · subst q
                          rw [List.getElem?_set_self hk] at e
                          cases e
                          exact ⟨zs, ea1, (rz.pure hq).mono (Nat.le_refl _) (fun _ _ => rfl) FBof_sub⟩
                        · rw [List.getElem?_set_ne q] at e
                          have hj : j < h.length := (List.getElem?_eq_some_iff.mp e).1
                          have o1 := sr.obj j o e
                          cases o with
                          | lst us => obtain ⟨xs, e1, r1⟩ := o1; exact ⟨xs, keep j hj (Ne.symm q) _ e1, r1.mono (Nat.le_refl _) (fun _ _ => rfl) mF⟩
                          | dct ks us => obtain ⟨es, ep, xs, ys, e1, hkk, he, r1, r2⟩ := o1; exact ⟨es, ep, xs, ys, keep j hj (Ne.symm q) _ e1, hkk, he, r1.mono (Nat.le_refl _) (fun _ _ => rfl) mF, r2.mono (Nat.le_refl _) (fun _ _ => rfl) mF⟩
                          | ins c us =>
                            obtain ⟨dx, xs, e1, d1, r1, l1⟩ := o1
                            exact ⟨dx, xs, keep j hj (Ne.symm q) _ e1, fr dx _ d1 fun z => (by rw [z, ea] at d1; cases d1), r1.mono (Nat.le_refl _) (fun _ _ => rfl) mF, l1⟩
                    have st2 : Step io h.length F H io (h.set k (.lst cs')).length (FBof io1 h'.length F1 H1) H1 := by
                      refine ⟨by simp, fun _ _ => rfl, mF, fun b o e hb => fr b o e fun z => hb k hk z.symm, fun j a b => absurd (by simpa using b) (Nat.not_lt.mpr a), fun b o e => ?_⟩
                      rcases FBof_cases e with z | ⟨z, ⟨i, hi0, hi, ei⟩ | z2⟩
                      · exact st.fresh b o z
                      · subst ei; exact .inr (.inl (st.new i (show 1 ≤ i from hi0) hi))
                      · exact .inr (.inr z2)
                    have v2 : VR T K io (h.set k (.lst cs')).length (FBof io1 h'.length F1 H1) v' x1 := by
                      by_cases hv : pureV v = true
                      · rw [if_pos hv] at ev
                        cases ev
                        exact (vr.pure hv).mono (Nat.le_refl _) (fun _ _ => rfl) FBof_sub
                      · rw [if_neg hv] at ev
                        refine (frzB_ok (io' := io) sr1 FBof_sub (fun j hj0 hj => ?_) (fun j dx hj0 hj e => ?_) 30 v v' x1 ev vr).ofEmpty rfl
                        · unfold FBof
                          rw [sr1.dis j hj]
                          dsimp only
                          rw [if_pos (.inl ⟨j, hj0, hj, rfl⟩)]
                        · unfold FBof
                          cases q : F1 dx with
                          | some u => have := sr1.sub dx u q; rw [e] at this; cases this; rfl
                          | none =>
                            dsimp only
                            rw [if_pos (.inr ⟨j, hj0, hj, e⟩)]
                            exact e
                    exact w io _ H1 x1 st2 s2 v2
                · rw [if_neg hq] at w; exact w.elim
        · rw [if_neg hp] at w; exact w.elim
  · exact w.elim
def xCallB (T : Nat → List Str) (f : Fx) (dfl : List Val) (l : Lx) : Ex := fun sg h => (l sg h).bind fun as h1 => callB T f (as ++ dfl) h1
theorem je_callBw {ps : List Str} {k : Nat} {f : Fx} {x : Str} {ad : Addr} {fd : FuncData} {dvs : List V} {ds : List Value} (G : FnG X.prog X.w X.K X.mg X.base (CX X.prog X.w) k ad fd ps (spF T X.K f)) (hr : RoomG k X.A) (hm : X.mg x = some (.ref ad)) (hk : PySem.W.keepIn X.K (.ref ad) = true) {dfl : List Val} (hD : Dfl T X.K dfl dvs) (hb : Binds X.K fd ps ds) (hd : Vals dvs ds) (tk : Takes X W)
    (ha : JA T X W (e :: es) fl) {p : Pos} (hg : Gl X x := by rfl) (hdb : (x == ("__debug__" : Str)) = false := by decide) (he : starEach (e :: es) X.env = (false, eval e X.env) :: starEach es X.env := by rfl) (hpl : (backTo pos (starEach es X.env)).any (·.1) = false := by rfl) :
    JE T X W (.Call (.Name x p) (e :: es) [] pos) (xCallB T.fn f dfl fl) :=
  pe_imp (pe_callG (E := fun σ c d H => W c d σ H) G hr hg hm hk hb hd (fun σ => passAt tk σ) ha hdb he hpl) fun σ H Q ⟨io, h, F, sg, sr, rs, w⟩ =>
    ⟨io, h, F, sg, sr, rs, Wants.bindOfL w fun vs h1 io1 F1 H1 xs st sr1 vr w1 => callB_ok sr1 (vr.append (hD _ _ _)) w1⟩
end
end Py

namespace Py
open PySem PySem.Spec PyProof.Rows L2

/-! ### sorted of tuples of ints and texts -/
abbrev Ky := List (Int ⊕ List Nat)
abbrev kLt : Ky → Ky → Bool := PyProof.Rows.lexLt itemOrd
def kIns (k : Ky) : List Ky → List Ky
  | [] => [k]
  | a :: r => if kLt k a = true then k :: a :: r else a :: kIns k r
def kSort : List Ky → List Ky
  | [] => []
  | a :: r => kIns a (kSort r)
theorem kIns_perm (k : Ky) : ∀ l : List Ky, (kIns k l).Perm (k :: l)
  | [] => .refl _
  | a :: r => by
    unfold kIns
    split
    · exact .refl _
    · exact ((kIns_perm k r).cons a).trans (.swap k a r)
theorem kSort_perm : ∀ l : List Ky, (kSort l).Perm l
  | [] => .refl _
  | a :: r => (kIns_perm a (kSort r)).trans ((kSort_perm r).cons a)
abbrev kLe (a b : Ky) : Prop := kLt b a = false
theorem kLe_trans {a b c : Ky} (h1 : kLe a b) (h2 : kLe b c) : kLe a c := by
  cases q : kLt c a with
  | false => exact q
  | true =>
    rcases (listOrd itemOrd).negTrans c b a q with z | z
    · exact absurd (h2.symm.trans z) (by decide)
    · exact absurd (h1.symm.trans z) (by decide)
theorem kLt_le {a b : Ky} (h : kLt a b = true) : kLe a b := by
  cases q : kLt b a with
  | false => exact q
  | true =>
    have := (listOrd itemOrd).trans a b a h q
    rw [(listOrd itemOrd).irrefl] at this; cases this
theorem kIns_sorted (k : Ky) : ∀ {l : List Ky}, l.Pairwise kLe → (kIns k l).Pairwise kLe
  | [], _ => List.pairwise_singleton _ _
  | a :: r, h => by
    unfold kIns
    obtain ⟨h1, h2⟩ := List.pairwise_cons.mp h
    by_cases q : kLt k a = true
    · rw [if_pos q]
      refine List.pairwise_cons.mpr ⟨fun b hb => ?_, h⟩
      rcases List.mem_cons.mp hb with rfl | hb
      · exact kLt_le q
      · exact kLe_trans (kLt_le q) (h1 b hb)
    · rw [if_neg q]
      refine List.pairwise_cons.mpr ⟨fun b hb => ?_, kIns_sorted k h2⟩
      rcases List.mem_cons.mp ((kIns_perm k r).mem_iff.mp hb) with rfl | hb
      · exact Bool.eq_false_iff.mpr q
      · exact h1 b hb
theorem kSort_sorted : ∀ l : List Ky, (kSort l).Pairwise kLe
  | [] => .nil
  | a :: r => kIns_sorted a (kSort_sorted r)
theorem sorted_uniq : ∀ {l m : List Ky}, l.Pairwise kLe → m.Pairwise kLe → l.Perm m → l = m
  | [], m, _, _, p => (List.Perm.eq_nil p.symm).symm
  | a :: l, [], _, _, p => absurd p.length_eq (by simp)
  | a :: l, b :: m, h1, h2, p => by
    obtain ⟨a1, a2⟩ := List.pairwise_cons.mp h1
    obtain ⟨b1, b2⟩ := List.pairwise_cons.mp h2
    have ab : kLe a b := by
      rcases List.mem_cons.mp (p.mem_iff.mpr (List.mem_cons_self (a := b) (l := m))) with e | e
      · rw [e]; exact (listOrd itemOrd).irrefl _
      · exact a1 b e
    have ba : kLe b a := by
      rcases List.mem_cons.mp (p.mem_iff.mp (List.mem_cons_self (a := a) (l := l))) with e | e
      · rw [e]; exact (listOrd itemOrd).irrefl _
      · exact b1 a e
    have e : a = b := (listOrd itemOrd).total a b ba ab
    subst e
    rw [sorted_uniq a2 b2 p.cons_inv]

def kIt (shape : Nat → Bool) : Nat → List V → Option Ky
  | _, [] => some []
  | i, .int n :: r => if shape i = true then none else (kIt shape (i + 1) r).map (Sum.inl n :: ·)
  | i, .str x :: r => if shape i = true then (kIt shape (i + 1) r).map (Sum.inr x.cps.toList :: ·) else none
  | _, _ :: _ => none
theorem kIt_items (shape : Nat → Bool) : ∀ {xs : List V} {us : List Value} (i : Nat) {k : Ky}, Vals xs us → kIt shape i xs = some k → tupItems shape i us = some k
  | [], us, i, k, r, e => by cases r; exact e
  | .int n :: xs, u :: us, i, k, rr, e => by
    cases rr with
    | cons r t =>
    obtain ⟨tk, rfl⟩ := r
    unfold kIt at e
    unfold tupItems
    by_cases hs : shape i = true
    · rw [if_pos hs] at e; cases e
    · rw [if_neg hs] at e ⊢
      obtain ⟨k', e1, rfl⟩ := map_some e
      rw [kIt_items shape (i + 1) t e1]; rfl
  | .str x :: xs, u :: us, i, k, rr, e => by
    cases rr with
    | cons r t =>
    obtain ⟨tk, rfl⟩ := r
    unfold kIt at e
    unfold tupItems
    by_cases hs : shape i = true
    · rw [if_pos hs] at e ⊢
      obtain ⟨k', e1, rfl⟩ := map_some e
      rw [kIt_items shape (i + 1) t e1]; rfl
    · rw [if_neg hs] at e; cases e
  | .int _ :: _, [], _, _, rr, _ => by cases rr
  | .str _ :: _, [], _, _, rr, _ => by cases rr
  | .non :: _, _, _, _, _, e => by cases e
  | .bl _ :: _, _, _, _, _, e => by cases e
  | .byt _ :: _, _, _, _, _, e => by cases e
  | .flt _ :: _, _, _, _, _, e => by cases e
  | .ref _ :: _, _, _, _, _, e => by cases e
  | .ty _ :: _, _, _, _, _, e => by cases e
def TK (K : PySem.W.Frag) (H : Hp) (shape : Nat → Bool) (k : Ky) (x : V) : Prop := ∃ b ys, x = .ref b ∧ SqT K H b ys ∧ kIt shape 0 ys = some k ∧ ys ≠ []
def rSortedT (K : PySem.W.Frag) (shape : Nat → Bool) : List V → Hp → VK → Prop := fun vs H Q => ∃ (a : Addr) (xs : List V) (ks : List Ky), vs = [V.ref a] ∧ SqL K H a xs ∧ Paired (TK K H shape) ks xs ∧
  ∀ (ys : List V) (p : Addr), Paired (fun k y => ∃ j : Nat, xs[j]? = some y ∧ ks[j]? = some k) (kSort ks) ys → H p = none → Q (.ref p) (upd H p (.lst ys))
/-- what a tuple is in the heap, as the sort asks it -/
def IsTK (h : Heap) (shape : Nat → Bool) (v : Value) : Prop := ∃ k f, tupKey h shape v = some k ∧ TupOf h shape v f
theorem IsTK.keeps {h h' : Heap} {shape : Nat → Bool} {v : Value} {k : Ky} (e : tupKey h shape v = some k) (hk : ∀ b o, h.get? b = some o → (∃ xs n, o.data = .seq xs n ∧ v = .ref b) → h'.get? b = some o) : tupKey h' shape v = some k := by
  obtain ⟨a, o, xs, n, rfl, ho, hd, hi⟩ := tupKey_some e
  show (match h'.get? a with
    | some o => match o.data with
      | .seq xs _ => tupItems shape 0 xs.toList
      | _ => none
    | none => none) = some k
  rw [hk a o ho ⟨xs, n, hd, rfl⟩]
  show (match o.data with
      | .seq xs _ => tupItems shape 0 xs.toList
      | _ => none) = some k
  rw [hd]; exact hi
section
variable {X : Cx}
theorem paired_get {α β : Type} {R : α → β → Prop} : ∀ {l : List α} {m : List β} {i : Nat} {b : β}, Paired R l m → m[i]? = some b → ∃ a, l[i]? = some a ∧ R a b
  | _, _, _, _, .nil, e => by simp at e
  | _, _, 0, _, .cons r _, e => by simp at e; subst e; exact ⟨_, rfl, r⟩
  | _, _, i + 1, b, .cons _ t, e => by
    obtain ⟨a, e1, r⟩ := paired_get (i := i) t (by simpa using e)
    exact ⟨a, by simpa using e1, r⟩
theorem paired_of {α β : Type} {R : α → β → Prop} : ∀ {l : List α} {m : List β}, l.length = m.length → (∀ (i : Nat) a b, l[i]? = some a → m[i]? = some b → R a b) → Paired R l m
  | [], [], _, _ => .nil
  | a :: l, b :: m, hl, h => .cons (h 0 a b rfl rfl) (paired_of (by simpa using hl) fun i x y e1 e2 => h (i + 1) x y (by simpa using e1) (by simpa using e2))
  | [], _ :: _, hl, _ => by simp at hl
  | _ :: _, [], hl, _ => by simp at hl
theorem cr_sortedT (shape : Nat → Bool) : CallR X (.builtin "sorted") (rSortedT X.K shape) := by
  intro pins s σ H vs us Q I r hq
  obtain ⟨a, xs, ks, rfl, hs, hp, q⟩ := hq
  obtain ⟨its, rv, hl, hz⟩ := I.list hs
  obtain ⟨u, rfl, ru⟩ := vals1 r
  cases (show u = Value.ref a from ru)
  -- each item: its key in the heap
  have item : ∀ (i : Nat) v, its[i]? = some v → ∃ x k f, xs[i]? = some x ∧ ks[i]? = some k ∧ RelV x v ∧ tupKey s.heap shape v = some k ∧ TupOf s.heap shape v f := by
    intro i v ev
    have hi : i < xs.length := by rw [rv.length]; exact (List.getElem?_eq_some_iff.mp ev).1
    have ex : xs[i]? = some xs[i] := by simp [hi]
    obtain ⟨v', ev', rx⟩ := rv.get ex
    rw [ev] at ev'; cases ev'
    obtain ⟨k, ek, b, ys, e1, sq, e2, ne⟩ := paired_get hp ex
    rw [e1] at rx
    cases rx
    obtain ⟨its2, r2, ⟨o, ho, hc, n, hd⟩, _⟩ := I.tuple sq
    have hti := kIt_items shape 0 r2 e2
    refine ⟨xs[i], k, ?_, ex, ek, ?_, ?_, ?_⟩
    · exact its2.headD .none
    · rw [e1]; rfl
    · show (match s.heap.get? b with
        | some o => match o.data with
          | .seq xs _ => tupItems shape 0 xs.toList
          | _ => none
        | none => none) = some k
      rw [ho]
      show (match o.data with
          | .seq xs _ => tupItems shape 0 xs.toList
          | _ => none) = some k
      rw [hd]; exact hti
    · cases r2 with
      | nil => exact absurd rfl ne
      | @cons y w yr wr ry t =>
        refine ⟨b, o, _, n, rfl, ho, hc, hd, by simp, fun h0 => ?_, fun h0 => ?_⟩
        · obtain ⟨m, tt, l', e, _⟩ := tupItems_int h0 hti
          exact ⟨m, tt, e⟩
        · obtain ⟨m, tt, l', e, _⟩ := tupItems_str h0 hti
          exact ⟨m, tt, e⟩
  let kf : Value → Ky := fun v => (tupKey s.heap shape v).getD []
  have kfe : ∀ v ∈ its, tupKey s.heap shape v = some (kf v) := fun v hv => by
    obtain ⟨i, hi, e⟩ := List.mem_iff_getElem.mp hv
    obtain ⟨x, k, f, _, _, _, e1, _⟩ := item i v (by rw [List.getElem?_eq_getElem hi, e])
    show tupKey s.heap shape v = some ((tupKey s.heap shape v).getD [])
    rw [e1]; rfl
  have swo : SrtO.Swo fun v u => kLt (kf v) (kf u) := by
    refine ⟨fun x y h1 => kLt_le h1, fun x y z h1 h2 => ?_⟩
    exact kLe_trans (a := kf x) (b := kf y) (c := kf z) h1 h2
  refine SrtO.sorted_ord (ltv := fun v u => kLt (kf v) (kf u)) swo hl.isList (by rw [← rv.length]; exact hz) (fun h2 h1 al hal kk => ?_) fun out hs2 hb => ?_
  · intro h' keep
    have kept : ∀ v ∈ its, tupKey h' shape v = some (kf v) := fun v hv => IsTK.keeps (kfe v hv) fun b o ho ⟨zs, n, hd, e⟩ => keep b o (kk b o ho).1 (kk b o ho).2
    refine ⟨tuples' true, fun Q E hq => ?_, fun p q' hm hm' => ?_⟩
    · have fs : ∀ l : List Value, (∀ v ∈ l, v ∈ its) → ∃ fs, fs.length = l.length ∧ TupsOf h' shape l fs := by
        intro l
        induction l with
        | nil => exact fun _ => ⟨[], rfl, .nil⟩
        | cons v l ih =>
          intro hm
          obtain ⟨fs, hl2, ht⟩ := ih fun v hv => hm v (List.mem_cons_of_mem _ hv)
          obtain ⟨i, hi, e⟩ := List.mem_iff_getElem.mp (hm v List.mem_cons_self)
          obtain ⟨x, k, f, _, _, _, _, a, o, zs, n, e1, ho, hc, hd, h0, h1, h2⟩ := item i v (by rw [List.getElem?_eq_getElem hi, e])
          exact ⟨f :: fs, by simp [hl2], .cons ⟨a, o, zs, n, e1, keep a o (kk a o ho).1 (kk a o ho).2, hc, hd, h0, h1, h2⟩ ht⟩
      obtain ⟨fs, hl2, ht⟩ := fs its fun _ h => h
      exact tup_kind (shape := shape) (by omega) ht hq
    · exact tup_ltAt (shape := shape) true _ _ p.1 q'.1 (kf p.1) (kf q'.1) (kept _ hm) (kept _ hm') ⟨rfl, rfl⟩
  · obtain ⟨ep, he'⟩ := PyProof.Rows.sortedAll_at s.heap its out.toArray
    have pm := hb.perm
    -- the values behind
    have src : ∀ v ∈ out, ∃ (j : Nat) (x : V) (k : Ky), its[j]? = some v ∧ xs[j]? = some x ∧ ks[j]? = some k ∧ RelV x v ∧ kf v = k := fun v hv => by
      obtain ⟨i, hi, e⟩ := List.mem_iff_getElem.mp (pm.mem_iff.mp hv)
      have ev : its[i]? = some v := by rw [List.getElem?_eq_getElem hi, e]
      obtain ⟨x, k, f, ex, ek, rx, e1, _⟩ := item i v ev
      exact ⟨i, x, k, ev, ex, ek, rx, by show (tupKey s.heap shape v).getD [] = k; rw [e1]; rfl⟩
    have mk : ∀ l : List Value, (∀ v ∈ l, v ∈ out) → ∃ ys : List V, Vals ys l ∧ Paired (fun k y => ∃ j : Nat, xs[j]? = some y ∧ ks[j]? = some k) (l.map kf) ys := by
      intro l
      induction l with
      | nil => exact fun _ => ⟨[], .nil, .nil⟩
      | cons v l ih =>
        intro hm
        obtain ⟨ys, r1, r2⟩ := ih fun v hv => hm v (List.mem_cons_of_mem _ hv)
        obtain ⟨j, x, k, _, ex, ek, rx, e⟩ := src v (hm v List.mem_cons_self)
        exact ⟨x :: ys, .cons rx r1, .cons ⟨j, ex, by rw [e]; exact ek⟩ r2⟩
    obtain ⟨ys, r1, r2⟩ := mk out fun _ h => h
    have kse : its.map kf = ks := by
      apply List.ext_getElem?
      intro i
      rw [List.getElem?_map]
      cases ev : its[i]? with
      | none =>
        have h1 : its.length ≤ i := List.getElem?_eq_none_iff.mp ev
        have h2 : ks.length = xs.length := Paired.length hp
        rw [List.getElem?_eq_none (by rw [h2, rv.length]; exact h1)]; rfl
      | some v =>
        obtain ⟨x, k, f, ex, ek, rx, e1, _⟩ := item i v ev
        rw [ek]
        show some ((tupKey s.heap shape v).getD []) = some k
        rw [e1]; rfl
    have es : out.map kf = kSort ks := by
      refine sorted_uniq ?_ (kSort_sorted ks) ?_
      · exact List.pairwise_map.mpr hs2
      · exact ((pm.map kf).trans (by rw [kse])).trans (kSort_perm ks).symm
    rw [es] at r2
    have hlen : ys.length ≤ sizeLine := by rw [r1.length, pm.length_eq, ← rv.length]; exact hz
    have nw : H (s.heap.objs.size + 1) = none := I.hok.fresh (Nat.le_succ _)
    have ok : ObjOk X.prog X.w (upd H (s.heap.objs.size + 1) (.lst ys)) (sortedAll s.heap its out.toArray) (s.heap.objs.size + 1) (.lst ys) := ⟨hlen, out, ep, r1, he'⟩
    exact ⟨.ref (s.heap.objs.size + 1), _, I.laid (t' := s.toks) (fun _ _ => PyProof.Rows.sortedAll_old) (Nat.le_succ _) ok, rfl, q ys _ r2 nw⟩
end

/-! the same over values -/
def vKey (shape : Nat → Bool) : Nat → List Val → Option Ky
  | _, [] => some []
  | i, .int n :: r => if shape i = true then none else (vKey shape (i + 1) r).map (Sum.inl n :: ·)
  | i, .str s :: r => if shape i = true then (vKey shape (i + 1) r).map (Sum.inr s :: ·) else none
  | _, _ :: _ => none
def unKey : Ky → List Val
  | [] => []
  | .inl n :: r => .int n :: unKey r
  | .inr s :: r => .str s :: unKey r
theorem unKey_of (shape : Nat → Bool) : ∀ {vs : List Val} {i : Nat} {k : Ky}, vKey shape i vs = some k → unKey k = vs
  | [], i, k, e => by cases e; rfl
  | .int n :: r, i, k, e => by
    unfold vKey at e
    by_cases hs : shape i = true
    · rw [if_pos hs] at e; cases e
    · rw [if_neg hs] at e
      obtain ⟨k', e1, rfl⟩ := map_some e
      simp [unKey, unKey_of shape e1]
  | .str s :: r, i, k, e => by
    unfold vKey at e
    by_cases hs : shape i = true
    · rw [if_pos hs] at e
      obtain ⟨k', e1, rfl⟩ := map_some e
      simp [unKey, unKey_of shape e1]
    · rw [if_neg hs] at e; cases e
  | .non :: _, _, _, e => by cases e
  | .bl _ :: _, _, _, e => by cases e
  | .tup _ :: _, _, _, e => by cases e
  | .lst _ :: _, _, _, e => by cases e
  | .obj _ _ :: _, _, _, e => by cases e
  | .ref _ :: _, _, _, e => by cases e
  | .glo _ :: _, _, _, e => by cases e
theorem vKey_kIt {T : Tb} {K : PySem.W.Frag} {io : Nat → Addr} {n : Nat} {F : Hp} (shape : Nat → Bool) : ∀ {vs : List Val} {xs : List V} {i : Nat} {k : Ky}, VRs T K io n F vs xs → vKey shape i vs = some k → kIt shape i xs = some k
  | [], xs, i, k, r, e => by cases r; exact e
  | .int m :: r, xs, i, k, rr, e => by
    cases rr with
    | cons r1 t =>
    cases r1
    unfold vKey at e
    unfold kIt
    by_cases hs : shape i = true
    · rw [if_pos hs] at e; cases e
    · rw [if_neg hs] at e ⊢
      obtain ⟨k', e1, rfl⟩ := map_some e
      rw [vKey_kIt shape t e1]; rfl
  | .str s :: r, xs, i, k, rr, e => by
    cases rr with
    | cons r1 t =>
    cases r1
    unfold vKey at e
    unfold kIt
    by_cases hs : shape i = true
    · rw [if_pos hs] at e ⊢
      obtain ⟨k', e1, rfl⟩ := map_some e
      rw [vKey_kIt shape t e1]; rfl
    · rw [if_neg hs] at e; cases e
  | .non :: _, _, _, _, _, e => by cases e
  | .bl _ :: _, _, _, _, _, e => by cases e
  | .tup _ :: _, _, _, _, _, e => by cases e
  | .lst _ :: _, _, _, _, _, e => by cases e
  | .obj _ _ :: _, _, _, _, _, e => by cases e
  | .ref _ :: _, _, _, _, _, e => by cases e
  | .glo _ :: _, _, _, _, _, e => by cases e
def tkOf (shape : Nat → Bool) : Val → Option Ky
  | .tup vs => if vs.isEmpty = true then none else vKey shape 0 vs
  | _ => none
def gSortT (shape : Nat → Bool) : GC := fun h vs => match vs with
  | [v] => (match lstOf h v with
    | some ys => (match ys.mapM (tkOf shape) with
      | some ks => some (.ref h.length, h ++ [.lst ((kSort ks).map fun k => .tup (unKey k))])
      | none => none)
    | none => none)
  | _ => none
theorem mapM_TK {T : Tb} {K : PySem.W.Frag} {io : Nat → Addr} {h : Hh} {F H : Hp} {shape : Nat → Bool} (sr : SR T K io h F H) : ∀ {ys : List Val} {xs : List V} {ks : List Ky}, ys.mapM (tkOf shape) = some ks → VRs T K io h.length F ys xs → Paired (TK K H shape) ks xs ∧ ks.map (fun k => Val.tup (unKey k)) = ys
  | [], xs, ks, e, r => by
    simp at e; subst e
    cases r; exact ⟨.nil, rfl⟩
  | v :: ys, xs, ks, e, r => by
    rw [List.mapM_cons] at e
    cases q : tkOf shape v with
    | none => rw [q] at e; simp at e
    | some k =>
      rw [q] at e
      cases q2 : ys.mapM (tkOf shape) with
      | none => rw [q2] at e; simp at e
      | some us =>
        rw [q2] at e
        simp at e
        subst e
        cases r with
        | cons a b =>
          obtain ⟨p1, p2⟩ := mapM_TK sr q2 b
          unfold tkOf at q
          cases a with
          | @tup vs aa xs' sq rr =>
            dsimp only at q
            by_cases he : vs.isEmpty = true
            · rw [if_pos he] at q; cases q
            · rw [if_neg he] at q
              refine ⟨.cons ⟨aa, xs', rfl, sqT_mono sr.sub sq, vKey_kIt shape rr q, fun z => ?_⟩ p1, by rw [List.map_cons, p2, unKey_of shape q]⟩
              subst z
              cases rr
              exact he rfl
          | _ => cases q
theorem lift_sortT {T : Tb} {K : PySem.W.Frag} (shape : Nat → Bool) : LiftC T K (rSortedT K shape) (gSortT shape) := by
  intro io h F H vs xs z h' Q sr rr e q
  unfold gSortT at e
  split at e
  · rename_i v
    cases rr with
    | @cons _ x _ _ r t =>
      cases t
      cases el : lstOf h v with
      | none => rw [el] at e; cases e
      | some ys =>
        rw [el] at e
        dsimp only at e
        cases ek : ys.mapM (tkOf shape) with
        | none => rw [ek] at e; cases e
        | some ks =>
          rw [ek] at e
          cases e
          obtain ⟨a, xs, rfl, sq, r2⟩ := lstOf_ok sr r el
          obtain ⟨p1, p2⟩ := mapM_TK sr ek r2
          refine ⟨a, xs, ks, rfl, sq, p1, fun zs p hz hp => ?_⟩
          have rz : ∀ {l : List Ky} {zs : List V}, Paired (fun k y => ∃ j : Nat, xs[j]? = some y ∧ ks[j]? = some k) l zs → VRs T K io h.length F (l.map fun k => Val.tup (unKey k)) zs := by
            intro l zs hz
            induction hz with
            | nil => exact .nil
            | @cons kk yy _ _ h1 _ ih =>
              obtain ⟨j, e1, e2⟩ := h1
              have ey : ys[j]? = some (.tup (unKey kk)) := by rw [← p2, List.getElem?_map, e2]; rfl
              obtain ⟨x', ex, rx⟩ := r2.get ey
              rw [e1] at ex
              cases ex
              exact .cons rx ih
          obtain ⟨s1, s2, s3⟩ := push_new sr (rz hz) hp
          exact q _ _ _ _ s1 s2 s3
  · cases e
end Py

namespace Py
open PySem PySem.Spec PyProof.Rows L2

section
variable {T : Tb} {X : Cx} {W : WX} {a b c e o : Expr} {es : List Expr} {fa fb fe fo : Ex} {fl : Lx} {pos apos cpos p : Pos}
/-! ### a list or a tuple, walked -/
def xISq (e : Ex) : Ix := fun sg h => match e sg h with
  | .ok v h1 => (match v with
    | .tup vs => .ok (.items vs) h1
    | .lst vs => .ok (.items vs) h1
    | .str s => .ok (.items (s.map fun c => .str [c])) h1
    | .ref k => (match h1[k]? with
      | some (.lst _) => .ok (.ref (curL k)) h1
      | _ => .bad)
    | _ => .bad)
  | .exc c fs h1 => .exc c fs h1
  | .bad => .bad
def xIStr (e : Ex) : Ix := fun sg h => match e sg h with
  | .ok (.str s) h1 => .ok (.items (s.map fun c => .str [c])) h1
  | .ok _ _ => .bad
  | .exc c fs h1 => .exc c fs h1
  | .bad => .bad
theorem ji_str {tg iter : Expr} (he : JE T X W iter fe) : JI T X W tg iter (xIStr fe) := by
  refine pi_imp (pi_str he) fun σ H R ⟨io, h, F, sg, sr, rs, w⟩ => ⟨io, h, F, sg, sr, rs, ?_⟩
  unfold xIStr at w
  cases e : fe sg h with
  | bad => rw [e] at w; exact w
  | exc c fs h1 => rw [e] at w; exact w
  | ok v h1 =>
    rw [e] at w
    intro io1 F1 H1 x st1 sr1 vr
    cases vr with
    | str s =>
      refine ⟨_, rfl, w io1 F1 H1 _ st1 sr1 fun i io2 h2 F2 H2 sr2 hn he hF hi => ?_⟩
      by_cases hlt : i < s.length
      · have ev : (s.map fun c => Val.str [c])[i]? = some (.str [s[i]]) := by simp [hlt]
        rw [ev]
        refine ⟨by show i < s.toArray.size; simpa using hlt, fun x H' ⟨e', c, ec, ex⟩ => ?_⟩
        subst e' ex
        have hc : c = s[i] := by simpa [hlt] using ec.symm
        subst hc
        exact ⟨F2, .refl, sr2, .str [s[i]]⟩
      · rw [List.getElem?_eq_none (by simpa using hlt)]
        show s.toArray.size ≤ i
        simpa using hlt
    | _ => exact w.elim
theorem pi_or {tg iter : Expr} {t u : TI} (h1 : PI X tg iter t) (h2 : PI X tg iter u) : PI X tg iter (fun σ H R => t σ H R ∨ u σ H R) :=
  ⟨fun pins s σ H R I q => q.elim (h1.run pins s σ H R I) (h2.run pins s σ H R I)⟩
theorem ji_seq {tg iter : Expr} (he : JE T X W iter fe) : JI T X W tg iter (xISq fe) := by
  refine pi_imp (pi_or (ji_str (tg := tg) he) (pi_or (ji_list (tg := tg) he) (ji_tup (tg := tg) he))) fun σ H R ⟨io, h, F, sg, sr, rs, w⟩ => ?_
  unfold xISq at w
  cases e : fe sg h with
  | bad => rw [e] at w; exact w.elim
  | exc c fs h1 => rw [e] at w; exact .inr (.inl ⟨io, h, F, sg, sr, rs, by unfold xISeq; rw [e]; exact w⟩)
  | ok v h1 =>
    rw [e] at w
    cases v with
    | str t => exact .inl ⟨io, h, F, sg, sr, rs, by unfold xIStr; rw [e]; exact w⟩
    | tup vs => exact .inr (.inr ⟨io, h, F, sg, sr, rs, by unfold xITup; rw [e]; exact w⟩)
    | lst vs => exact .inr (.inl ⟨io, h, F, sg, sr, rs, by unfold xISeq; rw [e]; exact w⟩)
    | ref k => exact .inr (.inl ⟨io, h, F, sg, sr, rs, by unfold xISeq; rw [e]; exact w⟩)
    | _ => exact w.elim

/-! ### a call whose result is a new list that the caller may change -/
def callO (T : Nat → List Str) (f : Fx) (as : List Val) (h : Hh) : Res := if (h.isEmpty || pureVs as) = true then (match f [] as with
  | .ok v h' => (match v with
    | .ref j => (match (h'[j]? : Option Obj) with
      | some (Obj.lst cs) => if pureVs cs = true then .ok (.ref h.length) (h ++ [.lst cs]) else .bad
      | _ => .bad)
    | _ => .bad)
  | _ => .bad) else .bad
theorem callO_ok {K : PySem.W.Frag} {io : Nat → Addr} {F H : Hp} {h : Hh} {W : XK} {Q : VK} {f : Fx} {as : List Val} {vs : List V} (sr : SR T K io h F H) (r : VRs T K io h.length F as vs) (w : Wants T K io h.length F H W Q (callO T.fn f as h)) : spF T K f vs H Q W := by
  unfold callO at w
  by_cases hp : (h.isEmpty || pureVs as) = true
  · rw [if_pos hp] at w
    have r0 : VRs T K io ([] : Hh).length F as vs := by
      rcases Bool.or_eq_true_iff.mp hp with z | z
      · have : h = [] := List.isEmpty_iff.mp z
        subst this; exact r
      · exact r.pure z
    refine ⟨io, [], F, as, ⟨sr.sub, fun k hk => absurd hk (Nat.not_lt_zero _), fun j k hj => absurd hj (Nat.not_lt_zero _), fun k o e => by simp at e⟩, r0, ?_⟩
    cases e : f [] as with
    | bad => rw [e] at w; exact w
    | exc c fs h' => rw [e] at w; exact w.elim
    | ok v h' =>
      rw [e] at w
      intro io1 F1 H1 x st sr1 vr
      cases vr with
      | ref j hj =>
        dsimp only at w
        cases ej : (h'[j]? : Option Obj) with
        | none => rw [ej] at w; exact w.elim
        | some ob =>
          rw [ej] at w
          cases ob with
          | ins c us => exact w.elim
          | dct ks us => exact w.elim
          | lst cs =>
            dsimp only at w
            by_cases hc : pureVs cs = true
            · rw [if_pos hc] at w
              obtain ⟨ys, ea, rc⟩ := sr1.obj j _ ej
              have hH : ∀ b o, H b = some o → H1 b = some o := fun b o e => st.frame b o e fun k hk => absurd hk (Nat.not_lt_zero _)
              have nw : H (io1 j) = none := st.new j (Nat.zero_le _) hj
              have dis : ∀ k, k < h.length → F1 (io k) = none := fun k hk => by
                cases q : F1 (io k) with
                | none => rfl
                | some o =>
                  exfalso
                  obtain ⟨u, hu⟩ := sr.there hk
                  rcases st.fresh _ o q with z | z | ⟨y, z⟩
                  · rw [sr.dis k hk] at z; cases z
                  · rw [hu] at z; cases z
                  · subst z
                    have e3 := sr1.sub _ _ q
                    rw [hH _ _ hu] at e3
                    exact (sr.obj k h[k] (by simp [hk])).notOwn y (hu.trans e3)
              have s0 : SR T K io h F1 H1 := ⟨sr1.sub, dis, sr.inj, fun k o e => (sr.obj k o e).mono (Nat.le_refl _) (fun _ _ => rfl) st.phi hH⟩
              have t0 : Step io h.length F H io h.length F1 H1 := ⟨Nat.le_refl _, fun _ _ => rfl, st.phi, fun b o e _ => hH b o e, fun k a b => absurd b (Nat.not_lt.mpr a), st.fresh⟩
              obtain ⟨p1, p2, p3⟩ := CInv.push (acc := cs) nw t0 s0 ea (rc.pure hc) (sr1.dis j hj) (fun k hk z => by obtain ⟨u, hu⟩ := sr.there hk; rw [z, nw] at hu; cases hu)
              exact w _ F1 H1 _ p1 p2 p3
            · rw [if_neg hc] at w; exact w.elim
      | _ => exact w.elim
  · rw [if_neg hp] at w; exact w.elim

/-! ### what a def is, for its callers -/
def Callee (T : Tb) (P : Program) (w : World) (K : PySem.W.Frag) (mg : Str → Option Value) (base : Heap) (k : Nat) (a : Addr) (ps : List Str) (f : Fx) (dvs : List V) : Prop :=
  ∃ fd ds, FnG P w K mg base (CX P w) k a fd ps (spF T K f) ∧ PySem.W.keepIn K (.ref a) = true ∧ Vals dvs ds ∧ Binds K fd ps ds
variable {k : Nat} {ad : Addr} {ps : List Str} {f : Fx} {dvs : List V} {x m : Str} {cc : Nat}
abbrev CalleeX (T : Tb) (X : Cx) (k : Nat) (a : Addr) (ps : List Str) (f : Fx) (dvs : List V) : Prop := Callee T X.prog X.w X.K X.mg X.base k a ps f dvs
def xCallO (T : Nat → List Str) (f : Fx) (dfl : List Val) (l : Lx) : Ex := fun sg h => (l sg h).bind fun as h1 => callO T f (as ++ dfl) h1
theorem jc_P (C : CalleeX T X k ad ps f dvs) (hr : RoomG k X.A) (hm : X.mg x = some (.ref ad)) {dfl : List Val} (hD : Dfl T X.K dfl dvs) (tk : Takes X W) (ha : JA T X W (e :: es) fl) (hg : Gl X x := by rfl) (hdb : (x == ("__debug__" : Str)) = false := by decide)
    (he : starEach (e :: es) X.env = (false, eval e X.env) :: starEach es X.env := by rfl) (hpl : (backTo pos (starEach es X.env)).any (·.1) = false := by rfl) : JE T X W (.Call (.Name x p) (e :: es) [] pos) (xCallP T.fn f dfl fl) := by
  obtain ⟨fd, ds, G, kp, hv, hb⟩ := C
  exact je_callP G hr hm kp hD hb hv tk ha hg hdb he hpl
theorem jc_A (C : CalleeX T X k ad ps f dvs) (hr : RoomG k X.A) (hm : X.mg x = some (.ref ad)) {dfl : List Val} (hD : Dfl T X.K dfl dvs) (tk : Takes X W) (ha : JA T X W (e :: es) fl) (hg : Gl X x := by rfl) (hdb : (x == ("__debug__" : Str)) = false := by decide)
    (he : starEach (e :: es) X.env = (false, eval e X.env) :: starEach es X.env := by rfl) (hpl : (backTo pos (starEach es X.env)).any (·.1) = false := by rfl) : JE T X W (.Call (.Name x p) (e :: es) [] pos) (xCallA f dfl fl) := by
  obtain ⟨fd, ds, G, kp, hv, hb⟩ := C
  exact je_callA G hr hm kp hD hb hv tk ha hg hdb he hpl
theorem jc_B (C : CalleeX T X k ad ps f dvs) (hr : RoomG k X.A) (hm : X.mg x = some (.ref ad)) {dfl : List Val} (hD : Dfl T X.K dfl dvs) (tk : Takes X W) (ha : JA T X W (e :: es) fl) (hg : Gl X x := by rfl) (hdb : (x == ("__debug__" : Str)) = false := by decide)
    (he : starEach (e :: es) X.env = (false, eval e X.env) :: starEach es X.env := by rfl) (hpl : (backTo pos (starEach es X.env)).any (·.1) = false := by rfl) : JE T X W (.Call (.Name x p) (e :: es) [] pos) (xCallB T.fn f dfl fl) := by
  obtain ⟨fd, ds, G, kp, hv, hb⟩ := C
  exact je_callBw G hr hm kp hD hb hv tk ha hg hdb he hpl
theorem jc_O (C : CalleeX T X k ad ps f dvs) (hr : RoomG k X.A) (hm : X.mg x = some (.ref ad)) {dfl : List Val} (hD : Dfl T X.K dfl dvs) (tk : Takes X W) (ha : JA T X W (e :: es) fl) (hg : Gl X x := by rfl) (hdb : (x == ("__debug__" : Str)) = false := by decide)
    (he : starEach (e :: es) X.env = (false, eval e X.env) :: starEach es X.env := by rfl) (hpl : (backTo pos (starEach es X.env)).any (·.1) = false := by rfl) : JE T X W (.Call (.Name x p) (e :: es) [] pos) (xCallO T.fn f dfl fl) := by
  obtain ⟨fd, ds, G, kp, hv, hb⟩ := C
  exact pe_imp (pe_callG (E := fun σ c d H => W c d σ H) G hr hg hm kp hb hv (fun σ => passAt tk σ) ha hdb he hpl) fun σ H Q ⟨io, h, F, sg, sr, rs, w⟩ =>
    ⟨io, h, F, sg, sr, rs, Wants.bindOfL w fun vs h1 io1 F1 H1 xs st sr1 vr w1 => callO_ok sr1 (vr.append (hD _ _ _)) w1⟩
/-- f() -/
theorem jc_P0 (C : CalleeX T X k ad ps f dvs) (hr : RoomG k X.A) (hm : X.mg x = some (.ref ad)) {dfl : List Val} (hD : Dfl T X.K dfl dvs) (tk : Takes X W) (hg : Gl X x := by rfl) (hdb : (x == ("__debug__" : Str)) = false := by decide) : JE T X W (.Call (.Name x p) [] [] pos) (xCallP T.fn f dfl xNil) := by
  obtain ⟨fd, ds, G, kp, hv, hb⟩ := C
  refine ⟨fun pins s σ H Q I hq => wpAny_Call_Name_kw (ld_glob I hg hm (PySem.W.callWith_K0 I.kIn kp (run_fnG (E := fun σ c d H => W c d σ H) (us := []) (vs := []) G hr hb hv (passAt tk σ) I .nil ?_)) hdb)⟩
  obtain ⟨io, h, F, sg, sr, rs, w⟩ := hq
  exact callQ_ok sr (hD _ _ _) w
theorem jc_M {pl : Sem Bool} (ho : JE T X W o fo) (cf : Cf T X.K cc) (hm : Meth X.K (He.ga X.K (T.cn cc)) m ad) (hmf : m ∉ T.fn cc) (C : CalleeX T X k ad ps f dvs) (hr : RoomG k X.A) {dfl : List Val} (hD : Dfl T X.K dfl dvs) (tk : Takes X W) (ha : JA T X W (e :: es) fl)
    (hst : starEach (e :: es) X.env = (false, eval e X.env) :: starEach es X.env := by rfl) (hpl : (backTo pos (starEach es X.env)).any (·.1) = false := by rfl)
    (ht : eval (.Call (.Attribute o m apos) (e :: es) [] pos) X.env = (eval o X.env >>= fun ov => standAt apos.atName >>= fun _ => holding [ov] (getMethod ov m pl) >>= fun p => callWith pos p.1 p.2 (backTo pos (starEach (e :: es) X.env)) (backToKw pos (keywordEach [] X.env))) := by rfl) :
    JE T X W (.Call (.Attribute o m apos) (e :: es) [] pos) (xMethP T.fn cc f dfl fo fl) := by
  obtain ⟨fd, ds, G, kp, hv, hb⟩ := C
  exact je_methP ho cf hm hmf G hr hD hb hv tk ha hst hpl ht
theorem jc_M0 {pl : Sem Bool} (ho : JE T X W o fo) (cf : Cf T X.K cc) (hm : Meth X.K (He.ga X.K (T.cn cc)) m ad) (hmf : m ∉ T.fn cc) (C : CalleeX T X k ad ps f dvs) (hr : RoomG k X.A) {dfl : List Val} (hD : Dfl T X.K dfl dvs) (tk : Takes X W)
    (ht : eval (.Call (.Attribute o m apos) [] [] pos) X.env = (eval o X.env >>= fun ov => standAt apos.atName >>= fun _ => holding [ov] (getMethod ov m pl) >>= fun p => callWith pos p.1 p.2 (backTo pos (starEach [] X.env)) (backToKw pos (keywordEach [] X.env))) := by rfl) :
    JE T X W (.Call (.Attribute o m apos) [] [] pos) (xMethP T.fn cc f dfl fo xNil) := by
  obtain ⟨fd, ds, G, kp, hv, hb⟩ := C
  exact je_methP0 ho cf hm hmf G hr hD hb hv tk ht
theorem jc_K (hf : ∀ as h v h', f h as = .ok v h' → v = .non) (M : Mk X.K (He.ga X.K (T.cn cc)) ad) (C : CalleeX T X k ad ps f dvs) (hr : RoomG (k + 1) X.A) (hm : X.mg x = some (.ref (He.ga X.K (T.cn cc)))) {dfl : List Val} (hD : Dfl T X.K dfl dvs) (tk : Takes X W) (ha : JA T X W (e :: es) fl)
    (hg : Gl X x := by rfl) (hdb : (x == ("__debug__" : Str)) = false := by decide) (he : starEach (e :: es) X.env = (false, eval e X.env) :: starEach es X.env := by rfl) (hpl : (backTo pos (starEach es X.env)).any (·.1) = false := by rfl) :
    JE T X W (.Call (.Name x p) (e :: es) [] pos) (xMakeP T.fn cc f dfl fl) := by
  obtain ⟨fd, ds, G, kp, hv, hb⟩ := C
  exact je_makeP hf M G hr hm hD hb hv tk ha hg hdb he hpl
theorem jc_K0 (hf : ∀ as h v h', f h as = .ok v h' → v = .non) (M : Mk X.K (He.ga X.K (T.cn cc)) ad) (C : CalleeX T X k ad ps f dvs) (hr : RoomG (k + 1) X.A) (hm : X.mg x = some (.ref (He.ga X.K (T.cn cc)))) {dfl : List Val} (hD : Dfl T X.K dfl dvs) (tk : Takes X W)
    (hg : Gl X x := by rfl) (hdb : (x == ("__debug__" : Str)) = false := by decide) : JE T X W (.Call (.Name x p) [] [] pos) (xMakeP T.fn cc f dfl xNil) := by
  obtain ⟨fd, ds, G, kp, hv, hb⟩ := C
  exact je_makeP0 hf M G hr hm hD hb hv tk hg hdb
def gNeg : Hh → Val → Option Val := fun _ v => match v with
  | .int i => some (.int (-i))
  | _ => none
theorem je_neg (ha : JE T X W a fa) : JE T X W (.UnaryOp .USub a pos) (xUn gNeg fa) := by
  refine pe_imp (pe_un un_neg ha) fun σ H Q ⟨io, h, F, sg, sr, rs, w⟩ => ⟨io, h, F, sg, sr, rs, Wants.bind w fun v h1 io1 F1 H1 x st sr1 vr w1 => ?_⟩
  obtain ⟨z, ez, w2⟩ := wants_ofO w1
  cases vr with
  | int i => cases ez; exact ⟨i, rfl, w2 io1 F1 H1 _ .refl sr1 (.int _)⟩
  | _ => cases ez
end
/-- an __init__'s result is None: it has no return -/
def noRet : ResS → Bool
  | .ret .non _ => true
  | .ret _ _ => false
  | _ => true
theorem fnOf_non {np nN : Nat} {body : Sx} (hb : ∀ sg h, noRet (body sg h) = true) : ∀ as h v h', fnOf np nN body h as = .ok v h' → v = .non := by
  intro as h v h' e
  unfold fnOf at e
  by_cases hl : as.length = np
  · rw [if_pos hl] at e
    have := hb (as.map some ++ List.replicate (nN - np) none) h
    cases q : body (as.map some ++ List.replicate (nN - np) none) h with
    | ret u h1 =>
      rw [q] at e this
      cases e
      cases v <;> first | rfl | cases this
    | next sg h1 => rw [q] at e; cases e; rfl
    | brk sg h1 => rw [q] at e; cases e
    | cont sg h1 => rw [q] at e; cases e
    | exc c fs sg h1 => rw [q] at e; cases e
    | bad => rw [q] at e; cases e
  · rw [if_neg hl] at e; cases e
section
theorem nr_seq {a b : Sx} (ha : ∀ sg h, noRet (a sg h) = true) (hb : ∀ sg h, noRet (b sg h) = true) : ∀ sg h, noRet (xSeq a b sg h) = true := fun sg h => by
  unfold xSeq
  have := ha sg h
  cases q : a sg h with
  | next sg1 h1 => exact hb sg1 h1
  | _ => rw [q] at this; exact this
theorem nr_res {r : Res} {sg : Sg} {k : Val → Hh → ResS} (hk : ∀ v h, noRet (k v h) = true) : noRet (r.bindS sg k) = true := by
  cases r with
  | ok v h => exact hk v h
  | exc c fs h => rfl
  | bad => rfl
theorem nr_if {c : Ex} {a b : Sx} (ha : ∀ sg h, noRet (a sg h) = true) (hb : ∀ sg h, noRet (b sg h) = true) : ∀ sg h, noRet (xIfS c a b sg h) = true := fun sg h => by
  unfold xIfS Res.testS
  cases q : c sg h with
  | ok v h1 =>
    cases v with
    | bl v =>
      cases v with
      | true => exact ha sg h1
      | false => exact hb sg h1
    | _ => rfl
  | exc c fs h1 => rfl
  | bad => rfl
theorem nr_set {i : Nat} {e : Ex} : ∀ sg h, noRet (xSet i e sg h) = true := fun sg h => nr_res fun _ _ => rfl
theorem nr_skip : ∀ sg h, noRet (xSkip sg h) = true := fun _ _ => rfl
theorem nr_bad : ∀ (sg : Sg) (h : Hh), noRet ((fun _ _ => .bad : Sx) sg h) = true := fun _ _ => rfl
theorem nr_att {l : List (Nat × Nat)} {v o : Ex} : ∀ sg h, noRet (xSetAttr l v o sg h) = true := fun sg h => nr_res fun y h1 => nr_res fun ov h2 => by
  cases ov with
  | ref k =>
    dsimp only
    split
    · split
      · split
        · rfl
        · split <;> rfl
      · rfl
    · rfl
  | _ => rfl
end
end Py

namespace Py
open PySem PySem.Spec PyProof.Rows L2

/-! ### the module's constants -/
def GK (T : Tb) (K : PySem.W.Frag) (mg : Str → Option Value) (x : Str) (v : Val) : Prop := ∃ (u : Value) (y : V), mg x = some u ∧ RelV y u ∧ ∀ io n F, VR T K io n F v y
theorem je_gk {T : Tb} {X : Cx} {W : WX} {x : Str} {v : Val} {pos : Pos} (g : GK T X.K X.mg x v) (hg : Gl X x := by rfl) (hd : (x == ("__debug__" : Str)) = false := by decide) : JE T X W (.Name x pos) (xC v) := je_glob hg g hd
/-- values that the text writes -/
def Dv1 : He.Dv → Option Val
  | .non => some .non
  | .bl b => some (.bl b)
  | .int i => some (.int i)
  | .str x => some (.str x.cps.toList)
  | _ => none
theorem Dv1_ok {T : Tb} {K : PySem.W.Frag} {d : He.Dv} {v : Val} (e : Dv1 d = some v) (io : Nat → Addr) (n : Nat) (F : Hp) : VR T K io n F v (d.v K) := by
  cases d with
  | non => cases e; exact .non
  | bl b => cases e; exact .bl b
  | int i => cases e; exact .int i
  | str x =>
    cases e
    have : (⟨x.cps.toList.toArray⟩ : Str) = x := by cases x; simp
    show VR T K io n F (.str x.cps.toList) (.str x)
    rw [← this]
    simpa using VR.str (T := T) (K := K) (io := io) (n := n) (F := F) x.cps.toList
  | _ => cases e
theorem Dv1_all {T : Tb} {K : PySem.W.Frag} (io : Nat → Addr) (n : Nat) (F : Hp) : ∀ {ds : List He.Dv} {vs : List Val}, ds.mapM Dv1 = some vs → VRs T K io n F vs (ds.map (He.Dv.v K))
  | [], vs, e => by simp at e; subst e; exact .nil
  | d :: ds, vs, e => by
    rw [List.mapM_cons] at e
    cases q : Dv1 d with
    | none => rw [q] at e; simp at e
    | some v =>
      rw [q] at e
      cases q2 : ds.mapM Dv1 with
      | none => rw [q2] at e; simp at e
      | some us =>
        rw [q2] at e
        simp at e
        subst e
        exact .cons (Dv1_ok q io n F) (Dv1_all io n F q2)
theorem Dfl.of {T : Tb} {K : PySem.W.Frag} {ds : List He.Dv} {vs : List Val} (e : ds.mapM Dv1 = some vs) : Dfl T K vs (ds.map (He.Dv.v K)) := fun io n F => Dv1_all io n F e
theorem gk_tup {T : Tb} {K : PySem.W.Frag} {h : Heap} {mg : Str → Option Value} (X : K.In h) (G : h.Ns mainGlobals mg) {x : Str} {ds : List He.Dv} {vs : List Val} (g : (He.Fa.glo x).ok K = true) (c : He.tupB K x ds = true) (e : ds.mapM Dv1 = some vs) : GK T K mg x (.tup vs) :=
  ⟨_, .ref (He.ga K x), He.glo_ok X G g, rfl, fun io n F => .tup (He.tupB_ok c F) (Dv1_all io n F e)⟩
theorem gk_int {T : Tb} {K : PySem.W.Frag} {h : Heap} {mg : Str → Option Value} (X : K.In h) (G : h.Ns mainGlobals mg) {x : Str} {i : Int} (c : (He.Fa.int x i).ok K = true) : GK T K mg x (.int i) := by
  obtain ⟨t, e⟩ := He.int_ok X G c
  exact ⟨_, .int i, e, ⟨t, rfl⟩, fun io n F => .int i⟩
theorem gk_str {T : Tb} {K : PySem.W.Frag} {h : Heap} {mg : Str → Option Value} (X : K.In h) (G : h.Ns mainGlobals mg) {x : Str} {s : List Nat} (c : (He.Fa.str x ⟨s.toArray⟩).ok K = true) : GK T K mg x (.str s) := by
  obtain ⟨t, e⟩ := He.str_ok X G c
  exact ⟨_, .str ⟨s.toArray⟩, e, ⟨t, rfl⟩, fun io n F => .str s⟩
/-- the classes' facts -/
def cfB (K : PySem.W.Frag) (x : Str) (fs : List Str) : Bool := (He.Fa.cls x).ok K && fs.all fun f => (He.Fa.noat x f).ok K
theorem cf_of {T : Tb} {K : PySem.W.Frag} {c : Nat} (h : cfB K (T.cn c) (T.fn c) = true) (nd : (T.fn c).Nodup) (few : (T.fn c).length < 1000) : Cf T K c := by
  obtain ⟨h1, h2⟩ := He.ba h
  exact ⟨He.cls_ok h1, nd, fun f hf => He.eqO_ok (List.all_eq_true.mp h2 f hf), few⟩
theorem meth_of {K : PySem.W.Frag} {x m : Str} (h : (He.Fa.meth x m).ok K = true) : Meth K (He.ga K x) m (He.ma K (He.ga K x) m) := by
  obtain ⟨h1, h2⟩ := He.ba h
  obtain ⟨h3, h4⟩ := He.ba h2
  exact ⟨He.eqO_ok h1, h3, h4⟩
theorem mk_of {K : PySem.W.Frag} {x : Str} (h : (He.Fa.mkr x).ok K = true) : Mk K (He.ga K x) (He.ma K (He.ga K x) "__init__") := by
  obtain ⟨h1, h2⟩ := He.ba h
  obtain ⟨h3, h4⟩ := He.ba h2
  obtain ⟨h5, h6⟩ := He.ba h4
  exact ⟨h1, He.eqO_ok h3, h5, h6⟩

/-! ### the hook: a look of one's own at the written part -/
def obsM (chk : PySem.W.Frag → Bool) (fn : List He.DefD) (K : PySem.W.Frag) : He.AlD := (chk K && fn.all fun d => d.ok K, fn.map fun d => He.fnW K d.at_)
def SaysM (chk : PySem.W.Frag → Bool) (fn : List He.DefD) (K : PySem.W.Frag) : Prop := obsM chk fn K = He.valD fn
def obsMG (n : Nat) (chk : PySem.W.Frag → Bool) (fn : List He.DefD) (g : Addr → Option PySem.Obj) : He.AlD := obsM chk fn (He.frG g (He.asD g n))
def hookM (n : Nat) (chk : PySem.W.Frag → Bool) (fn : List He.DefD) : PySem.W.Hook where
  α := He.AlD
  obs := fun s => obsMG n chk fn s.heap.get?
  val := fun _ => He.valD fn
  says := fun _ h => ∃ K : PySem.W.Frag, K.In h ∧ SaysM chk fn K
  of := fun _ _ e => ⟨_, He.frG_in, e⟩
  keeps := fun _ _ _ ⟨K, hK, c⟩ k => ⟨K, PySem.W.Frag.In.keeps hK k, c⟩
theorem obsMG_eq {n : Nat} {chk : PySem.W.Frag → Bool} {fn : List He.DefD} {g : Addr → Option PySem.Obj} {s : Shared} (h : ∀ a, g a = s.heap.get? a) : obsMG n chk fn g = (hookM n chk fn).obs s := by
  obtain rfl : g = s.heap.get? := funext h
  rfl
section
variable {ck : PySem.W.Frag → Bool} {fn : List He.DefD} {K : PySem.W.Frag}
theorem SaysM.look (c : SaysM ck fn K) : ck K = true := (He.ba (congrArg (fun z : He.AlD => z.1) c : (ck K && fn.all fun d => d.ok K) = true)).1
theorem SaysM.def_ (c : SaysM ck fn K) (i : Nat) {d : He.DefD} (h : fn[i]? = some d := by rfl) : ∃ fd, FunD K d.name d.qual d.params d.body d.scope (d.dvs K) (d.kws K) (He.fAd K d.at_) fd := by
  have c2 := (He.ba (congrArg (fun z : He.AlD => z.1) c : (ck K && fn.all fun d => d.ok K) = true)).2
  have e : fn.map (fun d => He.fnW K d.at_) = fn.map He.DefD.val := congrArg (fun z : He.AlD => z.2) c
  have e2 := congrArg (fun l : List He.FnW => l[i]?) e
  simp only [List.getElem?_map, h, Option.map_some, Option.some.injEq] at e2
  exact He.DefD.funD e2 (List.all_eq_true.mp c2 d (List.mem_of_getElem? h))
end
/-- all the rows of a list of checks hold -/
theorem all_at {α : Type} {l : List α} {p : α → Bool} (h : l.all p = true) {i : Nat} {a : α} (e : l[i]? = some a) : p a = true := List.all_eq_true.mp h a (List.mem_of_getElem? e)
/-- the law's end -/
theorem cx_false {P : Program} {w : World} {H : Hp} {s : Shared} {e : Value} {s' : Shared} (h : L2.CX P w [] H s (fun _ _ _ => False) e s') : False := by
  obtain ⟨_, _, _, _, _, _, _, _, _, _, _, _, z⟩ := h
  exact z
theorem law_end {l : PySem.W.OpenLaw} {k : Nat} {q : Program} {loose : List Str} {XP : (Str → Option Value) → Heap → Prop} {YP : World → Heap → Prop} {d : DefRec} {T : World → Tb} {fl : Fx}
    (hn : l.most = some 63) (hdf : d.params.defaults = []) (hr : RoomG k callerA)
    (F : ∀ (w : World) (mg : Str → Option Value) (fa : Addr) (h : Heap), YP w h → h.Ns mainGlobals mg → mg d.name = some (.ref fa) →
      ∃ (K : PySem.W.Frag) (fd : FuncData), K.In h ∧ (∀ (s : Shared) (u : Value), BindsTo s fd ⟨[u], []⟩ [("_law_script", u)]) ∧ ∀ base : Heap, K.In base → base.Ns mainGlobals mg → FnG l.prog w K mg base (CX l.prog w) k fa fd ["_law_script"] (spF (T w) K fl))
    (hl : ∀ ns : List Int, ns.length ≤ 63 → (∀ z ∈ ns, Builtin.Int.intBits z ≤ 1048576) → ∃ h', fl [] [.lst (ns.map Val.int)] = .ok (.bl true) h') :
    PySem.W.WalkO q loose XP YP l.row.toRowW d [] (fun f vs => PySem.call f vs) := by
  refine Att.attach_callB hn hdf fun w s0 s1 mg mb fa o pm cd doc a vs ns G Y ho hd hcd hmg hobj hints hlen hbits hg => ?_
  obtain ⟨K, fd, KX, hb, hF⟩ := F w mg fa _ Y G.T.g hmg
  refine law_callG (C := CX l.prog w) KX G.T.g G.T.b G.T.builtins G.T.nolimit hg hobj hints (Nat.le_trans hlen (by decide)) hr hF hb (fun H hO hS => ?_) fun H e s' hc => cx_false hc
  obtain ⟨h', e⟩ := hl ns hlen hbits
  have allInts : ∀ l : List Int, VRs (T w) K (fun _ => 0) 0 H (l.map Val.int) (l.map V.int) := by
    intro l
    induction l with
    | nil => exact .nil
    | cons i l ih => exact .cons (.int i) ih
  refine ⟨fun _ => 0, [], H, [.lst (ns.map Val.int)], ⟨fun _ _ e => e, fun k hk => absurd hk (Nat.not_lt_zero _), fun j k hj => absurd hj (Nat.not_lt_zero _), fun k o e => by simp at e⟩, .cons (.lst hS (allInts ns)) .nil, ?_⟩
  rw [e]
  intro io' F' H' x st sr vr
  cases vr
  rfl
section
variable {T : Tb} {X : Cx} {W : WX} {pos : Pos}
theorem takesNo : Takes X Wno := fun u s' ⟨_, _, _, _, _, _, _, _, _, _, _, _, _, _, _, _, z⟩ => False.elim z
theorem js_setLcF (i : Nat) {y : Str} {py spos : Pos} {elt tg iter : Expr} {ifs : List Expr} {scope : Scope} (own : List (Str × Nat)) {fi : Ix} {g : Gx} {t el : Ex} {ws : List Nat} (hc : X.calm = true) (hN : X.N.Nodup) (hi : JI T X W tg iter fi) (ok : BlkOk X.N X.env.scope scope own) (hw : ∀ j, j ∈ ws → j ∈ own.map (·.2))
    (hg : ∀ (s : Shared) (H : Hp) (C : Addr) (cl : List (Str × Addr)) (fp : List Addr), JGw T (X.blk s H scope (compEnvC scope cl C X.env) fp) ws tg g) (ht : ∀ (s : Shared) (H : Hp) (C : Addr) (cl : List (Str × Addr)) (fp : List Addr), JTs T (X.blk s H scope (compEnvC scope cl C X.env) fp) Wno ifs t)
    (he : ∀ (s : Shared) (H : Hp) (C : Addr) (cl : List (Str × Addr)) (fp : List Addr), JE T (X.blk s H scope (compEnvC scope cl C X.env) fp) Wno elt el) (hy : X.N[i]? = some y := by rfl) (hyl : X.env.scope.names.lookup y = some .local := by rfl)
    (hsw : swapsWith (.ListComp elt [⟨tg, iter, ifs, 0⟩] scope pos) (some (.Name y py)) spos.line X.env = pure true := by exact sw_true rfl rfl rfl (by decide +kernel)) (hs : ∀ x, foldedSetIterable iter X.env x = pure x := by intro _; rfl) :
    JS T X W (.Assign [.Name y py] (.ListComp elt [⟨tg, iter, ifs, 0⟩] scope pos) spos) (xSet i (xCompF (own.map (·.2)) fi g t el)) := by
  refine ps_imp (ps_setLc hc hN hy hyl hsw hi ok hg ht he hs) fun D σ H ⟨io, h, F, sg, sr, rs, w⟩ => comp_core (tg := tg) (iter := iter) (elt := elt) (ifs := ifs) (Q := fun _ _ => True) hw sr rs ?_
  unfold xSet xCompF at w
  cases e : xCompL (own.map (·.2)) fi g t el sg h with
  | bad => rw [e] at w; exact w
  | exc c fs h' => rw [e] at w; exact fun io' F' H' d st sr xr => w io' F' H' σ d st sr (rs.step st) xr
  | ok acc h' =>
    rw [e] at w
    intro D io' F' H' xs hD st sr' hd va fd nd
    obtain ⟨s1, s2, mn⟩ := CInv.froze hD st sr' hd fd nd
    exact w _ _ H' _ s1 s2 ((rs.step s1).set i (.lst (SqL.of upd_same) (va.mono (Nat.le_refl _) (fun _ _ => rfl) mn)))
end
end Py

namespace Py
open PySem PySem.Spec PyProof.Rows L2

/-! ### the draws that every law makes -/
def seedF (c : Int) : Fx := fnOf 2 3
 (xSeq (xSet 2 (xOp gAdd (xOp gMul (xC (.int 8831)) (xVar 1)) (xC (.int 101))))
 (xSeq (xIfS (xOp gLt (xVar 1) (xCB gLen (xCons (xVar 0) xNil)))
 (xSet 2 (xCB gAbs (xCons (xOp gIx (xVar 0) (xVar 1)) xNil)))
 (xIfS (xOp gGt (xCB gLen (xCons (xVar 0) xNil)) (xC (.int 0)))
 (xSet 2 (xOp gAdd (xVar 2) (xOp gMul (xOp gMod (xCB gInt1 (xCons (xCB gAbs (xCons (xOp gIx (xVar 0) (xOp gMod (xCB gInt1 (xCons (xVar 1) xNil)) (xCB gLen (xCons (xVar 0) xNil)))) xNil)) xNil)) (xC (.int 2147483629))) (xC (.int c)))))
 xSkip))
 (xRet (xLst (xCons (xIf (xOp gGe (xVar 2) (xOp gPow (xC (.int 10)) (xC (.int 18)))) (xVar 2) (xC (.int 0))) (xCons (xOp gAdd (xOp gMod (xCB gInt1 (xCons (xOp gAdd (xOp gMul (xOp gMod (xCB gInt1 (xCons (xVar 2) xNil)) (xC (.int 2147483629))) (xC (.int 48271))) (xOp gMul (xC (.int 37021)) (xVar 1))) xNil)) (xC (.int 2147483629))) (xC (.int 1))) xNil))))))
def chooseF : Fx := fnOf 2 4
 (xSeq (xIfS (xOp gGt (xOp gIx (xVar 0) (xC (.int 0))) (xC (.int 0)))
 (xSeq (xSet 2 (xOp gMod (xCB gInt1 (xCons (xOp gIx (xVar 0) (xC (.int 0))) xNil)) (xVar 1)))
 (xSeq (xAsg (xOp gFdiv (xOp gIx (xVar 0) (xC (.int 0))) (xVar 1)) (gSetIx (xVar 0) (xC (.int 0))))
 (xRet (xVar 2))))
 xSkip)
 (xSeq (xSet 3 (xOp gMod (xCB gInt1 (xCons (xOp gAdd (xOp gMul (xOp gIx (xVar 0) (xC (.int 1))) (xC (.int 40014))) (xC (.int 71))) xNil)) (xC (.int 2147483563))))
 (xSeq (xAsg (xOp gAdd (xOp gMod (xCB gInt1 (xCons (xOp gAdd (xOp gMul (xVar 3) (xC (.int 40692))) (xC (.int 4603))) xNil)) (xC (.int 2147483629))) (xC (.int 1))) (gSetIx (xVar 0) (xC (.int 1))))
 (xRet (xOp gMod (xCB gInt1 (xCons (xOp gFdiv (xOp gAdd (xOp gMul (xVar 3) (xC (.int 2147483647))) (xOp gIx (xVar 0) (xC (.int 1)))) (xC (.int 8191))) xNil)) (xVar 1))))))

def cA (a m : Int) : Int := if 0 < a then a / m else a
def cB (a b : Int) : Int := if 0 < a then b else ((b * 40014 + 71) % 2147483563 * 40692 + 4603) % 2147483629 + 1
def cD (a b m : Int) : Int := if 0 < a then a % m else ((b * 40014 + 71) % 2147483563 * 2147483647 + (((b * 40014 + 71) % 2147483563 * 40692 + 4603) % 2147483629 + 1)) / 8191 % m
theorem cD_lo (a b m : Int) (h0 : 0 < m) : 0 ≤ cD a b m := by
  unfold cD; split
  · exact Int.emod_nonneg _ (by omega)
  · exact Int.emod_nonneg _ (by omega)
theorem cD_hi (a b m : Int) (h0 : 0 < m) : cD a b m < m := by
  unfold cD; split
  · exact Int.emod_lt_of_pos _ h0
  · exact Int.emod_lt_of_pos _ h0
theorem choose_eq (a b m : Int) (h0 : 0 < m) (h1 : m < 1073741824) : chooseF [.lst [.int a, .int b]] [.ref 0, .int m] = .ok (.int (cD a b m)) [.lst [.int (cA a m), .int (cB a b)]] := by
  by_cases hb : 0 < a
  · simp [cA, cB, cD, chooseF, fnOf, xSeq, xIfS, xOp, xVar, xC, xSet, xRet, xAsg, xCB, xCons, xNil, xSkip, Res.bind, Res.bindS, Res.bindL, ResL.bind, ResL.bindL, ResG.bindS, Res.testS, gIx, lstOf, atV, gI, gIc, Res.ofO, Res.ofP, gInt1, gSetIx, mutOf, okMul, hb, h0, h1]
  · simp [cA, cB, cD, chooseF, fnOf, xSeq, xIfS, xOp, xVar, xC, xSet, xRet, xAsg, xCB, xCons, xNil, xSkip, Res.bind, Res.bindS, Res.bindL, ResL.bind, ResL.bindL, ResG.bindS, Res.testS, gIx, lstOf, atV, gI, gIc, Res.ofO, Res.ofP, gInt1, gSetIx, mutOf, okMul, hb, h0, h1]
theorem lst2 (a b : Ex) : xLst (xCons a (xCons b xNil)) = fun sg h => (a sg h).bind fun x h1 => (b sg h1).bind fun y h2 => .ok (.ref h2.length) (h2 ++ [.lst [x, y]]) := by
  funext sg h
  unfold xLst xCons xNil
  cases a sg h with
  | bad => rfl
  | exc c fs h1 => rfl
  | ok x h1 =>
    simp only [Res.bindL, Res.bind]
    cases b sg h1 with
    | bad => rfl
    | exc c fs h1 => rfl
    | ok y h2 => rfl
theorem pow18 : xOp gPow (xC (.int 10)) (xC (.int 18)) = xC (.int 1000000000000000000) := by
  funext sg h
  have e : (10 : Int) ^ ((18 : Int).toNat) = 1000000000000000000 := by decide
  simp [xOp, xC, Res.bind, gIc, Res.ofO]
theorem seed_1 (c : Int) (ns : List Int) (k : Nat) (hk : k < ns.length) : ∃ a b, seedF c [] [.lst (ns.map Val.int), .int k] = .ok (.ref 0) [.lst [.int a, .int b]] := by
  generalize hz : (if ns[k] < 0 then -ns[k] else ns[k]) = z
  unfold seedF
  rw [pow18, lst2]
  by_cases hq : 1000000000000000000 ≤ z
  · refine ⟨z, ((z % 2147483629 * 48271 + 37021 * k) % 2147483629 + 1), ?_⟩
    simp [fnOf, xSeq, xIfS, xOp, xVar, xC, xSet, xRet, xAsg, xCB, xCons, xNil, xSkip, xIf, Res.test, Res.bind, Res.bindS, Res.bindL, ResL.bind, ResL.bindL, ResG.bindS, Res.testS, gIx, lstOf, atV, gI, gIc, Res.ofO, Res.ofP, gInt1, gSetIx, mutOf, okMul, gLen, gAbs, hk, hz, hq]
  · refine ⟨0, ((z % 2147483629 * 48271 + 37021 * k) % 2147483629 + 1), ?_⟩
    simp [fnOf, xSeq, xIfS, xOp, xVar, xC, xSet, xRet, xAsg, xCB, xCons, xNil, xSkip, xIf, Res.test, Res.bind, Res.bindS, Res.bindL, ResL.bind, ResL.bindL, ResG.bindS, Res.testS, gIx, lstOf, atV, gI, gIc, Res.ofO, Res.ofP, gInt1, gSetIx, mutOf, okMul, gLen, gAbs, hk, hz, hq]
theorem xSeq_n {a b : Sx} {sg sg1 : Sg} {h h1 : Hh} (e : a sg h = .next sg1 h1) : xSeq a b sg h = b sg1 h1 := by unfold xSeq; rw [e]
theorem xSeq_r {a b : Sx} {sg : Sg} {v : Val} {h h1 : Hh} (e : a sg h = .ret v h1) : xSeq a b sg h = .ret v h1 := by unfold xSeq; rw [e]
theorem xIfS_f {c : Ex} {a b : Sx} {sg : Sg} {h h1 : Hh} (e : c sg h = .ok (.bl false) h1) : xIfS c a b sg h = b sg h1 := by unfold xIfS; rw [e]; rfl
theorem xIfS_t {c : Ex} {a b : Sx} {sg : Sg} {h h1 : Hh} (e : c sg h = .ok (.bl true) h1) : xIfS c a b sg h = a sg h1 := by unfold xIfS; rw [e]; rfl
theorem fnOf_r {np nN : Nat} {b : Sx} {h h1 : Hh} {as : List Val} {v : Val} (hl : as.length = np) (e : b (as.map some ++ List.replicate (nN - np) none) h = .ret v h1) : fnOf np nN b h as = .ok v h1 := by unfold fnOf; rw [if_pos hl, e]
theorem fnOf_n {np nN : Nat} {b : Sx} {h h1 : Hh} {as : List Val} {sg : Sg} (hl : as.length = np) (e : b (as.map some ++ List.replicate (nN - np) none) h = .next sg h1) : fnOf np nN b h as = .ok .non h1 := by unfold fnOf; rw [if_pos hl, e]
theorem seed_2a (l : List Val) (k : Int) : xSet 2 (xOp gAdd (xOp gMul (xC (.int 8831)) (xVar 1)) (xC (.int 101))) [some (.lst l), some (.int k), none] [] = .next [some (.lst l), some (.int k), some (.int (8831 * k + 101))] [] := by simp [xOp, xVar, xC, xSet, xRet, xCB, xCons, xNil, xIf, Res.test, Res.bind, Res.bindS, Res.bindL, ResL.bind, ResL.bindL, gIx, lstOf, gI, gIc, Res.ofO, Res.ofP, gInt1, gLen, okMul]
theorem seed_2b (l : List Val) (k z : Int) (hk : ¬ k < l.length) : xOp gLt (xVar 1) (xCB gLen (xCons (xVar 0) xNil)) [some (.lst l), some (.int k), some (.int z)] [] = .ok (.bl false) [] := by simp [xOp, xVar, xC, xSet, xRet, xCB, xCons, xNil, xIf, Res.test, Res.bind, Res.bindS, Res.bindL, ResL.bind, ResL.bindL, gIx, lstOf, gI, gIc, Res.ofO, Res.ofP, gInt1, gLen, okMul]; omega
theorem seed_2c (l : List Val) (k z : Int) (hk : l = []) : xOp gGt (xCB gLen (xCons (xVar 0) xNil)) (xC (.int 0)) [some (.lst l), some (.int k), some (.int z)] [] = .ok (.bl false) [] := by subst hk; rfl
theorem seed_2d (l : List Val) (k z : Int) : ∃ a b, (xRet (fun sg h => (xIf (xOp gGe (xVar 2) (xC (.int 1000000000000000000))) (xVar 2) (xC (.int 0)) sg h).bind fun x h1 => (xOp gAdd (xOp gMod (xCB gInt1 (xCons (xOp gAdd (xOp gMul (xOp gMod (xCB gInt1 (xCons (xVar 2) xNil)) (xC (.int 2147483629))) (xC (.int 48271))) (xOp gMul (xC (.int 37021)) (xVar 1))) xNil)) (xC (.int 2147483629))) (xC (.int 1)) sg h1).bind fun y h2 => .ok (.ref h2.length) (h2 ++ [.lst [x, y]]))) [some (.lst l), some (.int k), some (.int z)] [] = .ret (.ref 0) [.lst [.int a, .int b]] := by
  by_cases hq : 1000000000000000000 ≤ z
  · refine ⟨z, ((z % 2147483629 * 48271 + 37021 * k) % 2147483629 + 1), ?_⟩
    simp [xOp, xVar, xC, xSet, xRet, xCB, xCons, xNil, xIf, Res.test, Res.bind, Res.bindS, Res.bindL, ResL.bind, ResL.bindL, gIx, lstOf, gI, gIc, Res.ofO, Res.ofP, gInt1, gLen, okMul, hq]
  · refine ⟨0, ((z % 2147483629 * 48271 + 37021 * k) % 2147483629 + 1), ?_⟩
    simp [xOp, xVar, xC, xSet, xRet, xCB, xCons, xNil, xIf, Res.test, Res.bind, Res.bindS, Res.bindL, ResL.bind, ResL.bindL, gIx, lstOf, gI, gIc, Res.ofO, Res.ofP, gInt1, gLen, okMul, hq]
theorem seed_2 (c : Int) (k : Nat) : ∃ a b, seedF c [] [.lst (([] : List Int).map Val.int), .int k] = .ok (.ref 0) [.lst [.int a, .int b]] := by
  obtain ⟨a, b, e⟩ := seed_2d [] k (8831 * k + 101)
  refine ⟨a, b, ?_⟩
  unfold seedF
  rw [pow18, lst2]
  refine fnOf_r rfl ?_
  refine (xSeq_n (seed_2a [] k)).trans ?_
  refine (xSeq_n ((xIfS_f (seed_2b [] k _ (by simp))).trans (xIfS_f (seed_2c [] k _ rfl)))).trans ?_
  exact e
theorem seed_3 (c : Int) (hc0 : 0 < c ∧ c < 18446744073709551616) (ns : List Int) (k : Nat) (hk : ¬ k < ns.length) (hp : 0 < ns.length) : ∃ a b, seedF c [] [.lst (ns.map Val.int), .int k] = .ok (.ref 0) [.lst [.int a, .int b]] := by
  have hj : k % ns.length < ns.length := Nat.mod_lt _ hp
  have hj' : ((k : Int) % (ns.length : Int)).toNat = k % ns.length := by rw [← Int.natCast_emod]; rfl
  generalize hz : (if ns[k % ns.length] < 0 then -ns[k % ns.length] else ns[k % ns.length]) = z
  have hj0 : 0 ≤ (k : Int) % (ns.length : Int) := Int.emod_nonneg _ (by omega)
  have hc1 : -18446744073709551616 < c := by omega
  have hc2 := hc0.2
  unfold seedF
  rw [pow18, lst2]
  generalize hy : 8831 * (k : Int) + 101 + z % 2147483629 * c = y
  by_cases hq : 1000000000000000000 ≤ y
  · refine ⟨y, ((y % 2147483629 * 48271 + 37021 * k) % 2147483629 + 1), ?_⟩
    simp [fnOf, xSeq, xIfS, xOp, xVar, xC, xSet, xRet, xAsg, xCB, xCons, xNil, xSkip, xIf, Res.test, Res.bind, Res.bindS, Res.bindL, ResL.bind, ResL.bindL, ResG.bindS, Res.testS, gIx, lstOf, atV, gI, gIc, Res.ofO, Res.ofP, gInt1, gSetIx, mutOf, okMul, gLen, gAbs, hk, hq, hp, hj, hj', hj0, hz, hc1, hc2, hy]
  · refine ⟨0, ((y % 2147483629 * 48271 + 37021 * k) % 2147483629 + 1), ?_⟩
    simp [fnOf, xSeq, xIfS, xOp, xVar, xC, xSet, xRet, xAsg, xCB, xCons, xNil, xSkip, xIf, Res.test, Res.bind, Res.bindS, Res.bindL, ResL.bind, ResL.bindL, ResG.bindS, Res.testS, gIx, lstOf, atV, gI, gIc, Res.ofO, Res.ofP, gInt1, gSetIx, mutOf, okMul, gLen, gAbs, hk, hq, hp, hj, hj', hj0, hz, hc1, hc2, hy]
theorem seed_ok (c : Int) (hc0 : 0 < c ∧ c < 18446744073709551616) (ns : List Int) (k : Nat) : ∃ a b, seedF c [] [.lst (ns.map Val.int), .int k] = .ok (.ref 0) [.lst [.int a, .int b]] := by
  by_cases hk : k < ns.length
  · exact seed_1 c ns k hk
  · by_cases hn : ns = []
    · subst hn; exact seed_2 c k
    · exact seed_3 c hc0 ns k hk (List.length_pos_iff.mpr hn)
theorem pureVs_ints : ∀ ns : List Int, pureVs (ns.map Val.int) = true
  | [] => rfl
  | n :: r => by simp [pureVs, pureV, pureVs_ints r]
theorem callO_seed (T : Nat → List Str) (c : Int) (hc0 : 0 < c ∧ c < 18446744073709551616) (ns : List Int) (k : Nat) (h : Hh) : ∃ a b, callO T (seedF c) [.lst (ns.map Val.int), .int k] h = .ok (.ref h.length) (h ++ [.lst [.int a, .int b]]) := by
  obtain ⟨a, b, e⟩ := seed_ok c hc0 ns k
  refine ⟨a, b, ?_⟩
  unfold callO
  rw [if_pos (by simp [pureVs, pureV, pureVs_ints]), e]
  rfl
theorem callB_choose (T : Nat → List Str) (a b m : Int) (h0 : 0 < m) (h1 : m < 1073741824) (k : Nat) (h : Hh) (hk : h[k]? = some (.lst [.int a, .int b])) : callB T chooseF [.ref k, .int m] h = .ok (.int (cD a b m)) (h.set k (.lst [.int (cA a m), .int (cB a b)])) := by
  unfold callB
  simp only [hk]
  rw [if_pos (by rfl), choose_eq a b m h0 h1]
  rfl
def oneF (T : Nat → List Str) : Fx := fnOf 2 2
 (xRet (xOp gIx (xVar 1) (xCallB T chooseF [] (xCons (xVar 0) (xCons (xCB gLen (xCons (xVar 1) xNil)) xNil)))))
theorem pureVs_at : ∀ {vs : List Val} {i : Nat} {v : Val}, pureVs vs = true → vs[i]? = some v → pureV v = true
  | [], i, v, _, e => by simp at e
  | w :: r, 0, v, h, e => by simp [pureVs] at h e; rw [← e]; exact h.1
  | w :: r, i + 1, v, h, e => by simp [pureVs] at h e; exact pureVs_at h.2 e
theorem callB_one (T : Nat → List Str) (a b : Int) (vs : List Val) (v : Val) (hp : pureVs vs = true) (h0 : 0 < vs.length) (h1 : vs.length < 1073741824) (hv : vs[(cD a b vs.length).toNat]? = some v) (k : Nat) (h : Hh) (hk : h[k]? = some (.lst [.int a, .int b])) :
    callB T (oneF T) [.ref k, .lst vs] h = .ok v (h.set k (.lst [.int (cA a vs.length), .int (cB a b)])) := by
  have e : oneF T [.lst [.int a, .int b]] [.ref 0, .lst vs] = .ok v [.lst [.int (cA a vs.length), .int (cB a b)]] := by
    have e := callB_choose T a b vs.length (by omega) (by omega) 0 [.lst [.int a, .int b]] rfl
    have q := cD_lo a b vs.length (by omega)
    simp [oneF, fnOf, xRet, xOp, xVar, xCallB, xCons, xNil, xCB, gLen, Res.bind, Res.bindL, Res.bindS, ResL.bind, ResL.bindL, Res.ofO, Res.ofP, e, lstOf, gIx, atV, q, hv]
  unfold callB
  simp only [hk]
  rw [if_pos (by simp [pureVs, pureV, hp]), e]
  have hpv := pureVs_at hp hv
  simp [hpv, pureVs, pureV]
theorem callB_oneT (T : Nat → List Str) (a b : Int) (vs : List Val) (v : Val) (hp : pureVs vs = true) (h0 : 0 < vs.length) (h1 : vs.length < 1073741824) (hv : vs[(cD a b vs.length).toNat]? = some v) (k : Nat) (h : Hh) (hk : h[k]? = some (.lst [.int a, .int b])) :
    callB T (oneF T) [.ref k, .tup vs] h = .ok v (h.set k (.lst [.int (cA a vs.length), .int (cB a b)])) := by
  have e : oneF T [.lst [.int a, .int b]] [.ref 0, .tup vs] = .ok v [.lst [.int (cA a vs.length), .int (cB a b)]] := by
    have e := callB_choose T a b vs.length (by omega) (by omega) 0 [.lst [.int a, .int b]] rfl
    have q := cD_lo a b vs.length (by omega)
    simp [oneF, fnOf, xRet, xOp, xVar, xCallB, xCons, xNil, xCB, gLen, Res.bind, Res.bindL, Res.bindS, ResL.bind, ResL.bindL, Res.ofO, Res.ofP, e, lstOf, gIx, atV, q, hv]
  unfold callB
  simp only [hk]
  rw [if_pos (by simp [pureVs, pureV, hp]), e]
  have hpv := pureVs_at hp hv
  simp [hpv, pureVs, pureV]
theorem set_last (h : Hh) (x y : Obj) : (h ++ [x]).set h.length y = h ++ [y] := by
  rw [List.set_append_right _ _ (Nat.le_refl _)]; simp
/-- loops that only go on -/
theorem for_all {body : Val → Sg → Hh → ResS} {P : Sg → Prop} : ∀ (vs : List Val), (∀ v, v ∈ vs → ∀ sg h, P sg → ∃ sg' h', body v sg h = .next sg' h' ∧ P sg') → ∀ sg h, P sg → ∃ sg' h', forItems body vs sg h = .next sg' h' ∧ P sg'
  | [], _, sg, h, p => ⟨sg, h, rfl, p⟩
  | v :: r, hb, sg, h, p => by
    obtain ⟨sg1, h1, e, p1⟩ := hb v (by simp) sg h p
    obtain ⟨sg2, h2, e2, p2⟩ := for_all r (fun u hu => hb u (by simp [hu])) sg1 h1 p1
    refine ⟨sg2, h2, ?_, p2⟩
    unfold forItems
    rw [e]
    exact e2
theorem rng_mem : ∀ (n : Nat) (lo : Int) (v : Val), v ∈ rng lo n → ∃ i : Nat, i < n ∧ v = .int (lo + i)
  | 0, lo, v, h => by simp [rng] at h
  | n + 1, lo, v, h => by
    simp [rng] at h
    rcases h with h | h
    · exact ⟨0, by omega, by simp [h]⟩
    · obtain ⟨i, hi, e⟩ := rng_mem n (lo + 1) v h
      exact ⟨i + 1, by omega, by rw [e]; congr 1; omega⟩
theorem law_loop {m : Nat} {cnt : Lx} {body : Sx} {ns : List Int} (hc : ∀ sg, ∃ j : Int, cnt (some (.lst (ns.map Val.int)) :: sg) [] = .ok [.int j] [] ∧ small62 j = true)
    (hb : ∀ (k : Nat) r h, r.length = m → ∃ r' h', body (some (.lst (ns.map Val.int)) :: some (.int k) :: r) h = .next (some (.lst (ns.map Val.int)) :: some (.int k) :: r') h' ∧ r'.length = m) :
    ∃ h', fnOf 1 (m + 2) (xSeq (xFor (xIRng1 cnt) (gN 1) body) (xRet (xC (.bl true)))) [] [.lst (ns.map Val.int)] = .ok (.bl true) h' := by
  obtain ⟨j, e, hs⟩ := hc (List.replicate (m + 1) none)
  obtain ⟨sg', h', e2, _⟩ := for_all (body := bodyOf (gN 1) body) (P := fun sg => ∃ x r, sg = some (.lst (ns.map Val.int)) :: x :: r ∧ r.length = m) (rng 0 j.toNat) (fun v hv sg h ⟨x, r, es, hr⟩ => by
    obtain ⟨i, hi, ei⟩ := rng_mem _ _ _ hv
    obtain ⟨r', h', e, hr'⟩ := hb i r h hr
    refine ⟨_, h', ?_, some (.int i), r', rfl, hr'⟩
    subst es ei
    simpa [bodyOf, gN, ResG.bindS] using e) (some (.lst (ns.map Val.int)) :: List.replicate (m + 1) none) [] ⟨none, List.replicate m none, rfl, by simp⟩
  refine ⟨h', fnOf_r rfl ((xSeq_n (sg1 := sg') (h1 := h') ?_).trans rfl)⟩
  show xFor (xIRng1 cnt) (gN 1) body (some (.lst (ns.map Val.int)) :: List.replicate (m + 1) none) [] = _
  unfold xFor xIRng1
  rw [e]
  simp only [hs, if_true]
  exact e2
end Py

namespace Py
open PySem PySem.Spec PyProof.Rows L2
section
variable {T : Tb} {K : PySem.W.Frag}
/-! ### texts: str(n), +, slices, join, f-strings -/
def dec (i : Int) : List Nat := (Str.ofString (toString i)).cps.toList
theorem dec_str (i : Int) : (⟨(dec i).toArray⟩ : Str) = Str.ofString (toString i) := by unfold dec; simp
def okDec (i : Int) : Bool := decide (i.natAbs < 1000000000000000000000000)
theorem okDec_log {i : Int} (h : okDec i = true) : i.natAbs.log2 < 1920 := by
  have h := of_decide_eq_true h
  by_cases h0 : i.natAbs = 0
  · rw [h0]; decide
  · rw [Nat.log2_lt h0]
    exact Nat.lt_trans h (by decide +kernel)
theorem str_cat (s t : List Nat) : (⟨s.toArray⟩ : Str) ++ ⟨t.toArray⟩ = ⟨(s ++ t).toArray⟩ := by
  show (⟨s.toArray ++ t.toArray⟩ : Str) = _
  simp
theorem str_len (s : List Nat) : (⟨s.toArray⟩ : Str).length = s.length := by show s.toArray.size = _; simp
/-- a + b of ints, texts, tuples -/
def gPlus : G2 := fun h v u => match v, u with
  | .int i, .int j => some (.int (i + j))
  | .str s, .str t => if s.length + t.length ≤ 1000000 then some (.str (s ++ t)) else none
  | .tup xs, .tup ys => if xs.length + ys.length ≤ 1000000 then some (.tup (xs ++ ys)) else none
  | _, _ => none
def rPlus (K : PySem.W.Frag) : R2 := fun x y H Q => rI0 (fun i j => .int (i + j)) x y H Q ∨ (fun x y H Q => (∃ i j, x = V.str i ∧ y = V.str j ∧ i.length + j.length ≤ sizeLine ∧ Q (V.str (i ++ j)) H) ∨ rCatA K x y H Q) x y H Q
theorem op_plus {X : Cx} : OpR X (binaryOp .Add) (rPlus X.K) := OpR.or op_add (OpR.or op_add_str op_catA)
theorem lift_plus : Lift2 T K (rPlus K) gPlus := by
  intro io h F H v u x y z Q sr vr ur e q
  unfold gPlus at e
  split at e
  · cases e; cases vr; cases ur
    exact .inl ⟨_, _, rfl, rfl, q F H _ .refl sr (.int _)⟩
  · rename_i s t
    split at e
    · rename_i hz
      cases e; cases vr; cases ur
      refine .inr (.inl ⟨_, _, rfl, rfl, by rw [str_len, str_len]; exact sizeOk hz, ?_⟩)
      rw [str_cat]
      exact q F H _ .refl sr (.str _)
    · cases e
  · rename_i xs ys
    split at e
    · rename_i hz
      cases e
      cases vr with
      | @tup _ a us sa ra =>
        cases ur with
        | @tup _ b ws sb rb =>
          refine .inr (.inr ⟨a, b, us, ws, rfl, rfl, sqT_mono sr.sub sa, sqT_mono sr.sub sb, by rw [← ra.length, ← rb.length]; exact sizeOk hz, fun e => ?_, fun _ e => ?_, fun _ _ p hp => ?_⟩)
          · subst e; cases ra
            exact q F H _ .refl sr (.tup sb rb)
          · subst e; cases rb
            exact q F H _ .refl sr (by rw [List.append_nil]; exact .tup sa ra)
          · exact q _ _ _ (sr.allocStep hp _) (sr.alloc hp _) (.tup (.inl (.inl upd_same)) ((ra.append rb).step (sr.allocStep hp (.tup (us ++ ws)))))
    · cases e
  · cases e
/-! ### slices -/
def cutL {α : Type} (xs : List α) (lo hi : Option Int) : List α := (xs.drop (HT.sIx xs.length 0 lo)).take (HT.sIx xs.length xs.length hi - HT.sIx xs.length 0 lo)
theorem VRs.cut {io : Nat → Addr} {n : Nat} {F : Hp} {vs : List Val} {xs : List V} (r : VRs T K io n F vs xs) (lo hi : Option Int) : VRs T K io n F (cutL vs lo hi) (cutV xs lo hi) := by
  unfold cutL cutV
  rw [r.length]
  exact (r.drop _).take _
theorem cutL_all {α : Type} {xs : List α} {lo hi : Option Int} (h : HT.sIx xs.length 0 lo = 0 ∧ HT.sIx xs.length xs.length hi = xs.length) : cutL xs lo hi = xs := by
  unfold cutL
  rw [h.1, h.2]
  simp
def partOf : Option Val → Option (Option Int)
  | none => some none
  | some (.int i) => some (some i)
  | _ => none
abbrev Ox := Sg → Hh → Option (Option Val × Hh)
/-- a slice's end: left out, or an expression -/
def oNone : Ox := fun _ h => some (none, h)
def oSome (e : Ex) : Ox := fun sg h => match e sg h with
  | .ok v h1 => some (some v, h1)
  | _ => none
def slV (h : Hh) (v : Val) (lo hi : Option Int) : Option Val := match v with
  | .str s => if s.length ≤ 1000000 then some (.str (cutL s lo hi)) else none
  | .tup xs => some (.tup (cutL xs lo hi))
  | v => (match lstOf h v with
    | some xs => some (.lst (cutL xs lo hi))
    | none => none)
def rSl (K : PySem.W.Frag) : V → Option Int → Option Int → Hp → VK → Prop := fun x lo hi H Q => rSlS x lo hi H Q ∨ (fun x lo hi H Q => rSlA K x lo hi H Q ∨ rSlL K x lo hi H Q) x lo hi H Q
theorem sl_any {X : Cx} : SlR X (rSl X.K) := SlR.or sl_str (SlR.or sl_tupA sl_list)
theorem slV_ok {io : Nat → Addr} {h : Hh} {F H : Hp} {v z : Val} {x : V} {lo hi : Option Int} {Q : VK} (sr : SR T K io h F H) (vr : VR T K io h.length F v x) (e : slV h v lo hi = some z)
    (q : ∀ F' H' x', Step io h.length F H io h.length F' H' → SR T K io h F' H' → VR T K io h.length F' z x' → Q x' H') : rSl K x lo hi H Q := by
  unfold slV at e
  have viaL : (match lstOf h v with
    | some xs => some (Val.lst (cutL xs lo hi))
    | none => none) = some z → rSl K x lo hi H Q := fun e => by
    cases el : lstOf h v with
    | none => rw [el] at e; cases e
    | some vs =>
      rw [el] at e
      cases e
      obtain ⟨a, xs, rfl, sq, rr⟩ := lstOf_ok sr vr el
      exact .inr (.inr ⟨a, xs, rfl, sq, fun p hp => q _ _ _ (sr.allocStep hp _) (sr.alloc hp _) (.lst (.inl (.inl upd_same)) ((rr.cut lo hi).step (sr.allocStep hp (.lst (cutV xs lo hi)))))⟩)
  cases vr with
  | str s =>
    dsimp only at e
    split at e
    · rename_i hz
      cases e
      refine .inl ⟨_, rfl, by rw [str_len]; exact sizeOk hz, ?_⟩
      have ec : cutS ⟨s.toArray⟩ lo hi = ⟨(cutL s lo hi).toArray⟩ := by
        unfold cutS cutL
        rw [str_len]
      rw [ec]
      exact q F H _ .refl sr (.str _)
    · cases e
  | @tup vs a xs sq rr =>
    cases e
    refine .inr (.inl ⟨a, xs, rfl, sqT_mono sr.sub sq, fun w => ?_, fun w p hp => ?_⟩)
    · refine q F H _ .refl sr ?_
      rw [cutL_all (by rw [rr.length]; exact w)]
      exact .tup sq rr
    · exact q _ _ _ (sr.allocStep hp _) (sr.alloc hp _) (.tup (.inl (.inl upd_same)) ((rr.cut lo hi).step (sr.allocStep hp (.tup (cutV xs lo hi)))))
  | ref k hk => exact viaL e
  | lst sq rr => exact viaL e
  | non => exact viaL e
  | bl b => exact viaL e
  | int j => exact viaL e
  | obj a b c d => exact viaL e
  | glo g => exact viaL e
  | dct _ _ _ _ _ => exact viaL e
def xSlice (e : Ex) (lo hi : Ox) : Ex := fun sg h => (e sg h).bind fun v h1 => match lo sg h1 with
  | some (a, h2) => (match hi sg h2 with
    | some (b, h3) => (match partOf a, partOf b with
      | some l, some u => .ofO (slV h3 v l u) h3
      | _, _ => .bad)
    | none => .bad)
  | none => .bad
end
section
variable {T : Tb} {X : Cx} {W : WX} {pos : Pos}
/-- what a slice's end reads -/
def JO (T : Tb) (X : Cx) (e : Option Expr) (f : Ox) : Prop := ∃ t, PO X e t ∧ ∀ σ H io h F sg a h1 l (R : Option Int → Hp → Prop), SR T X.K io h F H → RSt T X.K io h.length F sg σ → f sg h = some (a, h1) → partOf a = some l →
  (∀ io1 F1 H1, Step io h.length F H io1 h1.length F1 H1 → SR T X.K io1 h1 F1 H1 → R l H1) → t σ H R
theorem jo_none : JO T X none oNone := ⟨_, po_none, fun σ H io h F sg a h1 l R sr rs e ea q => by
  cases e
  cases ea
  exact q io F H .refl sr⟩
theorem jo_some {e : Expr} {f : Ex} (he : JE T X Wno e f) : JO T X (some e) (oSome f) := ⟨_, po_some he, fun σ H io h F sg a h1 l R sr rs e ea q => by
  unfold oSome at e
  cases ef : f sg h with
  | bad => rw [ef] at e; cases e
  | exc c fs h' => rw [ef] at e; cases e
  | ok v h' =>
    rw [ef] at e
    cases e
    refine ⟨io, h, F, sg, sr, rs, ?_⟩
    rw [ef]
    intro io1 F1 H1 x st sr1 vr
    cases vr with
    | int i => cases ea; exact ⟨i, rfl, q io1 F1 H1 st sr1⟩
    | _ => cases ea⟩
theorem je_slice {e : Expr} {fe : Ex} {lo hi : Option Expr} {fl fh : Ox} {p2 : Pos} (he : JE T X W e fe) (hl : JO T X lo fl) (hh : JO T X hi fh) : JE T X W (.Subscript e (.Slice lo hi none p2) pos) (xSlice fe fl fh) := by
  obtain ⟨tl, pl, ql⟩ := hl
  obtain ⟨th, ph, qh⟩ := hh
  refine pe_imp (pe_slice sl_any he pl ph) fun σ H Q ⟨io, h, F, sg, sr, rs, w⟩ => ⟨io, h, F, sg, sr, rs, Wants.bind w fun v h1 io1 F1 H1 x st sr1 vr w1 => ?_⟩
  cases el : fl sg h1 with
  | none => rw [el] at w1; exact w1.elim
  | some z =>
    obtain ⟨a, h2⟩ := z
    rw [el] at w1
    dsimp only at w1
    cases eh : fh sg h2 with
    | none => rw [eh] at w1; exact w1.elim
    | some z =>
      obtain ⟨b, h3⟩ := z
      rw [eh] at w1
      dsimp only at w1
      cases pa : partOf a with
      | none => rw [pa] at w1; exact w1.elim
      | some l =>
        cases pb : partOf b with
        | none => rw [pa, pb] at w1; exact w1.elim
        | some u =>
          rw [pa, pb] at w1
          dsimp only at w1
          refine ql σ H1 io1 h1 F1 sg a h2 l _ sr1 (rs.step st) el pa fun io2 F2 H2 st2 sr2 => ?_
          refine qh σ H2 io2 h2 F2 sg b h3 u _ sr2 ((rs.step st).step st2) eh pb fun io3 F3 H3 st3 sr3 => ?_
          cases es : slV h3 v l u with
          | none => rw [es] at w1; exact w1.elim
          | some z =>
            rw [es] at w1
            refine slV_ok sr3 ((vr.step st2).step st3) es fun F' H' x' st4 sr4 vr4 => ?_
            exact w1 io3 F' H' x' ((st2.trans sr2 st3).trans sr3 st4) sr4 vr4
end
end Py

namespace Py
open PySem PySem.Spec PyProof.Rows L2
section
variable {T : Tb} {X : Cx} {W : WX} {pos : Pos}
/-! ### f-strings -/
def fmtV (h : Hh) : Val → Option Val
  | .str s => if s.length ≤ 1000000 then some (.str s) else none
  | .int i => if okDec i = true then some (.str (dec i)) else none
  | _ => none
theorem je_fmt {e : Expr} {f : Ex} (he : JE T X W e f) : JE T X W (.FormattedValue e (-1) none pos) (xUn fmtV f) := by
  refine pe_imp (pe_fmt he) fun σ H Q ⟨io, h, F, sg, sr, rs, w⟩ => ⟨io, h, F, sg, sr, rs, Wants.bind w fun v h1 io1 F1 H1 x st sr1 vr w1 => ?_⟩
  cases vr with
  | str s =>
    unfold fmtV at w1; dsimp only at w1
    by_cases hz : s.length ≤ 1000000
    · rw [if_pos hz] at w1
      exact .inl ⟨_, rfl, by rw [str_len]; exact sizeOk hz, w1 io1 F1 H1 _ .refl sr1 (.str s)⟩
    · rw [if_neg hz] at w1; exact w1.elim
  | int i =>
    unfold fmtV at w1; dsimp only at w1
    by_cases hz : okDec i = true
    · rw [if_pos hz] at w1
      refine .inr ⟨i, rfl, okDec_log hz, ?_⟩
      rw [← dec_str]
      exact w1 io1 F1 H1 _ .refl sr1 (.str _)
    · rw [if_neg hz] at w1; exact w1.elim
  | _ => exact w1.elim
def xJ : List Ex → List Nat → Ex
  | [], acc => fun _ h => .ok (.str acc) h
  | f :: r, acc => fun sg h => (f sg h).bind fun v h1 => match v with
    | .str s => if (acc ++ s).length ≤ 1000000 then xJ r (acc ++ s) sg h1 else .bad
    | _ => .bad
def JJ (T : Tb) (X : Cx) (W : WX) (es : List Expr) (fs : List Ex) : Prop := ∃ ts, PJ X es ts ∧ ∀ σ H io h F sg acc Q, SR T X.K io h F H → RSt T X.K io h.length F sg σ →
  Wants T X.K io h.length F H (fun c d H' => W c d σ H') Q (xJ fs acc sg h) → tJs ts ⟨acc.toArray⟩ σ H fun out H1 => Q (V.str out) H1
theorem jj_nil : JJ T X W [] [] := ⟨[], .nil, fun σ H io h F sg acc Q sr rs w => w io F H _ .refl sr (.str acc)⟩
theorem jj_cons {e : Expr} {es : List Expr} {f : Ex} {fs : List Ex} (he : JE T X W e f) (hr : JJ T X W es fs) : JJ T X W (e :: es) (f :: fs) := by
  obtain ⟨ts, p, q⟩ := hr
  refine ⟨_, .cons he p, fun σ H io h F sg acc Q sr rs w => ?_⟩
  unfold tJs
  refine ⟨io, h, F, sg, sr, rs, Wants.bind w fun v h1 io1 F1 H1 x st sr1 vr w1 => ?_⟩
  cases vr with
  | str s =>
    dsimp only at w1
    by_cases hz : (acc ++ s).length ≤ 1000000
    · rw [if_pos hz] at w1
      refine ⟨_, rfl, ?_, ?_⟩
      · rw [str_cat, str_len]; exact sizeOk hz
      · rw [str_cat]
        exact q σ H1 io1 h1 F1 sg (acc ++ s) Q sr1 (rs.step st) w1
    · rw [if_neg hz] at w1; exact w1.elim
  | _ => exact w1.elim
theorem je_joined {v1 v2 : Expr} {rest : List Expr} {fs : List Ex} (h : JJ T X W (v1 :: v2 :: rest) fs) : JE T X W (.JoinedStr (v1 :: v2 :: rest) pos) (xJ fs []) := by
  obtain ⟨ts, p, q⟩ := h
  exact pe_imp (pe_joined p) fun σ H Q ⟨io, h, F, sg, sr, rs, w⟩ => q σ H io h F sg [] Q sr rs w
theorem je_joined1 {e : Expr} {f : Ex} (he : JE T X W e f) : JE T X W (.JoinedStr [e] pos) f := pe_joined1 he

/-! ### methods of texts -/
def txts : List Val → Option (List Str)
  | [] => some []
  | .str s :: r => (txts r).map fun l => (⟨s.toArray⟩ : Str) :: l
  | _ => none
theorem txts_ok {K : PySem.W.Frag} {io : Nat → Addr} {n : Nat} {F : Hp} : ∀ {vs : List Val} {xs : List V} {l : List Str}, VRs T K io n F vs xs → txts vs = some l → xs = l.map V.str
  | _, _, _, .nil, e => by cases e; rfl
  | _, _, l, .cons (v := v) a t, e => by
    cases a with
    | str s =>
      unfold txts at e
      obtain ⟨l', e1, rfl⟩ := map_some e
      rw [txts_ok t e1]
      rfl
    | _ => cases e
def unS (s : Str) : List Nat := s.cps.toList
theorem unS_eq (s : Str) : (⟨(unS s).toArray⟩ : Str) = s := by unfold unS; simp
theorem VR.unS {K : PySem.W.Frag} {io : Nat → Addr} {n : Nat} {F : Hp} (s : Str) : VR T K io n F (.str (Py.unS s)) (.str s) := by
  have h := VR.str (T := T) (K := K) (io := io) (n := n) (F := F) (Py.unS s)
  rw [unS_eq] at h
  exact h
theorem VRs.unS {K : PySem.W.Frag} {io : Nat → Addr} {n : Nat} {F : Hp} : ∀ l : List Str, VRs T K io n F (l.map fun s => Val.str (Py.unS s)) (l.map V.str)
  | [] => .nil
  | s :: r => .cons (VR.unS s) (VRs.unS r)
def sqOf (h : Hh) (v : Val) : Option (List Val) := match v with
  | .tup xs => some xs
  | v => lstOf h v
theorem sqOf_ok {K : PySem.W.Frag} {io : Nat → Addr} {F H : Hp} {h : Hh} {v : Val} {x : V} {vs : List Val} (sr : SR T K io h F H) (r : VR T K io h.length F v x) (e : sqOf h v = some vs) : ∃ a xs, x = .ref a ∧ (SqL K H a xs ∨ SqT K H a xs) ∧ VRs T K io h.length F vs xs := by
  have viaL : lstOf h v = some vs → ∃ a xs, x = .ref a ∧ (SqL K H a xs ∨ SqT K H a xs) ∧ VRs T K io h.length F vs xs := fun e => by
    obtain ⟨a, xs, rfl, sq, rr⟩ := lstOf_ok sr r e
    exact ⟨a, xs, rfl, .inl sq, rr⟩
  unfold sqOf at e
  cases r with
  | @tup us a xs sq rr => cases e; exact ⟨a, xs, rfl, .inr (sqT_mono sr.sub sq), rr⟩
  | _ => exact viaL e
def gJoin : GM := fun h v vs => match v, vs with
  | .str a, [u] => (match sqOf h u with
    | some ws => (match txts ws with
      | some l => if (l.map fun x => x.length).sum + l.length * a.length ≤ 1000000 then some (.str (unS (Txt.join ⟨a.toArray⟩ l)), h) else none
      | none => none)
    | none => none)
  | _, _ => none
theorem one_of {K : PySem.W.Frag} {io : Nat → Addr} {n : Nat} {F : Hp} {u : Val} {xs : List V} (r : VRs T K io n F [u] xs) : ∃ x, xs = [x] ∧ VR T K io n F u x := by
  cases r with
  | cons a t => cases t; exact ⟨_, rfl, a⟩
theorem lift_join {K : PySem.W.Frag} : LiftM T K (fun x xs H Q => ∃ a p ys, x = V.str a ∧ xs = [V.ref p] ∧ (SqL K H p (ys.map V.str) ∨ SqT K H p (ys.map V.str)) ∧ (ys.map fun x => x.length).sum + ys.length * a.length ≤ 16777216 ∧ Q (V.str (Txt.join a ys)) H) gJoin := by
  intro io h F H v x vs xs z h' Q sr vr rr e q
  unfold gJoin at e
  split at e
  · rename_i a u
    cases es : sqOf h u with
    | none => rw [es] at e; cases e
    | some ws =>
      rw [es] at e
      dsimp only at e
      cases el : txts ws with
      | none => rw [el] at e; cases e
      | some l =>
        rw [el] at e
        dsimp only at e
        split at e
        · rename_i hz
          cases e
          obtain ⟨y, rfl, r1⟩ := one_of rr
          obtain ⟨p, ys, rfl, sq, r2⟩ := sqOf_ok sr r1 es
          have ey := txts_ok r2 el
          subst ey
          cases vr
          exact ⟨_, p, l, rfl, rfl, sq, by rw [str_len]; omega, q io F H _ .refl sr (VR.unS _)⟩
        · cases e
  · cases e
def gSplit : GM := fun h v vs => match v, vs with
  | .str a, [.str b] => if a.length ≤ 1000000 ∧ b ≠ [] then some (.lst ((Txt.split ⟨a.toArray⟩ ⟨b.toArray⟩).map fun s => Val.str (unS s)), h) else none
  | _, _ => none
theorem sizeOk2 {n : Nat} (h : n ≤ 1000000) : n + 2 ≤ sizeLine := by rw [sizeLine_eq]; omega
theorem ne_len {b : List Nat} (h : b ≠ []) : ((⟨b.toArray⟩ : Str).length == 0) = false := by
  rw [str_len]
  cases b with
  | nil => exact absurd rfl h
  | cons c r => rfl
theorem lift_split {K : PySem.W.Frag} : LiftM T K (fun x xs H Q => ∃ a b, x = V.str a ∧ xs = [V.str b] ∧ (b.length == 0) = false ∧ a.length + 2 ≤ sizeLine ∧ rNewStrs (Txt.split a b) H Q) gSplit := by
  intro io h F H v x vs xs z h' Q sr vr rr e q
  unfold gSplit at e
  split at e
  · rename_i a b
    split at e
    · rename_i hz
      cases e
      obtain ⟨y, rfl, r1⟩ := one_of rr
      cases vr
      cases r1
      refine ⟨_, _, rfl, rfl, ne_len hz.2, by rw [str_len]; exact sizeOk2 hz.1, fun p hp => ?_⟩
      exact q io _ _ _ (sr.allocStep hp _) (sr.alloc hp _) (.lst (.inl (.inl upd_same)) (VRs.unS _))
    · cases e
  · cases e
def gPart : GM := fun h v vs => match v, vs with
  | .str a, [.str b] => if a.length ≤ 1000000 ∧ b ≠ [] then (let t := Txt.partition ⟨a.toArray⟩ ⟨b.toArray⟩; some (.tup [.str (unS t.1), .str (unS t.2.1), .str (unS t.2.2)], h)) else none
  | _, _ => none
theorem lift_part {K : PySem.W.Frag} : LiftM T K (fun x xs H Q => ∃ a b, x = V.str a ∧ xs = [V.str b] ∧ (b.length == 0) = false ∧ a.length ≤ sizeLine ∧ ∀ p, H p = none → Q (.ref p) (upd H p (.tup [.str (Txt.partition a b).1, .str (Txt.partition a b).2.1, .str (Txt.partition a b).2.2]))) gPart := by
  intro io h F H v x vs xs z h' Q sr vr rr e q
  unfold gPart at e
  split at e
  · rename_i a b
    split at e
    · rename_i hz
      cases e
      obtain ⟨y, rfl, r1⟩ := one_of rr
      cases vr
      cases r1
      refine ⟨_, _, rfl, rfl, ne_len hz.2, by rw [str_len]; exact sizeOk hz.1, fun p hp => ?_⟩
      exact q io _ _ _ (sr.allocStep hp _) (sr.alloc hp _) (.tup (.inl (.inl upd_same)) (.cons (VR.unS _) (.cons (VR.unS _) (.cons (VR.unS _) .nil))))
    · cases e
  · cases e
def gEnds : GM := fun h v vs => match v, vs with
  | .str a, [.str b] => some (.bl (Txt.endswith ⟨a.toArray⟩ ⟨b.toArray⟩), h)
  | _, _ => none
theorem lift_ends {K : PySem.W.Frag} : LiftM T K (fun x xs H Q => ∃ a b, x = V.str a ∧ xs = [V.str b] ∧ Q (.bl (Txt.endswith a b)) H) gEnds := by
  intro io h F H v x vs xs z h' Q sr vr rr e q
  unfold gEnds at e
  split at e
  · cases e
    obtain ⟨y, rfl, r1⟩ := one_of rr
    cases vr
    cases r1
    exact ⟨_, _, rfl, rfl, q io F H _ .refl sr (.bl _)⟩
  · cases e
end
end Py

namespace Py
open PySem PySem.Spec PyProof.Rows L2
section
variable {T : Tb} {X : Cx} {W : WX} {pos : Pos}
/-! ### the calls that a class's own words make: never an exception -/
abbrev EF : XK := fun _ _ _ => False
theorem passNo (X : Cx) : Passes (L2.CX X.prog X.w) X EF := fun pins σ H s e s' I hc => by
  obtain ⟨_, _, _, _, _, _, _, _, _, _, _, _, z⟩ := hc
  exact z.elim
def noX : Res → Res
  | .ok v h => .ok v h
  | _ => .bad
theorem noX_ok {K : PySem.W.Frag} {io : Nat → Addr} {n : Nat} {F H : Hp} {V1 V2 : XK} {Q : VK} {r : Res} (w : Wants T K io n F H V1 Q (noX r)) : Wants T K io n F H V2 Q r := by
  cases r with
  | ok v h => exact w
  | exc c fs h => exact w.elim
  | bad => exact w
/-! ### properties -/
theorem get_propG {C p g a dx : Addr} {m : Str} {k : Nat} {fd : FuncData} {ps : List Str} {sp : Sp} {fs : List (Str × V)} {pins : List (Addr × PySem.Obj)} {σ : L2.St} {H : Hp} {s : Shared} {Q : VK} {b : Bool} {E' : Value → Shared → Prop} (I : L2.Inv X pins σ H s) (ea : H a = some (.ins C dx fs)) (c : Cls X.K C) (hp : PropOf X.K C m p g)
    (F : FnG X.prog X.w X.K X.mg X.base (L2.CX X.prog X.w) k g fd ps sp) (hr : RoomG (k + 1) X.A) (hb : Binds X.K fd ps []) (h : sp [.ref a] H Q EF) : wpAny (model X.prog X.w) X.A (getAttr (.ref a) m b) (EP X pins σ Q) E' s := by
  obtain ⟨od, J, _⟩ := (ins_get I.hok ea).choose_spec.1.look
  obtain ⟨rest, hrec⟩ := hp.rec_
  have I2 := I.tok (s.toks + 1)
  have one : ([Value.ref a] ++ []).length = ps.length := F.len _ _ _ _ h
  have isC : (PySem.W.clsIn X.K C).isSome = true := by
    obtain ⟨cd, hc, _⟩ := PySem.W.any_some c.hd
    simp [hc]
  refine PySem.W.get_bind I.kIn J (PySem.W.plainGet_of (c.get m)).1 (PySem.W.findObj_data isC hp.at_ hp.get hp.tak) (PySem.W.plainGet_of (c.get m)).2 (wpAny_call (PySem.W.prop_get (s := { s with toks := s.toks + 1 }) I.kIn hrec ?_))
  refine codeAny_mono (F.run X.A.in1 X.stack { s with toks := s.toks + 1 } H ⟨[.ref a], []⟩ [.ref a] [.ref a] Q EF hr.in1 I2.env0.in1 (hb _ [.ref a] I2.kIn one) (.cons rfl .nil) h) fun res s' z => ?_
  match res, z with
  | .error er, z => exact False.elim (by obtain ⟨_, _, _, _, _, _, _, _, _, _, _, _, z⟩ := z; exact z)
  | .ok (.ret u), z =>
    obtain ⟨v, H', I3, rv, q3⟩ := I2.after z
    show wpAny _ _ (handedOut u) _ _ _
    rw [PySem.W.handedOut_of (handed_of rv)]
    exact wpAny_pure ⟨v, H', I3, rv, q3⟩
  | .ok .next, z => exact False.elim z
  | .ok .brk, z => exact False.elim z
  | .ok .cont, z => exact False.elim z
theorem pe_propG {C p g : Addr} {m : Str} {k : Nat} {fd : FuncData} {ps : List Str} {sp : Sp} {e : Expr} {ta : TE} (he : PE X e ta) (c : Cls X.K C) (hp : PropOf X.K C m p g) (F : FnG X.prog X.w X.K X.mg X.base (L2.CX X.prog X.w) k g fd ps sp) (hr : RoomG (k + 1) X.A) (hb : Binds X.K fd ps [])
    (hab : attributeBase e m X.env (eval e X.env) = eval e X.env) : PE X (.Attribute e m pos) (tProp C sp [] EF ta) :=
  ⟨fun pins s σ H Q I h => attr_of hab (thn (he.run pins s σ H _ I h) fun u s1 ⟨x, H1, I1, rx, a, dx, fs, ex, ea, q⟩ => by
    subst ex
    cases (show u = Value.ref a from rx)
    exact get_propG I1 ea c hp F hr hb q)⟩
def xProp (T : Nat → List Str) (c : Nat) (f : Fx) (e : Ex) : Ex := fun sg h => (e sg h).bind fun v h1 => if isA c h1 v = true then noX (callP T f [v] h1) else .bad
theorem je_prop {c : Nat} {m : Str} {p g : Addr} {k : Nat} {ps : List Str} {f : Fx} {e : Expr} {fe : Ex} (he : JE T X W e fe) (cf : Cf T X.K c) (hp : PropOf X.K (He.ga X.K (T.cn c)) m p g) (C : CalleeX T X k g ps f []) (hr : RoomG (k + 1) X.A)
    (hmf : m ∉ T.fn c) (hab : attributeBase e m X.env (eval e X.env) = eval e X.env := by rfl) : JE T X W (.Attribute e m pos) (xProp T.fn c f fe) := by
  obtain ⟨fd, ds, G, kp, hv, hb⟩ := C
  cases hv
  refine pe_imp (pe_propG he cf.cls hp G hr hb hab) fun σ H Q ⟨io, h, F, sg, sr, rs, w⟩ => ⟨io, h, F, sg, sr, rs, Wants.bind w fun v h1 io1 F1 H1 x st sr1 vr w1 => ?_⟩
  by_cases hi : isA c h1 v = true
  · rw [if_pos hi] at w1
    obtain ⟨a, dx, fs, ex, ea, l⟩ := isA_ok sr1 vr hi m hmf
    subst ex
    exact ⟨a, dx, fs, rfl, ea, callP_ok sr1 (.cons vr .nil) (noX_ok w1)⟩
  · rw [if_neg hi] at w1; exact w1.elim

/-! ### str(x) of ints, texts and own objects -/
abbrev STab := List (Nat × Fx)
def strBack : Res → Option Val
  | .ok (.str s) _ => some (.str s)
  | _ => none
def strG (T : Nat → List Str) (tb : STab) (h : Hh) : Val → Option Val
  | .int i => if okDec i = true then some (.str (dec i)) else none
  | .str s => some (.str s)
  | .obj c fs => (match tb.lookup c with
    | some f => strBack (callP T f [.obj c fs] h)
    | none => none)
  | _ => none
def gStrT (T : Nat → List Str) (tb : STab) : GC := fun h vs => match vs with
  | [v] => (strG T tb h v).map fun z => (z, h)
  | _ => none
def StrOk (T : Tb) (X : Cx) (tb : STab) : Prop := ∃ r, CallR X (.type "str") r ∧ LiftC T X.K r (gStrT T.fn tb)
theorem gStrT_one {K : PySem.W.Frag} {io : Nat → Addr} {n : Nat} {F : Hp} {h h' : Hh} {tb : STab} {vs : List Val} {xs : List V} {z : Val} (r : VRs T K io n F vs xs) (e : gStrT T.fn tb h vs = some (z, h')) : ∃ v x, vs = [v] ∧ xs = [x] ∧ VR T K io n F v x ∧ strG T.fn tb h v = some z ∧ h = h' := by
  cases r with
  | nil => cases e
  | cons a t =>
    cases t with
    | cons b u => cases e
    | nil =>
      unfold gStrT at e
      obtain ⟨z', e1, e2⟩ := map_some e
      cases e2
      exact ⟨_, _, rfl, rfl, a, e1, rfl⟩
theorem str_nil : StrOk T X [] := ⟨_, CallR.or call_str_int SkE.call_str_str, by
  intro io h F H vs xs z h' Q sr rr e q
  obtain ⟨v, x, rfl, rfl, r, e1, rfl⟩ := gStrT_one rr e
  cases r with
  | int i =>
    unfold strG at e1
    dsimp only at e1
    split at e1
    · rename_i hz
      cases e1
      refine .inl ⟨i, rfl, okDec_log hz, ?_⟩
      rw [← dec_str]
      exact q io F H _ .refl sr (.str _)
    · cases e1
  | str s => cases e1; exact .inr ⟨_, rfl, q io F H _ .refl sr (.str s)⟩
  | _ => cases e1⟩
theorem call_strO {CXq : CXT} {k : Nat} {C f : Addr} {fd : FuncData} {ps : List Str} {sp : Sp} {E : XK} (F : FnG X.prog X.w X.K X.mg X.base CXq k f fd ps sp) (M : Meth X.K C "__str__" f) (hb : Binds X.K fd ps []) (hr : RoomG (k + 2) X.A) (hx : Passes CXq X E) :
    CallR X (.type "str") (fun xs H Q => ∃ a dx fs, xs = [.ref a] ∧ H a = some (.ins C dx fs) ∧ sp [.ref a] H (fun v H' => ∃ y, v = .str y ∧ Q v H') E) := by
  rintro pins s σ H xs us Q I vals ⟨a, dx, fs, rfl, ea, hsp⟩
  cases vals with
  | cons r0 t0 =>
  cases t0
  cases r0
  obtain ⟨mA, J, _⟩ := ins_get I.hok ea
  obtain ⟨od, J, _⟩ := J.look
  refine PySem.W.kso_call hr.in1.in1.units0 I.kIn J M.at_ M.fn ?_
  have hl := F.len _ _ _ _ hsp
  have r2 : Vals [V.ref a] [Value.ref a] := .cons rfl .nil
  refine wpAny_call (codeAny_mono (F.run X.A.in1.in1 X.stack s H ⟨[.ref a], []⟩ [.ref a] [.ref a] _ E hr.in1.in1 I.env0.in1.in1 (by
    have := hb s [.ref a] I.kIn (by simpa using hl)
    simpa using this) r2 hsp) fun r s' hq => ?_)
  cases r with
  | error er => exact hx pins σ H s er s' I hq
  | ok fl =>
    cases fl with
    | ret w =>
      obtain ⟨z, H', I', rz, y, ez, qz⟩ := I.after hq
      subst ez
      obtain ⟨t, rfl⟩ := id rz
      exact ⟨_, H', I', rz, qz⟩
    | next => exact hq.elim
    | brk => exact hq.elim
    | cont => exact hq.elim
theorem str_cons {c : Nat} {k : Nat} {f : Addr} {ps : List Str} {fx : Fx} {tb : STab} (C : CalleeX T X k f ps fx []) (M : Meth X.K (He.ga X.K (T.cn c)) "__str__" f) (hr : RoomG (k + 2) X.A) (h : StrOk T X tb) : StrOk T X ((c, fx) :: tb) := by
  obtain ⟨r, cr, lf⟩ := h
  obtain ⟨fd, ds, G, kp, hv, hb⟩ := C
  cases hv
  refine ⟨_, CallR.or (call_strO G M hb hr (passNo X)) cr, ?_⟩
  intro io h F H vs xs z h' Q sr rr e q
  obtain ⟨v, x, rfl, rfl, r1, e1, rfl⟩ := gStrT_one rr e
  have other : strG T.fn tb h v = some z → r [x] H Q := fun e2 => lf io h F H [v] [x] z h Q sr rr (by show (strG T.fn tb h v).map _ = _; rw [e2]; rfl) q
  cases r1 with
  | @obj cc us a dx ys q1 qd r2 hl =>
    by_cases hc : cc = c
    · subst hc
      unfold strG at e1
      simp only [List.lookup_cons_self] at e1
      refine .inl ⟨a, dx, _, rfl, sr.sub _ _ q1, ?_⟩
      have w : Wants T X.K io h.length F H EF (fun v H' => ∃ y, v = .str y ∧ Q v H') (callP T.fn fx [.obj cc us] h) := by
        cases ec : callP T.fn fx [.obj cc us] h with
        | bad => rw [ec] at e1; cases e1
        | exc c fs h' => rw [ec] at e1; cases e1
        | ok v h2 =>
          have eh := callP_heap ec
          subst eh
          rw [ec] at e1
          cases v with
          | str s =>
            cases e1
            intro io1 F1 H1 x1 st sr1 vr
            cases vr
            exact ⟨_, rfl, q io1 F1 H1 _ st sr1 (.str s)⟩
          | _ => cases e1
      exact callP_ok sr (.cons (.obj q1 qd r2 hl) .nil) w
    · refine .inr (other ?_)
      unfold strG at e1 ⊢
      have : (cc == c) = false := beq_false_of_ne hc
      simp only [List.lookup_cons, this] at e1
      exact e1
  | int i => exact .inr (other e1)
  | str s => exact .inr (other e1)
  | non => cases e1
  | bl b => cases e1
  | tup a b => cases e1
  | lst a b => cases e1
  | ref k hk => cases e1
  | glo g => cases e1
  | dct _ _ _ _ _ => cases e1
theorem je_strT {tb : STab} {e : Expr} {fl : Lx} {p : Pos} (h : StrOk T X tb) (hm : X.mg "str" = none) (ha : JA T X W [e] fl) (hg : Gl X "str" := by rfl) (he : starEach [e] X.env = (false, eval e X.env) :: starEach [] X.env := by rfl) (hpl : (backTo pos (starEach [] X.env)).any (·.1) = false := by rfl) :
    JE T X W (.Call (.Name "str" p) [e] [] pos) (xCB (gStrT T.fn tb) fl) := by
  obtain ⟨r, cr, lf⟩ := h
  exact je_callTy cr lf hm ha (hg := hg) (he := he) (hpl := hpl)
end
end Py

namespace Py
open PySem PySem.Spec PyProof.Rows L2 Builtin
section
variable {prog : Program} {w : World} {A : Around} {E : Value → Shared → Prop} {s : Shared} {K : PySem.W.Frag} {x C f : Addr} {ox : PySem.Obj} {od : Option PySem.Obj} {b : Value}
/-! ### x != y where the class says == alone -/
theorem ne_body {Q : PySem.Fin → Shared → Prop} (hu : A.units < cLine) (X : K.In s.heap) (I : PySem.W.InstAt s.heap x ox C od) (hs : PySem.W.findIn K (.ref C) "__eq__" = some (some (.ref f))) (hf : PySem.W.isFn K (.ref f) = true)
    (hc : wpAny (model prog w) A (call (.ref f) [.ref x, b]) (fun v s' => ∃ k, v = .bool k ∧ Q (.done (.ret (.bool (!k)))) s') E s) : wpAny (model prog w) A (Builtin.«object.__ne__» ⟨[.ref x, b], []⟩) Q E s := by
  unfold Builtin.«object.__ne__»
  repeat (first
    | with_reducible refine wpAny_cRoomFor hu ?_
    | (refine wpAny_bind (m := callSpecialIfBound? (.ref x) (Str.ofString "__eq__") [b]) (PySem.W.ifBound_K X I hs hf (wpAny_mono hc (fun r s' hr => by
          obtain ⟨k, rfl, hq⟩ := hr
          repeat (first | exact hq | exact wpAny_pure hq | exact wpAny_truthy_bool hq | (refine wpAny_bind (m := truthy (.bool _)) (wpAny_truthy_bool ?_)) | wp_step)) fun _ _ e => e)))
    | wp_step)
theorem ne_own {Q : Value → Shared → Prop} (hu : A.units + 1 < cLine) (X : K.In s.heap) (I : PySem.W.InstAt s.heap x ox C od) (hb : PySem.W.Looks (model prog w) s.heap (typeOf b) (.ref C)) (hn : PySem.W.findIn K (.ref C) "__ne__" = some (some (.builtin "object.__ne__")))
    (hs : PySem.W.findIn K (.ref C) "__eq__" = some (some (.ref f))) (hf : PySem.W.isFn K (.ref f) = true) (hob : PySem.W.mroIn K C (.type "object") = some true)
    (hc : wpAny (model prog w) A.in1 (call (.ref f) [.ref x, b]) (fun v s' => ∃ k, v = .bool k ∧ Q (.bool (!k)) s') E s) : wpAny (model prog w) A (richCompare .NotEq (.ref x) b) Q E s := by
  have cl : wpAny (model prog w) A (call (.builtin "object.__ne__") ([.ref x] ++ [b])) (fun v s' => ∃ k, v = .bool k ∧ Q v s') E s := by
    refine wpAny_call (codeAny_call_builtin F.cmp_object.ne.plain F.cmpEntry_ne (PySem.W.check_slot F.cmpKind_ne F.cmpSplit_ne (I.type.andThen (PySem.W.looks_mroIn X hob)) (F.cmpArgs_ne _ _) (ne_body (A := A.in1) hu X I hs hf (wpAny_mono hc (fun v s' hv => ?_) fun _ _ e => e))))
    obtain ⟨k, rfl, hq⟩ := hv
    exact ⟨k, rfl, _, rfl, hq⟩
  have one : wpAny (model prog w) A (tryCompare (.ref x) "__ne__" b) (fun r s' => ∃ v, r = some v ∧ Q v s') E s := by
    unfold tryCompare
    have fin : wpAny (model prog w) A (call (.builtin "object.__ne__") ([.ref x] ++ [b]) >>= fun v => pure (some v)) (fun r s' => wpAny (model prog w) A (match r with | some .notImplemented | none => pure none | some v => pure (some v)) (fun r s' => ∃ v, r = some v ∧ Q v s') E s') E s :=
      wpAny_bind (wpAny_mono cl (fun v s' ⟨k, ek, hq⟩ => wpAny_pure (by subst ek; exact wpAny_pure ⟨_, rfl, hq⟩)) fun _ _ e => e)
    refine wpAny_bind ?_
    simp only [callSpecialIfBound?, bindSpecialIfBound?]
    refine wpAny_holding (wpAny_bind (wpAny_bind (wpAny_bind (I.type.here ((PySem.W.looks_findIn X hn).here ?_)))))
    simp only [F.cmp_object.ne.bind]
    refine wpAny_bind (wpAny_askSetting (wpAny_ite ?_))
    split
    · exact wpAny_bind (wpAny_pure (wpAny_pure fin))
    · exact wpAny_tryCatch (wpAny_bind (wpAny_pure (wpAny_pure fin)))
  unfold richCompare
  simp only [oneThing_ref]
  refine wpAny_holding (wpAny_bind (wpAny_cRoomFor (by omega) (wpAny_bind (I.type.here (wpAny_bind (hb.here ?_))))))
  rw [show (Value.ref C != Value.ref C) = false from by simp]
  refine wpAny_bind (wpAny_pure ?_)
  simp only [Bool.false_eq_true, if_false]
  refine wpAny_bind (wpAny_mono one (fun r s' z => by obtain ⟨v, rfl, hq⟩ := z; exact wpAny_pure hq) fun _ _ e => e)
end
section
variable {T : Tb} {X : Cx} {W : WX} {pos : Pos}
def rOwn (C : Addr) (sp : Sp) (E : XK) (g : Bool → Bool) : R2 := fun x y H Q => ∃ a b dx dy fs gs, x = .ref a ∧ y = .ref b ∧ H a = some (.ins C dx fs) ∧ H b = some (.ins C dy gs) ∧ sp [.ref a, .ref b] H (fun v H' => ∃ k, v = .bl k ∧ Q (.bl (g k)) H') E
theorem op_eqO {CXq : CXT} {k : Nat} {C f : Addr} {fd : FuncData} {ps : List Str} {sp : Sp} {E : XK} (F : FnG X.prog X.w X.K X.mg X.base CXq k f fd ps sp) (M : Meth X.K C "__eq__" f) (hb : Binds X.K fd ps []) (hr : RoomG k X.A) (hx : Passes CXq X E) :
    OpR X (compareOp .Eq) (rOwn C sp E id) := by
  rintro pins s σ H x y v u Q I rx ry ⟨a, b, dx, dy, fs, gs, rfl, rfl, ea, eb, hsp⟩
  cases rx
  cases ry
  obtain ⟨mA, J, _⟩ := ins_get I.hok ea
  obtain ⟨od, J, _⟩ := J.look
  obtain ⟨mB, J', _⟩ := ins_get I.hok eb
  obtain ⟨od', J', _⟩ := J'.look
  obtain ⟨m, hF⟩ := I.fr
  refine PySem.W.cmp_ofEq (PySem.W.cmp_K (op := .Eq) (tb := .ref C) hr.units0 hF I.ok.mod.kin J J'.type (by simp [PySem.W.notFirst]) M.at_ M.fn ?_)
  have hl := F.len _ _ _ _ hsp
  refine wpAny_call (codeAny_mono (F.run X.A X.stack s H ⟨[.ref a, .ref b], []⟩ [.ref a, .ref b] [.ref a, .ref b] _ E hr I.env0 (by
    have z := hb s [.ref a, .ref b] I.kIn (by simpa using hl)
    simpa using z) (.cons rfl (.cons rfl .nil)) hsp) fun r s' hq => ?_)
  cases r with
  | error er => exact hx pins σ H s er s' I hq
  | ok fl =>
    cases fl with
    | ret w =>
      obtain ⟨z, H', I', rz, k, ez, qz⟩ := I.after hq
      subst ez
      cases rz
      exact ⟨.bl k, H', I', rfl, qz⟩
    | next => exact hq.elim
    | brk => exact hq.elim
    | cont => exact hq.elim
theorem op_neO {CXq : CXT} {k : Nat} {C f : Addr} {fd : FuncData} {ps : List Str} {sp : Sp} {E : XK} (F : FnG X.prog X.w X.K X.mg X.base CXq k f fd ps sp) (M : Meth X.K C "__eq__" f) (hn : PySem.W.findIn X.K (.ref C) "__ne__" = some (some (.builtin "object.__ne__"))) (hob : PySem.W.mroIn X.K C (.type "object") = some true)
    (hb : Binds X.K fd ps []) (hr : RoomG (k + 1) X.A) (hx : Passes CXq X E) : OpR X (compareOp .NotEq) (rOwn C sp E not) := by
  rintro pins s σ H x y v u Q I rx ry ⟨a, b, dx, dy, fs, gs, rfl, rfl, ea, eb, hsp⟩
  cases rx
  cases ry
  obtain ⟨mA, J, _⟩ := ins_get I.hok ea
  obtain ⟨od, J, _⟩ := J.look
  obtain ⟨mB, J', _⟩ := ins_get I.hok eb
  obtain ⟨od', J', _⟩ := J'.look
  refine PySem.W.cmp_ofNotEq (ne_own (by have := hr.un; omega) I.kIn J J'.type hn M.at_ M.fn hob ?_)
  have hl := F.len _ _ _ _ hsp
  refine wpAny_call (codeAny_mono (F.run X.A.in1 X.stack s H ⟨[.ref a, .ref b], []⟩ [.ref a, .ref b] [.ref a, .ref b] _ E hr.in1 I.env0.in1 (by
    have z := hb s [.ref a, .ref b] I.kIn (by simpa using hl)
    simpa using z) (.cons rfl (.cons rfl .nil)) hsp) fun r s' hq => ?_)
  cases r with
  | error er => exact hx pins σ H s er s' I hq
  | ok fl =>
    cases fl with
    | ret w =>
      obtain ⟨z, H', I', rz, k, ez, qz⟩ := I.after hq
      subst ez
      cases rz
      exact ⟨k, rfl, .bl (!k), H', I', rfl, qz⟩
    | next => exact hq.elim
    | brk => exact hq.elim
    | cont => exact hq.elim
def boolBack : Res → Option Bool
  | .ok (.bl b) _ => some b
  | _ => none
def eqG (T : Nat → List Str) (tb : STab) (h : Hh) (v u : Val) : Option Bool := match v, u with
  | .obj c fs, .obj c' gs => (match tb.lookup c with
    | some f => if c = c' then boolBack (callP T f [.obj c fs, .obj c' gs] h) else none
    | none => none)
  | v, u => eqD h v u
def gEqT (T : Nat → List Str) (tb : STab) : G2 := fun h v u => (eqG T tb h v u).map .bl
def gNeT (T : Nat → List Str) (tb : STab) : G2 := fun h v u => (eqG T tb h v u).map fun b => .bl (!b)
def EqOk (T : Tb) (X : Cx) (tb : STab) : Prop := (∃ r, OpR X (compareOp .Eq) r ∧ Lift2 T X.K r (gEqT T.fn tb)) ∧ (∃ r, OpR X (compareOp .NotEq) r ∧ Lift2 T X.K r (gNeT T.fn tb))
theorem eqG_nil {h : Hh} {v u : Val} {b : Bool} (e : eqG T.fn [] h v u = some b) : eqD h v u = some b := by
  unfold eqG at e
  split at e
  · cases e
  · exact e
theorem eq_nil (hu : X.A.units + 64 < cLine) : EqOk T X [] := by
  refine ⟨⟨_, op_eqD hu, ?_⟩, ⟨_, op_neD hu, ?_⟩⟩
  · intro io h F H v u x y z Q sr vr ur e q
    obtain ⟨b, e1, e2⟩ := map_some e
    exact lift_eqD io h F H v u x y z Q sr vr ur (by unfold gEq; rw [eqG_nil e1]; exact congrArg some e2) q
  · intro io h F H v u x y z Q sr vr ur e q
    obtain ⟨b, e1, e2⟩ := map_some e
    exact lift_neD io h F H v u x y z Q sr vr ur (by unfold gNe; rw [eqG_nil e1]; exact congrArg some e2) q
theorem eqG_cons {c : Nat} {fx : Fx} {tb : STab} {h : Hh} {v u : Val} {b : Bool} (e : eqG T.fn ((c, fx) :: tb) h v u = some b) :
    (∃ fs gs, v = .obj c fs ∧ u = .obj c gs ∧ boolBack (callP T.fn fx [.obj c fs, .obj c gs] h) = some b) ∨ eqG T.fn tb h v u = some b := by
  unfold eqG at e
  split at e
  · rename_i cc fs c' gs
    by_cases hc : cc = c
    · subst hc
      simp only [List.lookup_cons_self] at e
      split at e
      · rename_i hcc
        subst hcc
        exact .inl ⟨fs, gs, rfl, rfl, e⟩
      · cases e
    · have z : (cc == c) = false := beq_false_of_ne hc
      simp only [List.lookup_cons, z] at e
      exact .inr e
  · rename_i hne
    refine .inr ?_
    unfold eqG
    split
    · rename_i a1 a2 a3 a4
      exact absurd rfl (hne _ _ _ _ rfl)
    · exact e
theorem SR.reio {K : PySem.W.Frag} {io io1 : Nat → Addr} {h : Hh} {F H : Hp} (s : SR T K io1 h F H) (e : ∀ k, k < h.length → io1 k = io k) : SR T K io h F H where
  sub := s.sub
  dis := fun k hk => by rw [← e k hk]; exact s.dis k hk
  inj := fun j k hj hk q => s.inj j k hj hk (by rw [e j hj, e k hk]; exact q)
  obj := fun k o q => by
    have hk : k < h.length := (List.getElem?_eq_some_iff.mp q).1
    have z := s.obj k o q
    rw [e k hk] at z
    cases o with
    | lst vs =>
      obtain ⟨xs, a, b⟩ := z
      exact ⟨xs, a, b.mono (Nat.le_refl _) (fun j hj => (e j hj).symm) fun _ _ w => w⟩
    | dct ks vs =>
      obtain ⟨es, ep, xs, ys, a, b1, b2, b, d⟩ := z
      exact ⟨es, ep, xs, ys, a, b1, b2, b.mono (Nat.le_refl _) (fun j hj => (e j hj).symm) (fun _ _ w => w), d.mono (Nat.le_refl _) (fun j hj => (e j hj).symm) (fun _ _ w => w)⟩
    | ins c vs =>
      obtain ⟨dx, xs, a, b, d, f⟩ := z
      exact ⟨dx, xs, a, b, d.mono (Nat.le_refl _) (fun j hj => (e j hj).symm) (fun _ _ w => w), f⟩
theorem Step.reio {io io1 : Nat → Addr} {n : Nat} {F H F1 H1 : Hp} (s : Step io n F H io1 n F1 H1) : Step io n F H io n F1 H1 := ⟨Nat.le_refl _, fun _ _ => rfl, s.phi, s.frame, fun k a b => absurd b (Nat.not_lt.mpr a), s.fresh⟩
theorem own_of {K : PySem.W.Frag} {io : Nat → Addr} {h : Hh} {F H : Hp} {Q : VK} {c : Nat} {fs gs : List Val} {x y : V} {fx : Fx} {b : Bool} {g : Bool → Bool} (sr : SR T K io h F H) (vr : VR T K io h.length F (.obj c fs) x) (ur : VR T K io h.length F (.obj c gs) y)
    (e : boolBack (callP T.fn fx [.obj c fs, .obj c gs] h) = some b) (q : ∀ F' H' x', Step io h.length F H io h.length F' H' → SR T K io h F' H' → VR T K io h.length F' (.bl (g b)) x' → Q x' H') : rOwn (He.ga K (T.cn c)) (spF T K fx) EF g x y H Q := by
  have vr' := vr
  have ur' := ur
  cases vr with
  | @obj _ us a dx ys q1 qd r2 hl =>
    cases ur with
    | @obj _ us' b' dx' ys' q1' qd' r2' hl' =>
      refine ⟨a, b', dx, dx', _, _, rfl, rfl, sr.sub _ _ q1, sr.sub _ _ q1', callP_ok sr (.cons vr' (.cons ur' .nil)) ?_⟩
      cases ec : callP T.fn fx [.obj c fs, .obj c gs] h with
      | bad => rw [ec] at e; cases e
      | exc c fs h' => rw [ec] at e; cases e
      | ok v h2 =>
        have eh := callP_heap ec
        subst eh
        rw [ec] at e
        cases v with
        | bl k =>
          cases e
          intro io1 F1 H1 x1 st sr1 vr1
          cases vr1
          exact ⟨_, rfl, q F1 H1 _ st.reio (sr1.reio st.eq) (.bl _)⟩
        | _ => cases e
theorem eq_cons {c : Nat} {k : Nat} {f : Addr} {ps : List Str} {fx : Fx} {tb : STab} (C : CalleeX T X k f ps fx []) (M : Meth X.K (He.ga X.K (T.cn c)) "__eq__" f) (hn : PySem.W.findIn X.K (.ref (He.ga X.K (T.cn c))) "__ne__" = some (some (.builtin "object.__ne__")))
    (hob : PySem.W.mroIn X.K (He.ga X.K (T.cn c)) (.type "object") = some true) (hr : RoomG (k + 1) X.A) (h : EqOk T X tb) : EqOk T X ((c, fx) :: tb) := by
  obtain ⟨⟨r, or1, lf⟩, ⟨r', or2, lf'⟩⟩ := h
  obtain ⟨fd, ds, G, kp, hv, hb⟩ := C
  cases hv
  refine ⟨⟨_, OpR.or (op_eqO G M hb (hr.mono (by omega)) (passNo X)) or1, ?_⟩, ⟨_, OpR.or (op_neO G M hn hob hb hr (passNo X)) or2, ?_⟩⟩
  · intro io h F H v u x y z Q sr vr ur e q
    obtain ⟨b, e1, e2⟩ := map_some e
    subst e2
    rcases eqG_cons e1 with ⟨fs, gs, rfl, rfl, eb⟩ | eb
    · exact .inl (own_of sr vr ur eb q)
    · exact .inr (lf io h F H v u x y _ Q sr vr ur (by unfold gEqT; rw [eb]; rfl) q)
  · intro io h F H v u x y z Q sr vr ur e q
    obtain ⟨b, e1, e2⟩ := map_some e
    subst e2
    rcases eqG_cons e1 with ⟨fs, gs, rfl, rfl, eb⟩ | eb
    · exact .inl (own_of (g := not) sr vr ur eb q)
    · exact .inr (lf' io h F H v u x y _ Q sr vr ur (by unfold gNeT; rw [eb]; rfl) q)
section
variable {a b : Expr} {fa fb : Ex} {tb : STab}
theorem je_eqT (h : EqOk T X tb) (ha : JE T X W a fa) (hb : JE T X W b fb) (hm : behindInMarks .Eq b = false := by first | exact nomark _ | rfl | with_unfolding_all rfl) : JE T X W (.Compare a [.Eq] [b] pos) (xOp (gEqT T.fn tb) fa fb) := by
  obtain ⟨⟨r, o, l⟩, _⟩ := h
  exact je_cmp o l ha hb hm
theorem je_neT (h : EqOk T X tb) (ha : JE T X W a fa) (hb : JE T X W b fb) (hm : behindInMarks .NotEq b = false := by first | exact nomark _ | rfl | with_unfolding_all rfl) : JE T X W (.Compare a [.NotEq] [b] pos) (xOp (gNeT T.fn tb) fa fb) := by
  obtain ⟨_, r, o, l⟩ := h
  exact je_cmp o l ha hb hm
theorem jt_eqT (h : EqOk T X tb) (ha : JE T X W a fa) (hb : JE T X W b fb) (hm : behindInMarks .Eq b = false := by first | exact nomark _ | rfl | with_unfolding_all rfl) : JT T X W (.Compare a [.Eq] [b] pos) (xOp (gEqT T.fn tb) fa fb) := by
  obtain ⟨⟨r, o, l⟩, _⟩ := h
  exact jt_cmp o l ha hb hm
theorem jt_neT (h : EqOk T X tb) (ha : JE T X W a fa) (hb : JE T X W b fb) (hm : behindInMarks .NotEq b = false := by first | exact nomark _ | rfl | with_unfolding_all rfl) : JT T X W (.Compare a [.NotEq] [b] pos) (xOp (gNeT T.fn tb) fa fb) := by
  obtain ⟨_, r, o, l⟩ := h
  exact jt_cmp o l ha hb hm
end
end
end Py

namespace Py
open PySem PySem.Spec PyProof.Rows L2
/-! ### isinstance with an own class -/
structure CTy (K : PySem.W.Frag) (C : Addr) : Prop where
  cls : Cls K C
  cc : PySem.W.findIn K (.ref C) "__class__" = some (some (.builtin "object.__class__"))
  gt : PySem.W.specialIn K (.builtin "object.__class__") "__get__" = some (some (.builtin "getset_descriptor.__get__"))
  tk : PySem.W.takesIn K (.builtin "object.__class__") = some true
  ob : PySem.W.mroIn K C (.type "object") = some true
  ne : PySem.W.findIn K (.ref C) "__ne__" = some (some (.builtin "object.__ne__"))
def ctyB (K : PySem.W.Frag) (x : Str) : Bool := (He.Fa.cls x).ok K && (He.eqO (PySem.W.findIn K (.ref (He.ga K x)) "__class__") (some (some (.builtin "object.__class__"))) &&
  (He.eqO (PySem.W.specialIn K (.builtin "object.__class__") "__get__") (some (some (.builtin "getset_descriptor.__get__"))) && (decide (PySem.W.takesIn K (.builtin "object.__class__") = some true) &&
  (decide (PySem.W.mroIn K (He.ga K x) (.type "object") = some true) && He.eqO (PySem.W.findIn K (.ref (He.ga K x)) "__ne__") (some (some (.builtin "object.__ne__")))))))
theorem cty_of {K : PySem.W.Frag} {x : Str} (h : ctyB K x = true) : CTy K (He.ga K x) := by
  obtain ⟨h1, h⟩ := He.ba h
  obtain ⟨h2, h⟩ := He.ba h
  obtain ⟨h3, h⟩ := He.ba h
  obtain ⟨h4, h⟩ := He.ba h
  obtain ⟨h5, h6⟩ := He.ba h
  exact ⟨He.cls_ok h1, He.eqO_ok h2, He.eqO_ok h3, of_decide_eq_true h4, of_decide_eq_true h5, He.eqO_ok h6⟩
/-- what isinstance(x, C) says of the instances of these classes; of the built-in kinds it says no -/
structure IsOk (T : Tb) (K : PySem.W.Frag) (x : Str) (l : List (Nat × Bool)) : Prop where
  kd : ∀ k : Kd, PySem.W.kitOne K (.type k.name) (.ref (He.ga K x)) = some false
  own : ∀ c b, l.lookup c = some b → PySem.W.kitOne K (.ref (He.ga K (T.cn c))) (.ref (He.ga K x)) = some b ∧ CTy K (He.ga K (T.cn c))
def kds : List Kd := [.non, .bool, .int, .str, .tuple, .list]
def isB (T : Nat → Str) (K : PySem.W.Frag) (x : Str) (l : List (Nat × Bool)) : Bool := (kds.all fun k => decide (PySem.W.kitOne K (.type k.name) (.ref (He.ga K x)) = some false)) && l.all fun p => decide (PySem.W.kitOne K (.ref (He.ga K (T p.1))) (.ref (He.ga K x)) = some p.2) && ctyB K (T p.1)
theorem lookup_mem {l : List (Nat × Bool)} {c : Nat} {b : Bool} (h : l.lookup c = some b) : (c, b) ∈ l := by
  induction l with
  | nil => cases h
  | cons p l ih =>
    obtain ⟨c', b'⟩ := p
    by_cases hc : c = c'
    · subst hc
      simp only [List.lookup_cons_self] at h
      cases h
      exact List.Mem.head _
    · have z : (c == c') = false := beq_false_of_ne hc
      simp only [List.lookup_cons, z] at h
      exact List.Mem.tail _ (ih h)
theorem is_of {T : Tb} {K : PySem.W.Frag} {x : Str} {l : List (Nat × Bool)} (h : isB T.cn K x l = true) : IsOk T K x l := by
  obtain ⟨h1, h2⟩ := He.ba h
  refine ⟨fun k => of_decide_eq_true (List.all_eq_true.mp h1 k (by cases k <;> decide)), fun c b e => ?_⟩
  obtain ⟨a, b⟩ := He.ba (List.all_eq_true.mp h2 (c, b) (lookup_mem e))
  exact ⟨of_decide_eq_true a, cty_of b⟩
def gIsO (l : List (Nat × Bool)) : Hh → Val → Option Val := fun h v => match v with
  | .obj c _ => (l.lookup c).map .bl
  | v => (kdOf h v).map fun _ => .bl false
section
variable {T : Tb} {X : Cx} {W : WX} {e : Expr} {fe : Ex} {pos p1 p2 : Pos}
theorem je_isO {x : Str} {l : List (Nat × Bool)} (he : JE T X W e fe) (k : IsOk T X.K x l) (hm : X.mg "isinstance" = none) (hmc : X.mg x = some (.ref (He.ga X.K x))) (hgc : Gl X x := by rfl) (hg : Gl X "isinstance" := by rfl) (hd : (x == ("__debug__" : Str)) = false := by decide)
    (hs : starEach [e, .Name x p2] X.env = (false, eval e X.env) :: starEach [.Name x p2] X.env := by rfl) (hs2 : starEach [.Name x p2] X.env = (false, eval (.Name x p2) X.env) :: starEach [] X.env := by rfl) (hpl : (backTo pos (starEach [.Name x p2] X.env)).any (·.1) = false := by rfl) :
    JE T X W (.Call (.Name "isinstance" p1) [e, .Name x p2] [] pos) (xUn (gIsO l) fe) := by
  refine pe_imp (pe_callB call_isi hg hm (by decide +kernel) (pa_cons he (pa_cons (pe_glob (v := .ref (He.ga X.K x)) hgc hmc rfl hd) pa_nil hs2) hs) (by decide) (by decide) hs hpl) fun σ H Q ⟨io, h, F, sg, sr, rs, w⟩ => ⟨io, h, F, sg, sr, rs, Wants.bind w fun v h1 io1 F1 H1 y st sr1 vr w1 => ?_⟩
  obtain ⟨z, ez, w2⟩ := wants_ofO w1
  have viaK : (kdOf h1 v).map (fun _ => Val.bl false) = some z → ∃ (x' c : V) (t u : Value) (b : Bool), [y, .ref (He.ga X.K x)] = [x', c] ∧ ClsV c u ∧ TyX X.K H1 x' t ∧ PySem.W.kitOne X.K t u = some b ∧ Q (.bl b) H1 := fun ez => by
    obtain ⟨kk, ek, rfl⟩ := map_some ez
    exact ⟨y, _, .type kk.name, _, false, rfl, .own _, kdOf_ok sr1 vr ek, k.kd kk, w2 io1 F1 H1 _ .refl sr1 (.bl _)⟩
  unfold gIsO at ez
  cases vr with
  | @obj c us a dx ys q1 qd r2 hl =>
    obtain ⟨b, eb, rfl⟩ := map_some ez
    obtain ⟨k1, k2⟩ := k.own c b eb
    exact ⟨_, _, _, _, b, rfl, .own _, .base (.ins (sr1.sub _ _ q1) k2.cls k2.cc k2.gt k2.tk k2.ob), k1, w2 io1 F1 H1 _ .refl sr1 (.bl _)⟩
  | non => exact viaK ez
  | bl b => exact viaK ez
  | int i => exact viaK ez
  | str s => exact viaK ez
  | tup a b => exact viaK ez
  | lst a b => exact viaK ez
  | ref k hk => exact viaK ez
  | glo g => exact viaK ez
  | dct _ _ _ _ _ => exact viaK ez
end
/-! ### defs that stand elsewhere than under a name of the module or of a class: a property's getter, a classmethod's def -/
structure DefP where
  adr : PySem.W.Frag → Addr
  d : He.DefD
def fnWA (K : PySem.W.Frag) (a : Addr) : He.FnW := match K.lookup a with
  | some ⟨_, _, .func fd, _⟩ => some (fd.name, fd.qualname, fd.params, fd.body, fd.scope, fd.globals, fd.closure, fd.builtins)
  | _ => none
def DefP.ok (K : PySem.W.Frag) (d : DefP) : Bool := PySem.W.keepIn K (.ref (d.adr K)) && (match K.lookup (d.adr K) with
  | some ⟨_, _, .func fd, _⟩ => PySem.W.codeIn K fd.code d.d.qual && (He.dflB K fd.defaults (d.d.dvs K) && He.kwdB K fd.kwdefaults (d.d.kws K))
  | _ => false)
theorem DefP.funD {K : PySem.W.Frag} {d : DefP} (e : fnWA K (d.adr K) = d.d.val) (c : d.ok K = true) : ∃ fd, FunD K d.d.name d.d.qual d.d.params d.d.body d.d.scope (d.d.dvs K) (d.d.kws K) (d.adr K) fd := by
  obtain ⟨kp, c2⟩ := He.ba c
  unfold fnWA at e
  cases q : K.lookup (d.adr K) with
  | none => rw [q] at c2; cases c2
  | some o =>
    obtain ⟨oc, od, dt, osl⟩ := o
    rw [q] at c2 e
    cases dt with
    | func fd =>
      obtain ⟨m1, m2, m3, m4, m5, m6, m7, m8, m9, m10, m11, m12, m13, m14, m15⟩ := fd
      have e2 : (some (m1, m2, m3, m4, m5, m6, m7, m15) : He.FnW) = some (d.d.name, d.d.qual, d.d.params, .stmts d.d.body, d.d.scope, mainGlobals, [], builtinsNs) := e
      simp only [Option.some.injEq, Prod.mk.injEq] at e2
      obtain ⟨g1, g2, g3, g4, g5, g6, g7, g8⟩ := e2
      subst g1 g2 g3 g4 g5 g6 g7 g8
      have c3 : (PySem.W.codeIn K m13 d.d.qual && (He.dflB K m8 (d.d.dvs K) && He.kwdB K m9 (d.d.kws K))) = true := c2
      obtain ⟨l1, l2⟩ := He.ba c3
      obtain ⟨l3, l4⟩ := He.ba l2
      exact ⟨_, ⟨oc, od, m8, m9, m10, m11, m12, m13, m14, osl, rfl, q, l1, He.dflB_ok l3, He.kwdB_ok l4⟩, kp⟩
    | _ => cases c2
def valP (fn : List DefP) : He.AlD := (true, fn.map fun d => d.d.val)
def obsP (chk : PySem.W.Frag → Bool) (fn : List DefP) (K : PySem.W.Frag) : He.AlD := (chk K && fn.all fun d => d.ok K, fn.map fun d => fnWA K (d.adr K))
def SaysP (chk : PySem.W.Frag → Bool) (fn : List DefP) (K : PySem.W.Frag) : Prop := obsP chk fn K = valP fn
def obsPG (n : Nat) (chk : PySem.W.Frag → Bool) (fn : List DefP) (g : Addr → Option PySem.Obj) : He.AlD := obsP chk fn (He.frG g (cStatics :: He.asD g n))
def hookP (n : Nat) (chk : PySem.W.Frag → Bool) (fn : List DefP) : PySem.W.Hook where
  α := He.AlD
  obs := fun s => obsPG n chk fn s.heap.get?
  val := fun _ => valP fn
  says := fun _ h => ∃ K : PySem.W.Frag, K.In h ∧ SaysP chk fn K
  of := fun _ _ e => ⟨_, He.frG_in, e⟩
  keeps := fun _ _ _ ⟨K, hK, c⟩ k => ⟨K, PySem.W.Frag.In.keeps hK k, c⟩
theorem obsPG_eq {n : Nat} {chk : PySem.W.Frag → Bool} {fn : List DefP} {g : Addr → Option PySem.Obj} {s : Shared} (h : ∀ a, g a = s.heap.get? a) : obsPG n chk fn g = (hookP n chk fn).obs s := by
  obtain rfl : g = s.heap.get? := funext h
  rfl
section
variable {ck : PySem.W.Frag → Bool} {fn : List DefP} {K : PySem.W.Frag}
theorem SaysP.both (c : SaysP ck fn K) : ck K = true ∧ (fn.all fun d => d.ok K) = true := He.ba (congrArg (fun z : He.AlD => z.1) c : (ck K && fn.all fun d => d.ok K) = true)
theorem SaysP.def_ (c : SaysP ck fn K) (i : Nat) {d : DefP} (h : fn[i]? = some d := by rfl) : ∃ fd, FunD K d.d.name d.d.qual d.d.params d.d.body d.d.scope (d.d.dvs K) (d.d.kws K) (d.adr K) fd := by
  have e : fn.map (fun d => fnWA K (d.adr K)) = fn.map fun d => d.d.val := congrArg (fun z : He.AlD => z.2) c
  have e2 := congrArg (fun l : List He.FnW => l[i]?) e
  simp only [List.getElem?_map, h, Option.map_some, Option.some.injEq] at e2
  exact DefP.funD e2 (List.all_eq_true.mp c.both.2 d (List.mem_of_getElem? h))
end
/-- a property's getter -/
def pgA (K : PySem.W.Frag) (x m : Str) : Addr := match PySem.W.recIn K (He.ma K (He.ga K x) m) "property" with
  | some (.ref g :: _) => g
  | _ => 0
def propB (K : PySem.W.Frag) (x m : Str) : Bool := He.eqO (PySem.W.findIn K (.ref (He.ga K x)) m) (some (some (.ref (He.ma K (He.ga K x) m)))) &&
  (He.eqO (PySem.W.specialIn K (.ref (He.ma K (He.ga K x) m)) "__get__") (some (some (.builtin "property.__get__"))) && (decide (PySem.W.takesIn K (.ref (He.ma K (He.ga K x) m)) = some true) &&
  (match PySem.W.recIn K (He.ma K (He.ga K x) m) "property" with | some (.ref _ :: _) => true | _ => false)))
theorem prop_of {K : PySem.W.Frag} {x m : Str} (h : propB K x m = true) : PropOf K (He.ga K x) m (He.ma K (He.ga K x) m) (pgA K x m) := by
  obtain ⟨h1, h⟩ := He.ba h
  obtain ⟨h2, h⟩ := He.ba h
  obtain ⟨h3, h4⟩ := He.ba h
  refine ⟨He.eqO_ok h1, He.eqO_ok h2, of_decide_eq_true h3, ?_⟩
  unfold pgA
  split at h4
  · rename_i g rest e
    rw [e]
    exact ⟨rest, rfl⟩
  · cases h4
end Py

namespace Py
open PySem PySem.Spec PyProof.Rows L2
/-! ### list comprehensions with two for's -/
def in2 (g : Gx) (t e : Ex) (sg : Sg) : List Val → List Val → Hh → ResL
  | [], acc, h => .ok acc h
  | v :: r, acc, h => if acc.length < 1000000 then (match g v sg h with
    | .ok sg1 h1 => (match t sg1 h1 with
      | .ok (.bl true) h2 => (match e sg1 h2 with
        | .ok y h3 => in2 g t e sg r (acc ++ [y]) h3
        | _ => .bad)
      | .ok (.bl false) h2 => in2 g t e sg r acc h2
      | _ => .bad)
    | .bad => .bad) else .bad
def out2 (g : Gx) (t : Ex) (fi : Ix) (ws : List Nat) (g1 : Gx) (t1 e : Ex) (sg : Sg) : List Val → List Val → Hh → ResL
  | [], acc, h => .ok acc h
  | v :: r, acc, h => match g v sg h with
    | .ok sg1 h1 => (match t sg1 h1 with
      | .ok (.bl true) h2 => (match fi sg1 h2 with
        | .ok (.items us) h3 => (in2 g1 t1 e (wipeG sg1 ws) us acc h3).bindL fun acc' h4 => out2 g t fi ws g1 t1 e sg r acc' h4
        | _ => .bad)
      | .ok (.bl false) h2 => out2 g t fi ws g1 t1 e sg r acc h2
      | _ => .bad)
    | .bad => .bad
def xComp2L (own : List Nat) (f0 : Ix) (g : Gx) (t : Ex) (fi : Ix) (ws : List Nat) (g1 : Gx) (t1 e : Ex) : Lx := fun sg h => match f0 sg h with
  | .ok (.items vs) h1 => out2 g t fi ws g1 t1 e (wipeG sg own) vs [] h1
  | _ => .bad
def xComp2F (own : List Nat) (f0 : Ix) (g : Gx) (t : Ex) (fi : Ix) (ws : List Nat) (g1 : Gx) (t1 e : Ex) : Ex := fun sg h => match xComp2L own f0 g t fi ws g1 t1 e sg h with
  | .ok vs h1 => .ok (.lst vs) h1
  | _ => .bad
theorem in2_cons {g : Gx} {t e : Ex} {sg : Sg} {v : Val} {r acc : List Val} {h : Hh} {k : List Val → Hh → ResL} : (in2 g t e sg (v :: r) acc h).bindL k = if acc.length < 1000000 then (match g v sg h with
    | .ok sg1 h1 => (match t sg1 h1 with
      | .ok (.bl true) h2 => (match e sg1 h2 with
        | .ok y h3 => (in2 g t e sg r (acc ++ [y]) h3).bindL k
        | _ => .bad)
      | .ok (.bl false) h2 => (in2 g t e sg r acc h2).bindL k
      | _ => .bad)
    | .bad => .bad) else .bad := by
  conv => lhs; unfold in2
  split
  · split
    · split
      · split
        · rfl
        · rfl
      · rfl
      · rfl
    · rfl
  · rfl
section
variable {T : Tb} {X : Cx} {W : WX} {pos : Pos}
theorem comp2_core {K : PySem.W.Frag} {f0 fi : Ix} {g g1 : Gx} {t t1 el : Ex} {own ws0 ws : List Nat} (hw0 : ∀ j, j ∈ ws0 → j ∈ own) {σ : L2.St} {H : Hp} {io : Nat → Addr} {h : Hh} {F : Hp} {sg : Sg} (sr : SR T K io h F H) (rs : RSt T K io h.length F sg σ)
    {R : VK} (w : match xComp2L own f0 g t fi ws g1 t1 el sg h with
      | .ok acc h' => ∀ D io' F' H' xs, H D = none → Step io h.length F H io' h'.length F' H' → SR T K io' h' F' H' → H' D = some (.lst xs) → VRs T K io' h'.length F' acc xs → F' D = none → (∀ k, k < h'.length → io' k ≠ D) → R (.ref D) H'
      | _ => False) :
    tLc2 (tI T K W f0) (tGw T K ws0 g) (tB1 T K Wno t) (tI T K Wno fi) (tGw T K ws g1) (tB1 T K Wno t1) (tE T K Wno el) own ws σ H R := by
  refine ⟨io, h, F, sg, sr, rs, ?_⟩
  unfold xComp2L at w
  cases e : f0 sg h with
  | bad => rw [e] at w; exact w
  | exc c fs h1 => rw [e] at w; exact w.elim
  | ok s h1 =>
    rw [e] at w
    cases s with
    | ref k => exact w.elim
    | items vs =>
    dsimp only at w
    intro io1 F1 H1 J st1 sr1 so D hD
    have hD0 : H D = none := by
      cases q : H D with
      | none => rfl
      | some o =>
        exfalso
        by_cases hc : ∀ k, k < h.length → io k ≠ D
        · rw [st1.frame D o q hc] at hD; cases hD
        · apply hc
          intro k hk z
          obtain ⟨u, hu⟩ := sr1.there (k := k) (Nat.lt_of_lt_of_le hk st1.le)
          rw [st1.eq k hk, z, hD] at hu; cases hu
    have c0 : CInv T K io1 h1.length F1 H1 D io1 h1 F1 (upd H1 D (.lst [])) :=
      ⟨sr1.garb hD _, sr1.garbStep hD _, sr1.none_of hD, fun k hk z => by obtain ⟨u, hu⟩ := sr1.there hk; rw [z, hD] at hu; cases hu⟩
    have rs1 := (wipeG_ok rs own).step st1
    have w1 : WantsD T K io1 h1.length F1 H1 D R (out2 g t fi ws g1 t1 el (wipeG sg own) vs [] h1) := by
      cases q : out2 g t fi ws g1 t1 el (wipeG sg own) vs [] h1 with
      | bad => rw [q] at w; exact w
      | exc c fs h' => rw [q] at w; exact w.elim
      | ok acc h' => rw [q] at w; exact fun io' F' H' xs st sr' hd va fd nd => w D io' F' H' xs hD0 (st1.trans sr1 st) sr' hd va fd nd
    refine ⟨fun i m H2 => m = vs.length - i ∧ i ≤ vs.length ∧ ∃ io2 h2 F2 acc xs, CInv T K io1 h1.length F1 H1 D io2 h2 F2 H2 ∧ H2 D = some (.lst xs) ∧ VRs T K io2 h2.length F2 acc xs ∧ WantsD T K io1 h1.length F1 H1 D R (out2 g t fi ws g1 t1 el (wipeG sg own) (vs.drop i) acc h2),
      ⟨vs.length, by simp, Nat.zero_le _, io1, h1, F1, [], [], c0, upd_same, .nil, by simpa using w1⟩, ?_⟩
    rintro i m H2 ⟨rfl, hi, io2, h2, F2, acc, xs, c2, hD2, va, w2⟩
    have y := so i io2 h2 F2 H2 c2.sr c2.st.le c2.st.eq c2.st.phi hi
    by_cases hlt : i < vs.length
    · have ev : vs[i]? = some vs[i] := by simp [hlt]
      rw [ev] at y
      rw [List.drop_eq_getElem_cons hlt] at w2
      unfold out2 at w2
      refine .inr ⟨y.1, fun H3 => ∃ io2 h2 F2 acc xs, CInv T K io1 h1.length F1 H1 D io2 h2 F2 H3 ∧ H3 D = some (.lst xs) ∧ VRs T K io2 h2.length F2 acc xs ∧ WantsD T K io1 h1.length F1 H1 D R (out2 g t fi ws g1 t1 el (wipeG sg own) (vs.drop (i + 1)) acc h2),
        fun H' n' => ⟨vs.length - (i + 1), by omega, rfl, hlt, n'⟩, ?_⟩
      intro x H' hy
      obtain ⟨F', st, sr', vr⟩ := y.2 x H' hy
      obtain ⟨c3, hD3⟩ := c2.go hD2 st sr'
      refine ⟨io2, h2, F', wipeG sg own, vs[i], sr', rs1.step c3.st, vr, ?_⟩
      cases eg : g vs[i] (wipeG sg own) h2 with
      | bad => rw [eg] at w2; exact w2.elim
      | ok sg1 h3 =>
        rw [eg] at w2
        intro io4 F4 H4 σ2 st4 sr4 rs4 hj hl
        obtain ⟨c4, hD4⟩ := c3.go hD3 st4 sr4
        refine ⟨wipe_eq hw0 hj hl, io4, h3, F4, sg1, sr4, rs4, ?_⟩
        dsimp only at w2
        cases et : t sg1 h3 with
        | bad => rw [et] at w2; exact w2.elim
        | exc cc fs hh => rw [et] at w2; exact w2.elim
        | ok tv h4 =>
          rw [et] at w2
          cases tv with
          | bl tb =>
            intro io5 F5 H5 st5 sr5
            obtain ⟨c5, hD5⟩ := c4.go hD4 st5 sr5
            have va5 := va.step ((st.trans sr' st4).trans sr4 st5)
            cases tb with
            | false =>
              rw [if_neg Bool.false_ne_true]
              exact ⟨io5, h4, F5, acc, xs, c5, hD5, va5, w2⟩
            | true =>
              rw [if_pos rfl]
              have rs5 := rs4.step st5
              refine ⟨io5, h4, F5, sg1, sr5, rs5, ?_⟩
              dsimp only at w2
              cases ei : fi sg1 h4 with
              | bad => rw [ei] at w2; exact w2.elim
              | exc cc fs hh => rw [ei] at w2; exact w2.elim
              | ok s5 h5 =>
                rw [ei] at w2
                cases s5 with
                | ref k => exact w2.elim
                | items us =>
                  dsimp only at w2
                  intro io6 F6 H6 J1 st6 sr6 so1
                  obtain ⟨c6, hD6⟩ := c5.go hD5 st6 sr6
                  have rs6 := wipeG_ok (rs5.step st6) ws
                  refine ⟨fun j m H2 => m = us.length - j ∧ j ≤ us.length ∧ ∃ io7 h7 F7 acc xs, CInv T K io1 h1.length F1 H1 D io7 h7 F7 H2 ∧ H2 D = some (.lst xs) ∧ VRs T K io7 h7.length F7 acc xs ∧ RSt T K io7 h7.length F7 (wipeG sg1 ws) (wipe σ2 ws) ∧
                      (h5.length ≤ h7.length ∧ (∀ k, k < h5.length → io7 k = io6 k) ∧ ∀ b o, F6 b = some o → F7 b = some o) ∧
                      WantsD T K io1 h1.length F1 H1 D R ((in2 g1 t1 el (wipeG sg1 ws) (us.drop j) acc h7).bindL fun acc' h4 => out2 g t fi ws g1 t1 el (wipeG sg own) (vs.drop (i + 1)) acc' h4),
                    ⟨us.length, by simp, Nat.zero_le _, io6, h5, F6, acc, xs, c6, hD6, va5.step st6, rs6, ⟨Nat.le_refl _, fun _ _ => rfl, fun _ _ z => z⟩, by simpa using w2⟩, ?_⟩
                  rintro j m7 H7 ⟨rfl, hj7, io7, h7, F7, acc7, xs7, c7, hD7, va7, rs7, ⟨k1, k2, k3⟩, w7⟩
                  have y7 := so1 j io7 h7 F7 H7 c7.sr k1 k2 k3 hj7
                  by_cases hlt7 : j < us.length
                  · have ev7 : us[j]? = some us[j] := by simp [hlt7]
                    rw [ev7] at y7
                    rw [List.drop_eq_getElem_cons hlt7, in2_cons] at w7
                    by_cases hz7 : acc7.length < 1000000
                    · rw [if_pos hz7] at w7
                      refine .inr ⟨y7.1, fun H3 => ∃ io7 h7 F7 acc xs, CInv T K io1 h1.length F1 H1 D io7 h7 F7 H3 ∧ H3 D = some (.lst xs) ∧ VRs T K io7 h7.length F7 acc xs ∧ RSt T K io7 h7.length F7 (wipeG sg1 ws) (wipe σ2 ws) ∧
                          (h5.length ≤ h7.length ∧ (∀ k, k < h5.length → io7 k = io6 k) ∧ ∀ b o, F6 b = some o → F7 b = some o) ∧
                          WantsD T K io1 h1.length F1 H1 D R ((in2 g1 t1 el (wipeG sg1 ws) (us.drop (j + 1)) acc h7).bindL fun acc' h4 => out2 g t fi ws g1 t1 el (wipeG sg own) (vs.drop (i + 1)) acc' h4),
                        fun H' n' => ⟨us.length - (j + 1), by omega, rfl, hlt7, n'⟩, ?_⟩
                      exact comp_turn (own := ws) (ws := ws) (rest := fun acc h => (in2 g1 t1 el (wipeG sg1 ws) (us.drop (j + 1)) acc h).bindL fun acc' h4 => out2 g t fi ws g1 t1 el (wipeG sg own) (vs.drop (i + 1)) acc' h4) (fun _ z => z) hD c7 hD7 va7 rs7 hz7 y7 w7
                        fun acc' h' io' F' H' xs' _ c' hd' va' rs' ks w' => ⟨io', h', F', acc', xs', c', hd', va', rs', ⟨Nat.le_trans k1 ks.1, fun k hk => (ks.2.1 k (Nat.lt_of_lt_of_le hk k1)).trans (k2 k hk), fun b o z => ks.2.2 b o (k3 b o z)⟩, w'⟩
                    · rw [if_neg hz7] at w7; exact w7.elim
                  · have hul : j = us.length := by omega
                    subst hul
                    rw [List.getElem?_eq_none (Nat.le_refl _)] at y7
                    rw [List.drop_length] at w7
                    exact .inl ⟨y7, io7, h7, F7, acc7, xs7, c7, hD7, va7, w7⟩
          | _ => exact w2.elim
    · have hvl : i = vs.length := by omega
      subst hvl
      rw [List.getElem?_eq_none (Nat.le_refl _)] at y
      rw [List.drop_length] at w2
      exact .inl ⟨y, w2 io2 F2 H2 xs c2.st c2.sr hD2 va c2.fd c2.nd⟩
theorem je_lc2F {elt tg iter tg1 iter1 : Expr} {ifs ifs1 : List Expr} {scope : Scope} (own : List (Str × Nat)) {f0 fi : Ix} {g g1 : Gx} {t t1 el : Ex} {ws0 ws : List Nat} (hc : X.calm = true) (hN : X.N.Nodup) (hi : JI T X W tg iter f0) (ok : BlkOk X.N X.env.scope scope own) (hw0 : ∀ j, j ∈ ws0 → j ∈ own.map (·.2)) (hw : ∀ j, j ∈ ws → j ∈ own.map (·.2))
    (hg : ∀ (s : Shared) (H : Hp) (C : Addr) (cl : List (Str × Addr)) (fp : List Addr), JGw T (X.blk s H scope (compEnvC scope cl C X.env) fp) ws0 tg g) (ht : ∀ (s : Shared) (H : Hp) (C : Addr) (cl : List (Str × Addr)) (fp : List Addr), JTs T (X.blk s H scope (compEnvC scope cl C X.env) fp) Wno ifs t)
    (hi1 : ∀ (s : Shared) (H : Hp) (C : Addr) (cl : List (Str × Addr)) (fp : List Addr), JI T (X.blk s H scope (compEnvC scope cl C X.env) fp) Wno tg1 iter1 fi)
    (hg1 : ∀ (s : Shared) (H : Hp) (C : Addr) (cl : List (Str × Addr)) (fp : List Addr), JGw T (X.blk s H scope (compEnvC scope cl C X.env) fp) ws tg1 g1) (ht1 : ∀ (s : Shared) (H : Hp) (C : Addr) (cl : List (Str × Addr)) (fp : List Addr), JTs T (X.blk s H scope (compEnvC scope cl C X.env) fp) Wno ifs1 t1)
    (he : ∀ (s : Shared) (H : Hp) (C : Addr) (cl : List (Str × Addr)) (fp : List Addr), JE T (X.blk s H scope (compEnvC scope cl C X.env) fp) Wno elt el) (hs : ∀ x, foldedSetIterable iter X.env x = pure x := by intro _; rfl) (hs1 : ∀ env x, foldedSetIterable iter1 env x = pure x := by intro _ _; rfl) :
    JE T X W (.ListComp elt [⟨tg, iter, ifs, 0⟩, ⟨tg1, iter1, ifs1, 0⟩] scope pos) (xComp2F (own.map (·.2)) f0 g t fi ws g1 t1 el) := by
  refine pe_imp (pe_lc2 hc hN hi ok hw hg ht hi1 hg1 ht1 he hs hs1) fun σ H Q ⟨io, h, F, sg, sr, rs, w⟩ => comp2_core (K := X.K) hw0 sr rs ?_
  unfold xComp2F at w
  cases e : xComp2L (own.map (·.2)) f0 g t fi ws g1 t1 el sg h with
  | bad => rw [e] at w; exact w
  | exc c fs h' => rw [e] at w; exact w.elim
  | ok acc h' =>
    rw [e] at w
    intro D io' F' H' xs hD st sr' hd va fd nd
    obtain ⟨s1, s2, mn⟩ := CInv.froze hD st sr' hd fd nd
    exact w _ _ H' _ s1 s2 (.lst (SqL.of upd_same) (va.mono (Nat.le_refl _) (fun _ _ => rfl) mn))
end
end Py

namespace Py
open PySem PySem.Spec PyProof.Rows L2
section
variable {T : Tb} {X : Cx} {W : WX} {pos : Pos}
/-! ### repr of data -/
def rRepr (K : PySem.W.Frag) : List V → Hp → VK → Prop := fun xs H Q => ∃ x d, xs = [x] ∧ Dp K H x d ∧ SeqAt.shaped d = true ∧ d.showable = true ∧ d.shown.length ≤ sizeLine ∧ Q (.str d.shown) H
theorem shaped_lay {d : PyData} (h : SeqAt.shaped d = true) : PyData.canLay0 d = true ∧ d.depth ≤ 64 := by
  unfold SeqAt.shaped at h
  obtain ⟨a, b⟩ := Bool.and_eq_true_iff.mp h
  exact ⟨a, by have := of_decide_eq_true b; omega⟩
theorem cr_repr {k : Nat} (hr : RoomG k X.A) : CallR X (.builtin "repr") (rRepr X.K) := by
  rintro pins s σ H xs us Q I vals ⟨x, d, rfl, hd, sh, sw, sz, q⟩
  cases vals with
  | cons r0 t0 =>
  cases t0
  obtain ⟨lay, dep⟩ := shaped_lay sh
  have hu := hr.un
  have big : ∀ {a : Addr}, x = .ref a → wpAny (model X.prog X.w) X.A (call (.builtin "repr") [.ref a]) (EP X pins σ Q) X.xe s := by
    rintro a rfl
    obtain ⟨as, r⟩ := Dp.reads I d _ (.ref a) hd rfl
    exact repr_of_reads' r sw (PyData.noDict_hsm (PyData.hasDict_of_canLay d lay)) hr.gd (by omega) (fun _ _ e => e) (fun h' u tk hk => ⟨.str d.shown, H, I.kept hk, ⟨u, rfl⟩, q⟩) sz
  cases hd with
  | non =>
    cases r0
    exact PySem.P.repr_of_none ⟨.str _, H, I.tok _, ⟨_, rfl⟩, q⟩
  | bl b =>
    cases r0
    exact PySem.P.repr_of_bool ⟨.str _, H, I.tok _, ⟨_, rfl⟩, q⟩
  | int i =>
    obtain ⟨t, rfl⟩ := r0
    exact PySem.P.repr_of_int (of_decide_eq_true sw) ⟨.str _, H, I.tok _, ⟨_, rfl⟩, q⟩
  | str y =>
    obtain ⟨t, rfl⟩ := r0
    exact PySem.P.repr_of_str ⟨.str _, H, I.tok _, ⟨_, rfl⟩, q⟩ sz
  | lst a b =>
    cases r0
    exact big rfl
  | tup a b =>
    cases r0
    exact big rfl
def reprV (h : Hh) (v : Val) : Option Val := match dat h 30 v with
  | some d => if d.showable = true ∧ d.shown.length ≤ 1000000 then some (.str (unS d.shown)) else none
  | none => none
def gRepr : GC := fun h vs => match vs with
  | [v] => (reprV h v).map fun z => (z, h)
  | _ => none
theorem lift_repr {K : PySem.W.Frag} : LiftC T K (rRepr K) gRepr := by
  intro io h F H vs xs z h' Q sr rr e q
  cases rr with
  | nil => cases e
  | cons a t =>
    cases t with
    | cons b u => cases e
    | nil =>
      unfold gRepr at e
      obtain ⟨z', e1, e2⟩ := map_some e
      cases e2
      unfold reprV at e1
      cases ed : dat h 30 _ with
      | none => rw [ed] at e1; cases e1
      | some d =>
        rw [ed] at e1
        dsimp only at e1
        split at e1
        · rename_i hz
          cases e1
          obtain ⟨a1, a2, a3⟩ := dat_ok sr 30 _ d _ ed a
          exact ⟨_, d, rfl, a1, shaped_of (by omega) a2 a3, hz.1, sizeOk hz.2, q io F H _ .refl sr (VR.unS _)⟩
        · cases e1
/-! ### xs.extend(ys): two mutable lists -/
def gExtend : GM := fun h v vs => match vs with
  | [u] => (match mutOf h v, mutOf h u with
    | some (k, us), some (j, ws) => if k ≠ j ∧ us.length + ws.length ≤ 1000000 then some (.non, h.set k (.lst (us ++ ws))) else none
    | _, _ => none)
  | _ => none
theorem lift_extend {K : PySem.W.Frag} : LiftM T K rExtend gExtend := by
  intro io h F H v x vs xs z h' Q sr vr rr e q
  unfold gExtend at e
  split at e
  · rename_i u
    obtain ⟨y, rfl, ur⟩ := one_of rr
    cases em : mutOf h v with
    | none => rw [em] at e; cases e
    | some p =>
      obtain ⟨k, us⟩ := p
      cases en : mutOf h u with
      | none => rw [em, en] at e; cases e
      | some p2 =>
        obtain ⟨j, ws⟩ := p2
        rw [em, en] at e
        dsimp only at e
        split at e
        · rename_i hz
          cases e
          obtain ⟨xs, rfl, hk, ea, ra, go⟩ := mutOf_ok sr vr em
          obtain ⟨ys, rfl, hj, eb, rb, _⟩ := mutOf_ok sr ur en
          obtain ⟨s1, s2⟩ := go (us ++ ws) (xs ++ ys) (ra.append rb)
          exact ⟨io k, io j, xs, ys, rfl, rfl, ea, eb, by rw [← ra.length, ← rb.length]; exact sizeOk hz.2, q io F _ _ s1 s2 .non⟩
        · cases e
  · cases e
/-! ### list(range(a, b)) -/
def rngL (a b : Int) : List Val := (List.range (b - a).toNat).map fun (i : Nat) => Val.int (a + i)
theorem rngL_ok {K : PySem.W.Frag} {io : Nat → Addr} {n : Nat} {F : Hp} (a : Int) : ∀ l : List Nat, VRs T K io n F (l.map fun (i : Nat) => Val.int (a + i)) (l.map fun (i : Nat) => V.int (a + i))
  | [] => .nil
  | i :: l => .cons (.int _) (rngL_ok a l)
def okRg (a b : Int) : Bool := decide (-1000000000 ≤ a) && (decide (a < 1000000000) && (decide (-1000000000 ≤ b) && (decide (b < 1000000000) && decide ((b - a).toNat ≤ 1000000))))
theorem okRg_ok {a b : Int} (h : okRg a b = true) : RgOk a b := by
  unfold okRg at h
  simp only [Bool.and_eq_true, decide_eq_true_eq] at h
  unfold RgOk
  omega
def xListRg (a b : Ex) : Ex := fun sg h => (a sg h).bind fun u h1 => (b sg h1).bind fun v h2 => match u, v with
  | .int i, .int j => if okRg i j = true then .ok (.ref h2.length) (h2 ++ [.lst (rngL i j)]) else .bad
  | _, _ => .bad
def xListRgF (a b : Ex) : Ex := fun sg h => (a sg h).bind fun u h1 => (b sg h1).bind fun v h2 => match u, v with
  | .int i, .int j => if okRg i j = true then .ok (.lst (rngL i j)) h2 else .bad
  | _, _ => .bad
def xTupRg (a b : Ex) : Ex := fun sg h => (a sg h).bind fun u h1 => (b sg h1).bind fun v h2 => match u, v with
  | .int i, .int j => if okRg i j = true then .ok (.tup (rngL i j)) h2 else .bad
  | _, _ => .bad
section
variable {a b : Expr} {fa fb : Ex} {p p2 pos2 : Pos}
theorem je_listRg (hl : X.mg "list" = none) (hm : X.mg "range" = none) (hc : X.calm = true) (ha : JE T X W a fa) (hb : JE T X W b fb) (hg : Gl X "list" := by rfl) (hg2 : Gl X "range" := by rfl) (na : starEach [a, b] X.env = (false, eval a X.env) :: starEach [b] X.env := by rfl)
    (nb : starEach [b] X.env = (false, eval b X.env) :: starEach [] X.env := by rfl) (hp : (backTo pos2 (starEach [b] X.env)).any (·.1) = false := by rfl)
    (nc : starEach [.Call (.Name "range" p2) [a, b] [] pos2] X.env = (false, eval (.Call (.Name "range" p2) [a, b] [] pos2) X.env) :: starEach [] X.env := by rfl) :
    JE T X W (.Call (.Name "list" p) [.Call (.Name "range" p2) [a, b] [] pos2] [] pos) (xListRg fa fb) := by
  refine pe_imp (pe_listRg hc hg hl (prg_2 hg2 hm ha hb na nb hp) nc) fun σ H Q ⟨io, h, F, sg, sr, rs, w⟩ => ⟨io, h, F, sg, sr, rs, Wants.bind w fun u h1 io1 F1 H1 x st sr1 vr w1 => ⟨io1, h1, F1, sg, sr1, rs.step st, Wants.bind w1 fun v h2 io2 F2 H2 y st2 sr2 ur w2 => ?_⟩⟩
  cases vr with
  | int i =>
    cases ur with
    | int j =>
      dsimp only at w2
      by_cases hz : okRg i j = true
      · rw [if_pos hz] at w2
        refine ⟨i, j, rfl, rfl, okRg_ok hz, fun q hq => ?_⟩
        obtain ⟨s1, s2, s3⟩ := push_new (ys := rngL i j) sr2 (rngL_ok i _) hq
        exact w2 _ _ _ _ s1 s2 s3
      · rw [if_neg hz] at w2; exact w2.elim
    | _ => exact w2.elim
  | _ => exact w2.elim
theorem je_listRgF (hl : X.mg "list" = none) (hm : X.mg "range" = none) (hc : X.calm = true) (ha : JE T X W a fa) (hb : JE T X W b fb) (hg : Gl X "list" := by rfl) (hg2 : Gl X "range" := by rfl) (na : starEach [a, b] X.env = (false, eval a X.env) :: starEach [b] X.env := by rfl)
    (nb : starEach [b] X.env = (false, eval b X.env) :: starEach [] X.env := by rfl) (hp : (backTo pos2 (starEach [b] X.env)).any (·.1) = false := by rfl)
    (nc : starEach [.Call (.Name "range" p2) [a, b] [] pos2] X.env = (false, eval (.Call (.Name "range" p2) [a, b] [] pos2) X.env) :: starEach [] X.env := by rfl) :
    JE T X W (.Call (.Name "list" p) [.Call (.Name "range" p2) [a, b] [] pos2] [] pos) (xListRgF fa fb) := by
  refine pe_imp (pe_listRg hc hg hl (prg_2 hg2 hm ha hb na nb hp) nc) fun σ H Q ⟨io, h, F, sg, sr, rs, w⟩ => ⟨io, h, F, sg, sr, rs, Wants.bind w fun u h1 io1 F1 H1 x st sr1 vr w1 => ⟨io1, h1, F1, sg, sr1, rs.step st, Wants.bind w1 fun v h2 io2 F2 H2 y st2 sr2 ur w2 => ?_⟩⟩
  cases vr with
  | int i =>
    cases ur with
    | int j =>
      dsimp only at w2
      by_cases hz : okRg i j = true
      · rw [if_pos hz] at w2
        exact ⟨i, j, rfl, rfl, okRg_ok hz, fun q hq => w2 _ _ _ _ (sr2.allocStep hq _) (sr2.alloc hq _) (.lst (.inl (.inl upd_same)) (rngL_ok i _))⟩
      · rw [if_neg hz] at w2; exact w2.elim
    | _ => exact w2.elim
  | _ => exact w2.elim
end
/-! ### int(text), and of numbers and flags -/
def gIntX : GC := fun h vs => match vs with
  | [.int i] => some (.int i, h)
  | [.bl b] => some (.int (if b then 1 else 0), h)
  | [.str s] => if s.length ≤ 600 then (match PySem.intText? ⟨s.toArray⟩ with
    | some n => some (.int n, h)
    | none => none) else none
  | _ => none
theorem cr_intX : CallR X (.type "int") (fun xs H Q => (fun xs H Q => (∃ i, xs = [V.int i] ∧ Q (.int i) H) ∨ ∃ k, xs = [V.bl k] ∧ Q (.int (if k then 1 else 0)) H) xs H Q ∨ (fun xs H Q => ∃ a n, xs = [V.str a] ∧ PySem.intText? a = some n ∧ a.length ≤ 640 ∧ Q (.int n) H) xs H Q) := CallR.or call_int1 call_int_str
theorem lift_intX {K : PySem.W.Frag} : LiftC T K (fun xs H Q => (fun xs H Q => (∃ i, xs = [V.int i] ∧ Q (.int i) H) ∨ ∃ k, xs = [V.bl k] ∧ Q (.int (if k then 1 else 0)) H) xs H Q ∨ (fun xs H Q => ∃ a n, xs = [V.str a] ∧ PySem.intText? a = some n ∧ a.length ≤ 640 ∧ Q (.int n) H) xs H Q) gIntX := by
  intro io h F H vs xs z h' Q sr rr e q
  unfold gIntX at e
  split at e
  · cases e
    obtain ⟨x, rfl, r⟩ := one_of rr
    cases r
    exact .inl (.inl ⟨_, rfl, q io F H _ .refl sr (.int _)⟩)
  · cases e
    obtain ⟨x, rfl, r⟩ := one_of rr
    cases r
    exact .inl (.inr ⟨_, rfl, q io F H _ .refl sr (.int _)⟩)
  · rename_i s
    split at e
    · rename_i hz
      cases en : PySem.intText? ⟨s.toArray⟩ with
      | none => rw [en] at e; cases e
      | some n =>
        rw [en] at e
        cases e
        obtain ⟨x, rfl, r⟩ := one_of rr
        cases r
        exact .inr ⟨_, n, rfl, en, by rw [str_len]; omega, q io F H _ .refl sr (.int _)⟩
    · cases e
  · cases e
/-! ### in: a sign of a text, flat things, data -/
def gInA : G2 := fun h v u => match u with
  | .str s => (match v with
    | .str [c] => some (.bl (decide (c ∈ s)))
    | _ => none)
  | u => (match gIn false h v u with
    | some z => some z
    | none => (match dat h 30 v, dat h 30 u with
      | some d, some (.list ds) => some (.bl (ds.any fun z => PyData.eqv z d))
      | _, _ => none))
def rInA (K : PySem.W.Frag) : R2 := fun x y H Q => (fun x y H Q => ∃ (c : Nat) (z : Str), x = V.str ⟨#[c]⟩ ∧ y = V.str z ∧ Q (.bl (decide (c ∈ z.cps.toList))) H) x y H Q ∨ (fun x y H Q => rIn K false x y H Q ∨ rInD K x y H Q) x y H Q
theorem op_inA {k : Nat} (hr : RoomG k X.A) : OpR X (compareOp .In) (rInA X.K) := OpR.or op_in_sign (OpR.or op_in_seq (op_inD (by have := hr.un; omega)))
theorem lift_inA {K : PySem.W.Frag} : Lift2 T K (rInA K) gInA := by
  intro io h F H v u x y z Q sr vr ur e q
  have more : (match gIn false h v u with
    | some z => some z
    | none => (match dat h 30 v, dat h 30 u with
      | some d, some (.list ds) => some (Val.bl (ds.any fun z => PyData.eqv z d))
      | _, _ => none)) = some z → rInA K x y H Q := fun e => by
    cases eg : gIn false h v u with
    | some z1 =>
      rw [eg] at e
      cases e
      exact .inr (.inl (lift_in false io h F H v u x y z Q sr vr ur eg q))
    | none =>
      rw [eg] at e
      dsimp only at e
      cases e1 : dat h 30 v with
      | none => rw [e1] at e; cases e
      | some d =>
        cases e2 : dat h 30 u with
        | none => rw [e1, e2] at e; cases e
        | some d2 =>
          rw [e1, e2] at e
          obtain ⟨a1, a2, a3⟩ := dat_ok sr 30 v d x e1 vr
          obtain ⟨b1, b2, b3⟩ := dat_ok sr 30 u d2 y e2 ur
          cases d2 with
          | list ds =>
            cases e
            exact .inr (.inr ⟨d, ds, a1, b1, shaped_of (by omega) a2 a3, shaped_of (by omega) b2 b3, q F H _ .refl sr (.bl _)⟩)
          | _ => cases e
  unfold gInA at e
  cases ur with
  | str s =>
    dsimp only at e
    split at e
    · rename_i c
      cases e
      cases vr
      exact .inl ⟨c, _, rfl, rfl, by simpa using q F H _ .refl sr (.bl _)⟩
    · cases e
  | tup a b => exact more e
  | lst a b => exact more e
  | ref k hk => exact more e
  | non => exact more e
  | bl b => exact more e
  | int i => exact more e
  | obj a b c d => exact more e
  | glo g => exact more e
  | dct _ _ _ _ _ => exact more e
/-! ### three targets at once -/
def xPar3 (i j l : Nat) (r : Lx) : Sx := fun sg h => match r sg h with
  | .ok [u, v, z] h1 => .next (((sg.set i (some u)).set j (some v)).set l (some z)) h1
  | .ok _ _ => .bad
  | .exc c fs h1 => .exc c fs sg h1
  | .bad => .bad
theorem js_par3 (i j l : Nat) {a b c : Expr} {x y z : Str} {fl : Lx} {px py pz pt : Pos} {kt k2 pt2} (hc : X.calm = true) (hN : X.N.Nodup) (hij : i ≠ j) (hil : i ≠ l) (hjl : j ≠ l) (ha : JA T X W [a, b, c] fl) (hi : X.N[i]? = some x := by rfl) (hj : X.N[j]? = some y := by rfl) (hl : X.N[l]? = some z := by rfl)
    (hx : X.env.scope.names.lookup x = some .local := by rfl) (hy : X.env.scope.names.lookup y = some .local := by rfl) (hz : X.env.scope.names.lookup z = some .local := by rfl)
    (hw : swappedStores [.Tuple [.Name x px, .Name y py, .Name z pz] kt pt] (.Tuple [a, b, c] k2 pt2) X.env = pure (some [x, y, z]) := by rfl)
    (hs : swapsWithSole [.Tuple [.Name x px, .Name y py, .Name z pz] kt pt] (.Tuple [a, b, c] k2 pt2) pos.line X.env = pure false := by rfl) :
    JS T X W (.Assign [.Tuple [.Name x px, .Name y py, .Name z pz] kt pt] (.Tuple [a, b, c] k2 pt2) pos) (xPar3 i j l fl) := by
  refine ps_imp (ps_par3 hc hN hi hj hl hij hil hjl hx hy hz ha hw hs) fun D σ H ⟨io, h, F, sg, sr, rs, w⟩ => ⟨io, h, F, sg, sr, rs, ?_⟩
  unfold xPar3 at w
  cases e : fl sg h with
  | ok vs h1 =>
    rw [e] at w
    intro io' F' H' xs st sr' vrs
    match vs, vrs, w with
    | [v, u, t], .cons r1 (.cons r2 (.cons r3 .nil)), w => exact ⟨_, _, _, rfl, w io' F' H' _ st sr' ((((rs.step st).set i r1).set j r2).set l r3)⟩
    | [], _, w => exact w.elim
    | [_], _, w => exact w.elim
    | [_, _], _, w => exact w.elim
    | _ :: _ :: _ :: _ :: _, _, w => exact w.elim
  | exc c fs h1 =>
    rw [e] at w
    exact fun io' F' H' d st sr xr => w io' F' H' σ d st sr (rs.step st) xr
  | bad => rw [e] at w; exact w
end
end Py

namespace Py
open PySem PySem.Spec PyProof.Rows L2
section
variable {T : Tb} {X : Cx} {W : WX} {pos : Pos}
/-- the call of a class's own word, one layer further in -/
theorem run_in1 {k : Nat} {f : Addr} {fd : FuncData} {ps : List Str} {sp : Sp} {pins : List (Addr × PySem.Obj)} {σ : L2.St} {H : Hp} {s : Shared} {Q : VK} {vs : List V} {us : List Value} {R : Value → Shared → Prop} (F : FnG X.prog X.w X.K X.mg X.base (L2.CX X.prog X.w) k f fd ps sp) (hr : RoomG (k + 1) X.A) (hb : Binds X.K fd ps [])
    (I : L2.Inv X pins σ H s) (r : Vals vs us) (h : sp vs H Q EF) (back : ∀ v H' s', L2.Inv X pins σ H' s' → ∀ u, RelV v u → Q v H' → R u s') : wpAny (model X.prog X.w) X.A.in1 (call (.ref f) us) R X.xe s := by
  have hl := F.len _ _ _ _ h
  refine wpAny_call (codeAny_mono (F.run X.A.in1 X.stack s H ⟨us, []⟩ us vs Q EF hr.in1 I.env0.in1 (by
    have z := hb s us I.kIn (by rw [List.append_nil, ← r.length]; exact hl)
    simpa using z) r h) fun res s' z => ?_)
  match res, z with
  | .error er, z => exact passNo X pins σ H s er s' I z
  | .ok (.ret w), z =>
    obtain ⟨v, H', I', rv, q⟩ := I.after z
    exact back v H' s' I' w rv q
  | .ok .next, z => exact False.elim z
  | .ok .brk, z => exact False.elim z
  | .ok .cont, z => exact False.elim z
/-! ### len(x) of an own object -/
theorem call_lenO {k : Nat} {C f : Addr} {fd : FuncData} {ps : List Str} {sp : Sp} (F : FnG X.prog X.w X.K X.mg X.base (L2.CX X.prog X.w) k f fd ps sp) (M : Meth X.K C "__len__" f) (hb : Binds X.K fd ps []) (hr : RoomG (k + 1) X.A) :
    CallR X (.builtin "len") (fun xs H Q => ∃ a dx fs, xs = [.ref a] ∧ H a = some (.ins C dx fs) ∧ sp [.ref a] H (fun v H' => ∃ n : Int, v = .int n ∧ 0 ≤ n ∧ n < 1000000 ∧ Q (.int n) H') EF) := by
  rintro pins s σ H xs us Q I vals ⟨a, dx, fs, rfl, ea, hsp⟩
  cases vals with
  | cons r0 t0 =>
  cases t0
  cases r0
  obtain ⟨mA, J, _⟩ := ins_get I.hok ea
  obtain ⟨od, J, _⟩ := J.look
  obtain ⟨m, hF⟩ := I.fr
  refine PySem.W.len_K hF I.ok.mod.kin J M.at_ M.fn (run_in1 (vs := [.ref a]) F hr hb I (.cons rfl .nil) hsp fun v H' s' I' u ru ⟨n, ev, h0, h1, q⟩ => ?_)
  subst ev
  obtain ⟨t, rfl⟩ := id ru
  exact ⟨⟨h0, by omega⟩, .int n, H', I'.tok _, ⟨_, rfl⟩, q⟩
def intBack : Res → Option Int
  | .ok (.int n) _ => if 0 ≤ n ∧ n < 1000000 then some n else none
  | _ => none
def lenG (T : Nat → List Str) (tb : STab) : GC := fun h vs => match vs with
  | [.obj c fs] => (match tb.lookup c with
    | some f => (intBack (callP T f [.obj c fs] h)).map fun n => (.int n, h)
    | none => none)
  | vs => gLen h vs
def LenOk (T : Tb) (X : Cx) (tb : STab) : Prop := ∃ r, CallR X (.builtin "len") r ∧ LiftC T X.K r (lenG T.fn tb)
theorem len_nil : LenOk T X [] := ⟨_, call_len, by
  intro io h F H vs xs z h' Q sr rr e q
  refine lift_len io h F H vs xs z h' Q sr rr ?_ q
  unfold lenG at e
  split at e
  · cases e
  · exact e⟩
theorem wants_back {K : PySem.W.Frag} {io : Nat → Addr} {h : Hh} {F H : Hp} {fx : Fx} {as : List Val} {R : VK} {P : Val → Prop} (ok : ∀ v h2, callP T.fn fx as h = .ok v h2 → P v) (ex : ∃ v h2, callP T.fn fx as h = .ok v h2)
    (q : ∀ v io1 F1 H1 x, P v → Step io h.length F H io1 h.length F1 H1 → SR T K io1 h F1 H1 → VR T K io1 h.length F1 v x → R x H1) : Wants T K io h.length F H EF R (callP T.fn fx as h) := by
  obtain ⟨v, h2, e⟩ := ex
  have p := ok v h2 e
  have eh := callP_heap e
  subst eh
  rw [e]
  exact fun io1 F1 H1 x st sr1 vr => q v io1 F1 H1 x p st sr1 vr
theorem len_cons {c : Nat} {k : Nat} {f : Addr} {ps : List Str} {fx : Fx} {tb : STab} (C : CalleeX T X k f ps fx []) (M : Meth X.K (He.ga X.K (T.cn c)) "__len__" f) (hr : RoomG (k + 1) X.A) (h : LenOk T X tb) : LenOk T X ((c, fx) :: tb) := by
  obtain ⟨r, cr, lf⟩ := h
  obtain ⟨fd, ds, G, kp, hv, hb⟩ := C
  cases hv
  refine ⟨_, CallR.or (call_lenO G M hb hr) cr, ?_⟩
  intro io h F H vs xs z h' Q sr rr e q
  have other : lenG T.fn tb h vs = some (z, h') → r xs H Q := fun e2 => lf io h F H vs xs z h' Q sr rr e2 q
  unfold lenG at e
  split at e
  · rename_i cc us
    by_cases hc : cc = c
    · subst hc
      simp only [List.lookup_cons_self] at e
      obtain ⟨n, e1, e2⟩ := map_some e
      cases e2
      obtain ⟨x, rfl, r1⟩ := one_of rr
      have r1' := r1
      cases r1 with
      | @obj _ _ a dx ys q1 qd r2 hl =>
        refine .inl ⟨a, dx, _, rfl, sr.sub _ _ q1, callP_ok sr (.cons r1' .nil) ?_⟩
        cases ec : callP T.fn fx [.obj cc us] h with
        | bad => rw [ec] at e1; cases e1
        | exc c fs h2 => rw [ec] at e1; cases e1
        | ok v h2 =>
          have eh := callP_heap ec
          subst eh
          rw [ec] at e1
          unfold intBack at e1
          cases v with
          | int i =>
            dsimp only at e1
            split at e1
            · rename_i hz
              cases e1
              intro io1 F1 H1 x1 st sr1 vr1
              cases vr1
              exact ⟨_, rfl, hz.1, hz.2, q io1 F1 H1 _ st sr1 (.int _)⟩
            · cases e1
          | _ => cases e1
    · have z1 : (cc == c) = false := beq_false_of_ne hc
      simp only [List.lookup_cons, z1] at e
      exact .inr (other e)
  · rename_i hne
    refine .inr (other ?_)
    unfold lenG
    split
    · rename_i a b
      exact absurd rfl (hne a b)
    · exact e
theorem je_lenT {tb : STab} {e : Expr} {fl : Lx} {p : Pos} (h : LenOk T X tb) (hm : X.mg "len" = none) (ha : JA T X W [e] fl) (hg : Gl X "len" := by rfl) (he : starEach [e] X.env = (false, eval e X.env) :: starEach [] X.env := by rfl) (hpl : (backTo pos (starEach [] X.env)).any (·.1) = false := by rfl) :
    JE T X W (.Call (.Name "len" p) [e] [] pos) (xCB (lenG T.fn tb) fl) := by
  obtain ⟨r, cr, lf⟩ := h
  exact je_callB cr lf hm ha (hg := hg) (he := he) (hpl := hpl)
/-! ### a classmethod of a class -/
theorem code_fnG {k : Nat} {f : Addr} {fd : FuncData} {ps : List Str} {sp : Sp} {dvs : List V} {ds : List Value} {pins : List (Addr × PySem.Obj)} {σ : L2.St} {H : Hp} {s : Shared} {Q : VK} {us : List Value} {vs : List V} {Eσ : XK} (F : FnG X.prog X.w X.K X.mg X.base (L2.CX X.prog X.w) k f fd ps sp) (hr : RoomG k X.A) (hb : Binds X.K fd ps ds) (hd : Vals dvs ds) (hx : PassesAt (L2.CX X.prog X.w) X σ Eσ)
    (I : L2.Inv X pins σ H s) (r : Vals vs us) (h : sp (vs ++ dvs) H Q Eσ) : codeAny (model X.prog X.w) X.A (.call (.ref f) ⟨us, []⟩) (fun r s' => match r with | .ok (.ret v) => EP X pins σ Q v s' | .ok _ => False | .error e => X.xe e s') s := by
  have both : Vals (vs ++ dvs) (us ++ ds) := r.append hd
  refine codeAny_mono (F.run X.A X.stack s H ⟨us, []⟩ (us ++ ds) (vs ++ dvs) Q Eσ hr I.env0 (hb s us I.kIn (both.length.symm.trans (F.len _ _ _ _ h))) both h) fun res s' hres => ?_
  match res, hres with
  | .error er, z => exact hx pins H s er s' I z
  | .ok (.ret u), z => exact I.after z
  | .ok .next, z => exact False.elim z
  | .ok .brk, z => exact False.elim z
  | .ok .cont, z => exact False.elim z
theorem run_cmG {C g : Addr} {pins : List (Addr × PySem.Obj)} {σ : L2.St} {H : Hp} {s : Shared} {k : Nat} {fd : FuncData} {ps : List Str} {ds : List Value} {dvs : List V} {q : Addr} {sp : Sp} {Eσ : XK} {Q : VK} {us : List Value} {vs : List V} (F : FnG X.prog X.w X.K X.mg X.base (L2.CX X.prog X.w) k g fd ps sp) (hr : RoomG k X.A) (hb : Binds X.K fd ps ds) (hd : Vals dvs ds) (hx : PassesAt (L2.CX X.prog X.w) X σ Eσ)
    (I : L2.Inv X ((q, PySem.W.methodObj (.ref g) (.ref C)) :: pins) σ H s) (r : Vals vs us) (h : sp (.ref C :: (vs ++ dvs)) H Q Eσ) : wpAny (model X.prog X.w) X.A (call (.ref q) us) (EP X pins σ Q) X.xe s :=
  thn (wpAny_call (PySem.W.method_call (ClX.pin_at I) (code_fnG (us := .ref C :: us) (vs := .ref C :: vs) F hr hb hd hx I (.cons rfl r) h))) fun _ _ y => ClX.unpinE y
def tCMethS (C : Addr) (sp : Sp) (dvs : List V) (E : L2.St → XK) (ta : TE) (t : TA) : TE := fun σ H Q => ta σ H fun x H1 => x = .ref C ∧ t σ H1 fun vs H2 => sp (.ref C :: (vs ++ dvs)) H2 Q (E σ)
section
variable {pl : Sem Bool} {C g pa : Addr} {mc : Value} {m : Str} {o e : Expr} {es : List Expr} {apos : Pos} {k : Nat} {fd : FuncData} {ps : List Str} {ds : List Value} {dvs : List V} {sp : Sp} {E : L2.St → XK} {ta : TE} {t : TA}
theorem pe_cmethG (he : PE X o ta) (r : ClX.CRead X.K C mc) (c : ClX.CMet X.K C mc m pa g) (F : FnG X.prog X.w X.K X.mg X.base (L2.CX X.prog X.w) k g fd ps sp) (hr : RoomG k X.A) (hb : Binds X.K fd ps ds) (hd : Vals dvs ds) (hx : ∀ σ, PassesAt (L2.CX X.prog X.w) X σ (E σ)) (ha : PA X (e :: es) t)
    (hst : starEach (e :: es) X.env = (false, eval e X.env) :: starEach es X.env) (hpl : (backTo pos (starEach es X.env)).any (·.1) = false)
    (ht : eval (.Call (.Attribute o m apos) (e :: es) [] pos) X.env = (eval o X.env >>= fun ov => standAt apos.atName >>= fun _ => holding [ov] (getMethod ov m pl) >>= fun p => callWith pos p.1 p.2 (backTo pos (starEach (e :: es) X.env)) (backToKw pos (keywordEach [] X.env)))) :
    PE X (.Call (.Attribute o m apos) (e :: es) [] pos) (tCMethS C sp dvs E ta t) := by
  refine ⟨fun pins s σ H Q I h => PySem.W.methodCall_KW (pl := pl) (thn (he.run pins s σ H _ I h) fun u s1 ⟨x, H1, I1, rx, ex, q⟩ => ?_) ht⟩
  subst ex
  cases (show u = Value.ref C from rx)
  exact ClX.getmethcm_ok I1 r c fun s2 I2 => ClX.callwith_cm I2 (ClX.base_none I1 (Nat.le_refl _)) c.fi (thn (ha.run pos _ s2 σ H1 _ I2 q) fun us s3 ⟨vs, H2, I3, rv, q2⟩ => ⟨⟨ClX.pin_at I3, I3.kIn⟩, run_cmG F hr hb hd (hx σ) I3 rv q2⟩) hst hpl
end
/-- C.m(..), the class C handed on as a value of the module -/
def xCmP (T : Nat → List Str) (c : Nat) (f : Fx) (dfl : List Val) (l : Lx) : Ex := fun sg h => (l sg h).bind fun as h1 => callP T f (.glo c :: (as ++ dfl)) h1
theorem jc_C {pl : Sem Bool} {c : Nat} {m x : Str} {g pa : Addr} {mc : Value} {k : Nat} {ps : List Str} {f : Fx} {dvs : List V} {dfl : List Val} {e : Expr} {es : List Expr} {fl : Lx} {apos p : Pos} (r : ClX.CRead X.K (He.ga X.K (T.gn c)) mc) (cm : ClX.CMet X.K (He.ga X.K (T.gn c)) mc m pa g) (C : CalleeX T X k g ps f dvs) (hr : RoomG k X.A)
    (hm : X.mg x = some (.ref (He.ga X.K (T.gn c)))) (hD : Dfl T X.K dfl dvs) (tk : Takes X W) (ha : JA T X W (e :: es) fl) (hg : Gl X x := by rfl) (hdb : (x == ("__debug__" : Str)) = false := by decide)
    (hst : starEach (e :: es) X.env = (false, eval e X.env) :: starEach es X.env := by rfl) (hpl : (backTo pos (starEach es X.env)).any (·.1) = false := by rfl)
    (ht : eval (.Call (.Attribute (.Name x p) m apos) (e :: es) [] pos) X.env = (eval (.Name x p) X.env >>= fun ov => standAt apos.atName >>= fun _ => holding [ov] (getMethod ov m pl) >>= fun p => callWith pos p.1 p.2 (backTo pos (starEach (e :: es) X.env)) (backToKw pos (keywordEach [] X.env))) := by rfl) :
    JE T X W (.Call (.Attribute (.Name x p) m apos) (e :: es) [] pos) (xCmP T.fn c f dfl fl) := by
  obtain ⟨fd, ds, G, kp, hv, hb⟩ := C
  refine pe_imp (pe_cmethG (E := fun σ c d H => W c d σ H) (pe_glob (v := .ref (He.ga X.K (T.gn c))) hg hm rfl hdb) r cm G hr hb hv (fun σ => passAt tk σ) ha hst hpl ht) fun σ H Q ⟨io, h, F, sg, sr, rs, w⟩ => ?_
  refine ⟨rfl, io, h, F, sg, sr, rs, Wants.bindOfL w fun vs h1 io1 F1 H1 xs st sr1 vrs w1 => ?_⟩
  exact callP_ok sr1 (.cons (.glo c) (vrs.append (hD _ _ _))) w1
/-! ### cls(..): a local that holds an own class -/
def xMakeL (T : Nat → List Str) (i c : Nat) (f : Fx) (dfl : List Val) (l : Lx) : Ex := fun sg h => match sg[i]? with
  | some (some (.glo c')) => if c' = c then (l sg h).bind fun as h1 => makeP T c f (as ++ dfl) h1 else .bad
  | _ => .bad
theorem jc_L (i : Nat) {c : Nat} {x : Str} {a : Addr} {k : Nat} {ps : List Str} {f : Fx} {dvs : List V} {dfl : List Val} {e : Expr} {es : List Expr} {fl : Lx} {p : Pos} (hf : ∀ as h v h', f h as = .ok v h' → v = .non) (M : Mk X.K (He.ga X.K (T.cn c)) a) (C : CalleeX T X k a ps f dvs) (hr : RoomG (k + 1) X.A) (hcg : T.gn c = T.cn c) (hD : Dfl T X.K dfl dvs) (tk : Takes X W)
    (ha : JA T X W (e :: es) fl) (hN : X.N[i]? = some x := by rfl) (hvis : Vis X.env.scope x := by first | exact .inl rfl | exact .inr (.inl rfl) | exact .inr (.inr rfl)) (hdb : (x == ("__debug__" : Str)) = false := by decide) (hcd : (x == ("__classdict__" : Str)) = false := by decide)
    (he : starEach (e :: es) X.env = (false, eval e X.env) :: starEach es X.env := by rfl) (hpl : (backTo pos (starEach es X.env)).any (·.1) = false := by rfl) : JE T X W (.Call (.Name x p) (e :: es) [] pos) (xMakeL T.fn i c f dfl fl) := by
  obtain ⟨fd, ds, G, kp, hv, hb⟩ := C
  refine ⟨fun pins s σ H Q I ⟨io, h, F, sg, sr, rs, w⟩ => ?_⟩
  unfold xMakeL at w
  cases es0 : sg[i]? with
  | none => rw [es0] at w; exact w.elim
  | some ov =>
    cases ov with
    | none => rw [es0] at w; exact w.elim
    | some v =>
      rw [es0] at w
      obtain ⟨y, ey, vy⟩ := rs.at_ i v es0
      cases v with
      | glo c' =>
        dsimp only at w
        by_cases hc : c' = c
        · subst hc
          rw [if_pos rfl] at w
          cases vy
          rw [hcg] at ey
          refine wpAny_Call_Name_kw (thn ((pe_var (pos := p) hN hvis hdb hcd).run pins s σ H (fun v H1 => v = .ref (He.ga X.K (T.cn c')) ∧ H1 = H) I ⟨_, ey, rfl, rfl⟩) fun u s1 ⟨v, H1, I1, r1, e1, e2⟩ => ?_)
          subst e1 e2
          cases (show u = Value.ref (He.ga X.K (T.cn c')) from r1)
          refine PySem.W.callWith_K (h₀ := X.base) I.ok.mod.kin M.kp (thn (ha.run pos pins s1 σ _ (fun vs H2 => ∀ x dx, H2 x = none → H2 dx = none → dx ≠ x → spF T X.K f (.ref x :: (vs ++ dvs)) (upd (upd H2 dx (.own x)) x (.ins (He.ga X.K (T.cn c')) dx [])) (fun v H3 => v = .non ∧ Q (.ref x) H3) (fun c d H => W c d σ H)) I1 ⟨io, h, F, sg, sr, rs, Wants.bindOfL w fun vs h1 io1 F1 H2 xs st sr1 vrs w1 => ?_⟩) fun us s2 ⟨vs, H2, I2, r, q⟩ => ⟨I2.kIn, run_makeS M G hr hb hv (passAt tk σ) I2 r q⟩) he hpl
          exact makeP_ok (c := c') hf sr1 (vrs.append (hD _ _ _)) w1
        · rw [if_neg hc] at w; exact w.elim
      | _ => exact w.elim
end
end Py

namespace Py
open PySem PySem.Spec PyProof.Rows L2
/-! ### a classmethod's facts -/
def cmA (K : PySem.W.Frag) (x m : Str) : Addr := match PySem.W.recIn K (He.ma K (He.ga K x) m) "classmethod" with
  | some (.ref g :: _) => g
  | _ => 0
def cmB (K : PySem.W.Frag) (x m : Str) : Bool := PySem.W.readsIn K (He.ga K x) (.type "type") && (He.eqO (PySem.W.specialIn K (.ref (He.ga K x)) "__getattribute__") (some (some (.builtin "type.__getattribute__"))) &&
  ((match PySem.W.findCls K (.ref (He.ga K x)) (.type "type") m with
    | some (.get a b c d) => decide (a = .builtin "classmethod.__get__") && (decide (b = .ref (He.ma K (He.ga K x) m)) && (decide (c = .none) && decide (d = .ref (He.ga K x))))
    | _ => false) && ((match PySem.W.recIn K (He.ma K (He.ga K x) m) "classmethod" with | some (.ref _ :: _) => true | _ => false) && PySem.W.fnIn K (cmA K x m))))
theorem cr_of {K : PySem.W.Frag} {x m : Str} (h : cmB K x m = true) : ClX.CRead K (He.ga K x) (.type "type") := by
  obtain ⟨h1, h⟩ := He.ba h
  obtain ⟨h2, h⟩ := He.ba h
  exact ⟨h1, He.eqO_ok h2⟩
theorem cm_of {K : PySem.W.Frag} {x m : Str} (h : cmB K x m = true) : ClX.CMet K (He.ga K x) (.type "type") m (He.ma K (He.ga K x) m) (cmA K x m) := by
  obtain ⟨_, h⟩ := He.ba h
  obtain ⟨_, h⟩ := He.ba h
  obtain ⟨h3, h⟩ := He.ba h
  obtain ⟨h4, h5⟩ := He.ba h
  refine ⟨?_, ?_, h5⟩
  · split at h3
    · rename_i a b c d e
      simp only [Bool.and_eq_true, decide_eq_true_eq] at h3
      obtain ⟨rfl, rfl, rfl, rfl⟩ := h3
      exact e
    · cases h3
  · unfold cmA
    split at h4
    · rename_i g rest e
      rw [e]
      exact ⟨rest, rfl⟩
    · cases h4
/-! ### a default that is the empty tuple -/
def tup0B (K : PySem.W.Frag) (a : Addr) : Bool := match K.lookup a with
  | some ⟨.type c, _, .seq its _, _⟩ => decide (c = "tuple") && decide (its.size = 0)
  | _ => false
theorem tup0_ok {K : PySem.W.Frag} {a : Addr} (h : tup0B K a = true) (H : Hp) : SqT K H a [] := by
  unfold tup0B at h
  split at h
  · rename_i c od its n osl e
    obtain ⟨h1, h2⟩ := He.ba h
    have hz : its.size = 0 := of_decide_eq_true h2
    have hl : its.toList = [] := by
      apply List.eq_nil_of_length_eq_zero
      simpa using hz
    exact .inr ⟨_, its, n, e, congrArg Value.type (of_decide_eq_true h1), rfl, by rw [hz]; exact Nat.zero_le _, by rw [hl]; exact .nil⟩
  · cases h
/-! ### x == text, x an own object -/
section
variable {T : Tb} {X : Cx} {W : WX} {pos : Pos}
def rOwnS (C : Addr) (sp : Sp) : R2 := fun x y H Q => ∃ a z dx fs, x = .ref a ∧ y = .str z ∧ H a = some (.ins C dx fs) ∧ sp [.ref a, .str z] H (fun v H' => ∃ k, v = .bl k ∧ Q (.bl k) H') EF
theorem op_eqOS {k : Nat} {C f : Addr} {fd : FuncData} {ps : List Str} {sp : Sp} (F : FnG X.prog X.w X.K X.mg X.base (L2.CX X.prog X.w) k f fd ps sp) (M : Meth X.K C "__eq__" f) (hb : Binds X.K fd ps []) (hr : RoomG k X.A) (hs : PySem.W.subIn X.K (.type "str") (.ref C) = some false) :
    OpR X (compareOp .Eq) (rOwnS C sp) := by
  rintro pins s σ H x y v u Q I rx ry ⟨a, z, dx, fs, rfl, rfl, ea, hsp⟩
  cases rx
  obtain ⟨t, rfl⟩ := ry
  obtain ⟨mA, J, _⟩ := ins_get I.hok ea
  obtain ⟨od, J, _⟩ := J.look
  obtain ⟨m, hF⟩ := I.fr
  refine PySem.W.cmp_ofEq (PySem.W.cmp_K (op := .Eq) (tb := .type "str") hr.units0 hF I.ok.mod.kin J (PySem.W.Looks.of_pure rfl) (by simp [PySem.W.notFirst, hs]) M.at_ M.fn ?_)
  have z0 : wpAny (model X.prog X.w) X.A (call (.ref f) [.ref a, .str z t]) (EP X pins σ fun v H' => ∃ k, v = .bl k ∧ Q (.bl k) H') X.xe s :=
    run_fnG (E := fun _ => EF) (dvs := []) (ds := []) (vs := [.ref a, .str z]) (us := [.ref a, .str z t]) F hr hb .nil (fun pins H s er s' I z => passNo X pins σ H s er s' I z) I (.cons rfl (.cons ⟨t, rfl⟩ .nil)) (by simpa using hsp)
  refine wpAny_mono z0 (fun w s' h => ?_) fun _ _ e => e
  obtain ⟨v, H', I', rv, k, ev, q⟩ := h
  subst ev
  cases rv
  exact ⟨.bl k, H', I', rfl, q⟩
def eqS (T : Nat → List Str) (tb : STab) (h : Hh) (v u : Val) : Option Bool := match v, u with
  | .obj c fs, .str s => (match tb.lookup c with
    | some f => boolBack (callP T f [.obj c fs, .str s] h)
    | none => none)
  | v, u => eqG T tb h v u
def gEqS (T : Nat → List Str) (tb : STab) : G2 := fun h v u => (eqS T tb h v u).map .bl
def EqSOk (T : Tb) (X : Cx) (tb : STab) : Prop := ∃ r, OpR X (compareOp .Eq) r ∧ Lift2 T X.K r (gEqS T.fn tb)
/-- one class -/
theorem eqS_one {c : Nat} {k : Nat} {f : Addr} {ps : List Str} {fx : Fx} (C : CalleeX T X k f ps fx []) (M : Meth X.K (He.ga X.K (T.cn c)) "__eq__" f) (hs : PySem.W.subIn X.K (.type "str") (.ref (He.ga X.K (T.cn c))) = some false) (hr : RoomG (k + 1) X.A) (h : EqOk T X [(c, fx)]) : EqSOk T X [(c, fx)] := by
  obtain ⟨⟨r, or1, lf⟩, _⟩ := h
  obtain ⟨fd, ds, G, kp, hv, hb⟩ := C
  cases hv
  refine ⟨_, OpR.or (op_eqOS G M hb (hr.mono (by omega)) hs) or1, ?_⟩
  intro io h F H v u x y z Q sr vr ur e q
  obtain ⟨b, e1, rfl⟩ := map_some e
  have other : eqG T.fn [(c, fx)] h v u = some b → r x y H Q := fun e2 => lf io h F H v u x y _ Q sr vr ur (by unfold gEqT; rw [e2]; rfl) q
  unfold eqS at e1
  split at e1
  · rename_i cc fs s
    by_cases hc : cc = c
    · subst hc
      simp only [List.lookup_cons_self] at e1
      refine .inl ?_
      have vr' := vr
      have ur' := ur
      cases vr with
      | @obj _ us a dx ys q1 qd r2 hl =>
        cases ur
        refine ⟨a, _, dx, _, rfl, rfl, sr.sub _ _ q1, callP_ok sr (.cons vr' (.cons ur' .nil)) ?_⟩
        cases ec : callP T.fn fx [.obj cc fs, .str s] h with
        | bad => rw [ec] at e1; cases e1
        | exc c fs h' => rw [ec] at e1; cases e1
        | ok v h2 =>
          have eh := callP_heap ec
          subst eh
          rw [ec] at e1
          cases v with
          | bl k =>
            cases e1
            intro io1 F1 H1 x1 st sr1 vr1
            cases vr1
            exact ⟨_, rfl, q F1 H1 _ st.reio (sr1.reio st.eq) (.bl _)⟩
          | _ => cases e1
    · have z1 : (cc == c) = false := beq_false_of_ne hc
      simp only [List.lookup_cons, z1, List.lookup_nil] at e1
      cases e1
  · exact .inr (other e1)
section
variable {a b : Expr} {fa fb : Ex} {tb : STab}
theorem je_eqS (h : EqSOk T X tb) (ha : JE T X W a fa) (hb : JE T X W b fb) (hm : behindInMarks .Eq b = false := by first | exact nomark _ | rfl | with_unfolding_all rfl) : JE T X W (.Compare a [.Eq] [b] pos) (xOp (gEqS T.fn tb) fa fb) := by
  obtain ⟨r, o, l⟩ := h
  exact je_cmp o l ha hb hm
theorem jt_eqS (h : EqSOk T X tb) (ha : JE T X W a fa) (hb : JE T X W b fb) (hm : behindInMarks .Eq b = false := by first | exact nomark _ | rfl | with_unfolding_all rfl) : JT T X W (.Compare a [.Eq] [b] pos) (xOp (gEqS T.fn tb) fa fb) := by
  obtain ⟨r, o, l⟩ := h
  exact jt_cmp o l ha hb hm
end
/-! ### x[i], x an own object -/
theorem ix_own {k : Nat} {C f : Addr} {fd : FuncData} {ps : List Str} {sp : Sp} (F : FnG X.prog X.w X.K X.mg X.base (L2.CX X.prog X.w) k f fd ps sp) (M : Meth X.K C "__getitem__" f) (hfi : PySem.W.fnIn X.K f = true) (hb : Binds X.K fd ps []) (hr : RoomG (k + 1) X.A) (value slice : Expr) {pins : List (Addr × PySem.Obj)} {s : Shared} {σ : L2.St} {H : Hp} {a dx : Addr} {fs : List (Str × V)} {i : Int} {t : Tok} {Q : VK} (I : L2.Inv X pins σ H s) (ea : H a = some (.ins C dx fs)) (h : sp [.ref a, .int i] H Q EF)
    (hsl : subscripted slice true (.ref a) (.int i t) = runValue (.builtin "lifetime.subscript" ⟨[.ref a, .int i t], []⟩)) : wpAny (model X.prog X.w) X.A (subscriptTail value slice (.ref a) (.int i t)) (EP X pins σ Q) X.xe s := by
  obtain ⟨mA, J, _⟩ := ins_get I.hok ea
  obtain ⟨od, J, _⟩ := J.look
  obtain ⟨m, hF⟩ := I.fr
  exact PySem.W.sub_K hF I.ok.mod.kin J M.at_ hfi M.fn (run_in1 (vs := [.ref a, .int i]) F hr hb I (.cons rfl (.cons ⟨t, rfl⟩ .nil)) h fun v H' s' I' u ru q => ⟨v, H', I', ru, q⟩) hsl
def xIxO (T : Nat → List Str) (c : Nat) (f : Fx) (a b : Ex) : Ex := fun sg h => (a sg h).bind fun v h1 => (b sg h1).bind fun u h2 => match v, u with
  | .obj c' fs, .int i => if c' = c then noX (callP T f [.obj c' fs, .int i] h2) else .bad
  | _, _ => .bad
theorem je_ixO {c k : Nat} {f : Addr} {ps : List Str} {fx : Fx} {a b : Expr} {fa fb : Ex} (C : CalleeX T X k f ps fx []) (M : Meth X.K (He.ga X.K (T.cn c)) "__getitem__" f) (hfi : PySem.W.fnIn X.K f = true) (hr : RoomG (k + 1) X.A) (ha : JE T X W a fa) (hb : JE T X W b fb)
    (hsl : ∀ (p : Addr) (i : Int) (t : Tok), subscripted b true (.ref p) (.int i t) = runValue (.builtin "lifetime.subscript" ⟨[.ref p, .int i t], []⟩) := by intro _ _ _; with_unfolding_all rfl) : JE T X W (.Subscript a b pos) (xIxO T.fn c fx fa fb) := by
  obtain ⟨fd, ds, G, kp, hv, hbd⟩ := C
  cases hv
  have P : PE X (.Subscript a b pos) (tOp (fun x y H Q => ∃ p dx fs i, x = .ref p ∧ y = .int i ∧ H p = some (.ins (He.ga X.K (T.cn c)) dx fs) ∧ spF T X.K fx [.ref p, .int i] H Q EF) (tE T X.K W fa) (tE T X.K W fb)) :=
    ⟨fun pins s σ H Q I h => Subscript_ (binT ha hb I h fun v u s2 x y H2 I2 rx ry ⟨p, dx, fs, i, ex, ey, ep, q⟩ => by
      subst ex ey
      cases (show v = Value.ref p from rx)
      obtain ⟨t, rfl⟩ := ry
      exact ix_own G M hfi hbd hr a b I2 ep q (hsl p i t))⟩
  refine pe_imp P fun σ H Q ⟨io, h, F, sg, sr, rs, w⟩ => ⟨io, h, F, sg, sr, rs, Wants.bind w fun v h1 io1 F1 H1 x st sr1 vr w1 => ⟨io1, h1, F1, sg, sr1, rs.step st, Wants.bind w1 fun u h2 io2 F2 H2 y st2 sr2 ur w2 => ?_⟩⟩
  have vr2 := vr.step st2
  have vr3 := vr2
  have ur3 := ur
  cases vr2 with
  | @obj c' us p dx ys q1 qd r2 hl =>
    cases ur with
    | int i =>
      dsimp only at w2
      by_cases hc : c' = c
      · subst hc
        rw [if_pos rfl] at w2
        exact ⟨p, dx, _, i, rfl, rfl, sr2.sub _ _ q1, callP_ok sr2 (.cons vr3 (.cons ur3 .nil)) (noX_ok w2)⟩
      · rw [if_neg hc] at w2; exact w2.elim
    | _ => exact w2.elim
  | _ => exact w2.elim
end
end Py

namespace Py
open PySem PySem.Spec PyProof.Rows L2
def tidxB (K : PySem.W.Frag) (x : Str) : Bool := match K.lookup (He.ga K x) with
  | some o => decide (o.cls = .type "tuple") && o.dict.isNone
  | none => false
def TidxOk (K : PySem.W.Frag) (x : Str) : Prop := ∃ o, K.lookup (He.ga K x) = some o ∧ o.cls = .type "tuple" ∧ o.dict = none
theorem tidx_of {K : PySem.W.Frag} {x : Str} (h : tidxB K x = true) : TidxOk K x := by
  unfold tidxB at h
  split at h
  · rename_i o e
    obtain ⟨h1, h2⟩ := He.ba h
    exact ⟨o, e, of_decide_eq_true h1, Option.isNone_iff_eq_none.mp h2⟩
  · cases h
/-! ### the head's hook over a written list of addresses -/
def obsPL (as : List Addr) (chk : PySem.W.Frag → Bool) (fn : List DefP) (g : Addr → Option PySem.Obj) : He.AlD := obsP chk fn (He.frG g as)
def hookL (as : List Addr) (chk : PySem.W.Frag → Bool) (fn : List DefP) : PySem.W.Hook where
  α := He.AlD
  obs := fun s => obsPL as chk fn s.heap.get?
  val := fun _ => valP fn
  says := fun _ h => ∃ K : PySem.W.Frag, K.In h ∧ SaysP chk fn K
  of := fun _ _ e => ⟨_, He.frG_in, e⟩
  keeps := fun _ _ _ ⟨K, hK, c⟩ k => ⟨K, PySem.W.Frag.In.keeps hK k, c⟩
theorem obsPL_eq {as : List Addr} {chk : PySem.W.Frag → Bool} {fn : List DefP} {g : Addr → Option PySem.Obj} {s : Shared} (h : ∀ a, g a = s.heap.get? a) : obsPL as chk fn g = (hookL as chk fn).obs s := by
  obtain rfl : g = s.heap.get? := funext h
  rfl
end Py

namespace Law
open PySem PySem.Spec PyProof.Rows L2 Py
def topS (i : Nat) : Stmt := PySem.Challenge.pw_dimdays_k47_comparing_known.main.body.getD i (.Pass ⟨0, 0, 0, 0⟩)
def TBc : Nat → Str := fun c => match c with
    | 0 => "DimError"
    | 1 => "InvalidDay"
    | 2 => "InvalidRule"
    | 3 => "InvalidFrame"
    | 4 => "InvalidText"
    | 5 => "InvalidLooks"
    | 6 => "NoMeeting"
    | 7 => "Day"
    | 8 => "Rule"
    | 9 => "Frame"
    | _ => "?"
def TBf : Nat → List Str := fun c => match c with
    | 0 => []
    | 1 => ["word"]
    | 2 => ["word"]
    | 3 => ["word"]
    | 4 => ["at"]
    | 5 => ["at"]
    | 6 => ["at"]
    | 7 => ["length", "meetings"]
    | 8 => ["step", "gap", "least", "private", "hours"]
    | 9 => ["length", "shortest", "most", "private", "known"]
    | _ => []
def TBg : Nat → Str := fun c => match c with
    | 0 => "DimError"
    | 1 => "InvalidDay"
    | 2 => "InvalidRule"
    | 3 => "InvalidFrame"
    | 4 => "InvalidText"
    | 5 => "InvalidLooks"
    | 6 => "NoMeeting"
    | 7 => "Day"
    | 8 => "Rule"
    | 9 => "Frame"
    | 100 => "begun_part"
    | 101 => "grown_part"
    | _ => "?"
abbrev TB (P : Program) (w : World) : Tb := ⟨TBc, TBf, TBg, P, w⟩
abbrev is_Rule : List (Nat × Bool) := [(8, true)]
abbrev s_Lseed : Stmt := topS 71
abbrev s_Lchoose : Stmt := topS 72
abbrev s_Lmixed : Stmt := topS 73
abbrev s_Lwritten : Stmt := topS 75
abbrev s_number_in : Stmt := topS 17
abbrev s_is_integer : Stmt := topS 13
abbrev s_is_number : Stmt := topS 14
abbrev s_is_bool : Stmt := topS 15
abbrev s_is_sequence : Stmt := topS 16
abbrev s_are_known : Stmt := topS 35
abbrev s_Frame_init : Stmt := inClass (topS 36) 0
abbrev s_known_in : Stmt := topS 37
abbrev s_Frame_read : Stmt := inClass (topS 36) 1
abbrev s_are_hours : Stmt := topS 28
abbrev s_Rule_init : Stmt := inClass (topS 29) 0
abbrev s_Lrule_told : Stmt := topS 74
abbrev s_is_block : Stmt := topS 31
abbrev s_is_view : Stmt := topS 32
abbrev s_is_look : Stmt := topS 38
abbrev s_need_looks : Stmt := topS 39
abbrev s_prepared : Stmt := topS 43
abbrev s_begun : Stmt := topS 42
abbrev s_is_let : Stmt := topS 45
abbrev s_Rule_word_of : Stmt := inClass (topS 29) 5
abbrev s_Rule_down : Stmt := inClass (topS 29) 6
abbrev s_Rule_up : Stmt := inClass (topS 29) 7
abbrev s_Rule_joins : Stmt := inClass (topS 29) 8
abbrev s_Rule_shown : Stmt := inClass (topS 29) 9
abbrev s_settled : Stmt := topS 44
abbrev s_begun_part : Stmt := topS 46
abbrev s_grown_part : Stmt := topS 47
abbrev s_led : Stmt := topS 48
abbrev s_follow : Stmt := topS 49
abbrev s_can_come : Stmt := topS 52
abbrev s_is_hopeful : Stmt := topS 51
abbrev s_part_grown : Stmt := topS 60
abbrev s_closed : Stmt := topS 58
abbrev s_part_begun : Stmt := topS 59
abbrev s_parts_behind : Stmt := topS 61
abbrev s_put_away : Stmt := topS 62
abbrev s_lightened_part : Stmt := topS 53
abbrev s_lightened : Stmt := topS 54
abbrev s_steps : Stmt := topS 64
abbrev s_is_closing : Stmt := topS 50
abbrev s_view_of : Stmt := topS 63
abbrev s_table : Stmt := topS 65
abbrev s_is_meeting : Stmt := topS 21
abbrev s_are_meetings : Stmt := topS 22
abbrev s_Day_init : Stmt := inClass (topS 23) 0
abbrev s_day_of : Stmt := topS 56
abbrev s_parting : Stmt := topS 68
abbrev s_finer : Stmt := topS 69
abbrev s_views : Stmt := topS 67
abbrev s_law : Stmt := topS 76
def names0 : List PySem.Str := [("_wall" : PySem.Str), ("DimError" : PySem.Str), ("InvalidDay" : PySem.Str), ("InvalidRule" : PySem.Str), ("InvalidFrame" : PySem.Str), ("InvalidText" : PySem.Str), ("InvalidLooks" : PySem.Str), ("NoMeeting" : PySem.Str), ("WORDS" : PySem.Str), ("DIGITS" : PySem.Str), ("MOST_DIGITS" : PySem.Str), ("is_integer" : PySem.Str), ("is_number" : PySem.Str), ("is_bool" : PySem.Str), ("is_sequence" : PySem.Str), ("number_in" : PySem.Str), ("range_in" : PySem.Str), ("ENDING" : PySem.Str), ("is_meeting" : PySem.Str), ("are_meetings" : PySem.Str), ("Day" : PySem.Str), ("meeting_in" : PySem.Str), ("SORTS" : PySem.Str), ("HEADS" : PySem.Str), ("are_hours" : PySem.Str), ("Rule" : PySem.Str), ("is_block" : PySem.Str), ("is_view" : PySem.Str), ("MARKS" : PySem.Str), ("are_known" : PySem.Str)]
def names1 : List PySem.Str := [("Frame" : PySem.Str), ("known_in" : PySem.Str), ("is_look" : PySem.Str), ("need_looks" : PySem.Str), ("LETTERS" : PySem.Str), ("begun" : PySem.Str), ("prepared" : PySem.Str), ("settled" : PySem.Str), ("is_let" : PySem.Str), ("begun_part" : PySem.Str), ("grown_part" : PySem.Str), ("led" : PySem.Str), ("follow" : PySem.Str), ("is_closing" : PySem.Str), ("is_hopeful" : PySem.Str), ("can_come" : PySem.Str), ("lightened_part" : PySem.Str), ("lightened" : PySem.Str), ("day_of" : PySem.Str), ("closed" : PySem.Str), ("part_begun" : PySem.Str), ("part_grown" : PySem.Str), ("parts_behind" : PySem.Str), ("put_away" : PySem.Str), ("view_of" : PySem.Str), ("steps" : PySem.Str), ("table" : PySem.Str), ("views" : PySem.Str), ("parting" : PySem.Str), ("finer" : PySem.Str)]
def names2 : List PySem.Str := [("_law_seed" : PySem.Str), ("_law_choose" : PySem.Str), ("_law_mixed" : PySem.Str), ("_law_rule_told" : PySem.Str), ("_law_written" : PySem.Str)]
def names : List PySem.Str := names0 ++ names1 ++ names2
def D_Lseed : DefP := ⟨fun K => He.ga K "_law_seed", ⟨("_law_seed", none), "_law_seed", "_law_seed", defArgs s_Lseed, defBody s_Lseed, defScope s_Lseed, [], []⟩⟩
def D_Lchoose : DefP := ⟨fun K => He.ga K "_law_choose", ⟨("_law_choose", none), "_law_choose", "_law_choose", defArgs s_Lchoose, defBody s_Lchoose, defScope s_Lchoose, [], []⟩⟩
def D_Lmixed : DefP := ⟨fun K => He.ga K "_law_mixed", ⟨("_law_mixed", none), "_law_mixed", "_law_mixed", defArgs s_Lmixed, defBody s_Lmixed, defScope s_Lmixed, [], []⟩⟩
def D_Lwritten : DefP := ⟨fun K => He.ga K "_law_written", ⟨("_law_written", none), "_law_written", "_law_written", defArgs s_Lwritten, defBody s_Lwritten, defScope s_Lwritten, [], []⟩⟩
def D_number_in : DefP := ⟨fun K => He.ga K "number_in", ⟨("number_in", none), "number_in", "number_in", defArgs s_number_in, defBody s_number_in, defScope s_number_in, [], []⟩⟩
def D_is_integer : DefP := ⟨fun K => He.ga K "is_integer", ⟨("is_integer", none), "is_integer", "is_integer", defArgs s_is_integer, defBody s_is_integer, defScope s_is_integer, [], []⟩⟩
def D_is_number : DefP := ⟨fun K => He.ga K "is_number", ⟨("is_number", none), "is_number", "is_number", defArgs s_is_number, defBody s_is_number, defScope s_is_number, [], []⟩⟩
def D_is_bool : DefP := ⟨fun K => He.ga K "is_bool", ⟨("is_bool", none), "is_bool", "is_bool", defArgs s_is_bool, defBody s_is_bool, defScope s_is_bool, [], []⟩⟩
def D_is_sequence : DefP := ⟨fun K => He.ga K "is_sequence", ⟨("is_sequence", none), "is_sequence", "is_sequence", defArgs s_is_sequence, defBody s_is_sequence, defScope s_is_sequence, [], []⟩⟩
def D_are_known : DefP := ⟨fun K => He.ga K "are_known", ⟨("are_known", none), "are_known", "are_known", defArgs s_are_known, defBody s_are_known, defScope s_are_known, [], []⟩⟩
def D_Frame_init : DefP := ⟨fun K => He.ma K (He.ga K "Frame") "__init__", ⟨("Frame", some "__init__"), "__init__", "Frame.__init__", defArgs s_Frame_init, defBody s_Frame_init, defScope s_Frame_init, [.int 1, .non, .bl false, .adr (He.dflAt ("Frame", some "__init__") 3)], []⟩⟩
def D_known_in : DefP := ⟨fun K => He.ga K "known_in", ⟨("known_in", none), "known_in", "known_in", defArgs s_known_in, defBody s_known_in, defScope s_known_in, [], []⟩⟩
def D_Frame_read : DefP := ⟨fun K => cmA K "Frame" "read", ⟨("Frame", some "read"), "read", "Frame.read", defArgs s_Frame_read, defBody s_Frame_read, defScope s_Frame_read, [], []⟩⟩
def D_are_hours : DefP := ⟨fun K => He.ga K "are_hours", ⟨("are_hours", none), "are_hours", "are_hours", defArgs s_are_hours, defBody s_are_hours, defScope s_are_hours, [], []⟩⟩
def D_Rule_init : DefP := ⟨fun K => He.ma K (He.ga K "Rule") "__init__", ⟨("Rule", some "__init__"), "__init__", "Rule.__init__", defArgs s_Rule_init, defBody s_Rule_init, defScope s_Rule_init, [.int 1, .int 0, .int 0, .str "busy", .non], []⟩⟩
def D_Lrule_told : DefP := ⟨fun K => He.ga K "_law_rule_told", ⟨("_law_rule_told", none), "_law_rule_told", "_law_rule_told", defArgs s_Lrule_told, defBody s_Lrule_told, defScope s_Lrule_told, [], []⟩⟩
def D_is_block : DefP := ⟨fun K => He.ga K "is_block", ⟨("is_block", none), "is_block", "is_block", defArgs s_is_block, defBody s_is_block, defScope s_is_block, [], []⟩⟩
def D_is_view : DefP := ⟨fun K => He.ga K "is_view", ⟨("is_view", none), "is_view", "is_view", defArgs s_is_view, defBody s_is_view, defScope s_is_view, [], []⟩⟩
def D_is_look : DefP := ⟨fun K => He.ga K "is_look", ⟨("is_look", none), "is_look", "is_look", defArgs s_is_look, defBody s_is_look, defScope s_is_look, [], []⟩⟩
def D_need_looks : DefP := ⟨fun K => He.ga K "need_looks", ⟨("need_looks", none), "need_looks", "need_looks", defArgs s_need_looks, defBody s_need_looks, defScope s_need_looks, [], []⟩⟩
def D_prepared : DefP := ⟨fun K => He.ga K "prepared", ⟨("prepared", none), "prepared", "prepared", defArgs s_prepared, defBody s_prepared, defScope s_prepared, [], []⟩⟩
def D_begun : DefP := ⟨fun K => He.ga K "begun", ⟨("begun", none), "begun", "begun", defArgs s_begun, defBody s_begun, defScope s_begun, [], []⟩⟩
def D_is_let : DefP := ⟨fun K => He.ga K "is_let", ⟨("is_let", none), "is_let", "is_let", defArgs s_is_let, defBody s_is_let, defScope s_is_let, [], []⟩⟩
def D_Rule_word_of : DefP := ⟨fun K => He.ma K (He.ga K "Rule") "word_of", ⟨("Rule", some "word_of"), "word_of", "Rule.word_of", defArgs s_Rule_word_of, defBody s_Rule_word_of, defScope s_Rule_word_of, [], []⟩⟩
def D_Rule_down : DefP := ⟨fun K => He.ma K (He.ga K "Rule") "down", ⟨("Rule", some "down"), "down", "Rule.down", defArgs s_Rule_down, defBody s_Rule_down, defScope s_Rule_down, [], []⟩⟩
def D_Rule_up : DefP := ⟨fun K => He.ma K (He.ga K "Rule") "up", ⟨("Rule", some "up"), "up", "Rule.up", defArgs s_Rule_up, defBody s_Rule_up, defScope s_Rule_up, [], []⟩⟩
def D_Rule_joins : DefP := ⟨fun K => He.ma K (He.ga K "Rule") "joins", ⟨("Rule", some "joins"), "joins", "Rule.joins", defArgs s_Rule_joins, defBody s_Rule_joins, defScope s_Rule_joins, [], []⟩⟩
def D_Rule_shown : DefP := ⟨fun K => He.ma K (He.ga K "Rule") "shown", ⟨("Rule", some "shown"), "shown", "Rule.shown", defArgs s_Rule_shown, defBody s_Rule_shown, defScope s_Rule_shown, [], []⟩⟩
def D_settled : DefP := ⟨fun K => He.ga K "settled", ⟨("settled", none), "settled", "settled", defArgs s_settled, defBody s_settled, defScope s_settled, [], []⟩⟩
def D_begun_part : DefP := ⟨fun K => He.ga K "begun_part", ⟨("begun_part", none), "begun_part", "begun_part", defArgs s_begun_part, defBody s_begun_part, defScope s_begun_part, [], []⟩⟩
def D_grown_part : DefP := ⟨fun K => He.ga K "grown_part", ⟨("grown_part", none), "grown_part", "grown_part", defArgs s_grown_part, defBody s_grown_part, defScope s_grown_part, [], []⟩⟩
def D_led : DefP := ⟨fun K => He.ga K "led", ⟨("led", none), "led", "led", defArgs s_led, defBody s_led, defScope s_led, [], []⟩⟩
def D_follow : DefP := ⟨fun K => He.ga K "follow", ⟨("follow", none), "follow", "follow", defArgs s_follow, defBody s_follow, defScope s_follow, [], []⟩⟩
def D_can_come : DefP := ⟨fun K => He.ga K "can_come", ⟨("can_come", none), "can_come", "can_come", defArgs s_can_come, defBody s_can_come, defScope s_can_come, [], []⟩⟩
def D_is_hopeful : DefP := ⟨fun K => He.ga K "is_hopeful", ⟨("is_hopeful", none), "is_hopeful", "is_hopeful", defArgs s_is_hopeful, defBody s_is_hopeful, defScope s_is_hopeful, [], []⟩⟩
def D_part_grown : DefP := ⟨fun K => He.ga K "part_grown", ⟨("part_grown", none), "part_grown", "part_grown", defArgs s_part_grown, defBody s_part_grown, defScope s_part_grown, [], []⟩⟩
def D_closed : DefP := ⟨fun K => He.ga K "closed", ⟨("closed", none), "closed", "closed", defArgs s_closed, defBody s_closed, defScope s_closed, [], []⟩⟩
def D_part_begun : DefP := ⟨fun K => He.ga K "part_begun", ⟨("part_begun", none), "part_begun", "part_begun", defArgs s_part_begun, defBody s_part_begun, defScope s_part_begun, [], []⟩⟩
def D_parts_behind : DefP := ⟨fun K => He.ga K "parts_behind", ⟨("parts_behind", none), "parts_behind", "parts_behind", defArgs s_parts_behind, defBody s_parts_behind, defScope s_parts_behind, [], []⟩⟩
def D_put_away : DefP := ⟨fun K => He.ga K "put_away", ⟨("put_away", none), "put_away", "put_away", defArgs s_put_away, defBody s_put_away, defScope s_put_away, [], []⟩⟩
def D_lightened_part : DefP := ⟨fun K => He.ga K "lightened_part", ⟨("lightened_part", none), "lightened_part", "lightened_part", defArgs s_lightened_part, defBody s_lightened_part, defScope s_lightened_part, [], []⟩⟩
def D_lightened : DefP := ⟨fun K => He.ga K "lightened", ⟨("lightened", none), "lightened", "lightened", defArgs s_lightened, defBody s_lightened, defScope s_lightened, [], []⟩⟩
def D_steps : DefP := ⟨fun K => He.ga K "steps", ⟨("steps", none), "steps", "steps", defArgs s_steps, defBody s_steps, defScope s_steps, [], []⟩⟩
def D_is_closing : DefP := ⟨fun K => He.ga K "is_closing", ⟨("is_closing", none), "is_closing", "is_closing", defArgs s_is_closing, defBody s_is_closing, defScope s_is_closing, [], []⟩⟩
def D_view_of : DefP := ⟨fun K => He.ga K "view_of", ⟨("view_of", none), "view_of", "view_of", defArgs s_view_of, defBody s_view_of, defScope s_view_of, [], []⟩⟩
def D_table : DefP := ⟨fun K => He.ga K "table", ⟨("table", none), "table", "table", defArgs s_table, defBody s_table, defScope s_table, [], []⟩⟩
def D_is_meeting : DefP := ⟨fun K => He.ga K "is_meeting", ⟨("is_meeting", none), "is_meeting", "is_meeting", defArgs s_is_meeting, defBody s_is_meeting, defScope s_is_meeting, [], []⟩⟩
def D_are_meetings : DefP := ⟨fun K => He.ga K "are_meetings", ⟨("are_meetings", none), "are_meetings", "are_meetings", defArgs s_are_meetings, defBody s_are_meetings, defScope s_are_meetings, [], []⟩⟩
def D_Day_init : DefP := ⟨fun K => He.ma K (He.ga K "Day") "__init__", ⟨("Day", some "__init__"), "__init__", "Day.__init__", defArgs s_Day_init, defBody s_Day_init, defScope s_Day_init, [.adr (He.dflAt ("Day", some "__init__") 0)], []⟩⟩
def D_day_of : DefP := ⟨fun K => He.ga K "day_of", ⟨("day_of", none), "day_of", "day_of", defArgs s_day_of, defBody s_day_of, defScope s_day_of, [], []⟩⟩
def D_parting : DefP := ⟨fun K => He.ga K "parting", ⟨("parting", none), "parting", "parting", defArgs s_parting, defBody s_parting, defScope s_parting, [], []⟩⟩
def D_finer : DefP := ⟨fun K => He.ga K "finer", ⟨("finer", none), "finer", "finer", defArgs s_finer, defBody s_finer, defScope s_finer, [], []⟩⟩
def D_views : DefP := ⟨fun K => He.ga K "views", ⟨("views", none), "views", "views", defArgs s_views, defBody s_views, defScope s_views, [], []⟩⟩
def D_law : DefP := ⟨fun K => He.ga K "law", ⟨("law", none), "law", "law", defArgs s_law, defBody s_law, defScope s_law, [], []⟩⟩
def fn0 : List DefP := [D_Lseed, D_Lchoose, D_Lmixed, D_Lwritten, D_number_in, D_is_integer, D_is_number, D_is_bool, D_is_sequence, D_are_known, D_Frame_init, D_known_in, D_Frame_read, D_are_hours, D_Rule_init, D_Lrule_told, D_is_block, D_is_view, D_is_look, D_need_looks, D_prepared, D_begun, D_is_let, D_Rule_word_of, D_Rule_down, D_Rule_up, D_Rule_joins, D_Rule_shown, D_settled, D_begun_part]
def fn1 : List DefP := [D_grown_part, D_led, D_follow, D_can_come, D_is_hopeful, D_part_grown, D_closed, D_part_begun, D_parts_behind, D_put_away, D_lightened_part, D_lightened, D_steps, D_is_closing, D_view_of, D_table, D_is_meeting, D_are_meetings, D_Day_init, D_day_of, D_parting, D_finer, D_views, D_law]
def fn : List DefP := fn0 ++ fn1
def fa0 : List He.Fa := [.free "abs", .free "all", .free "any", .free "bool", .free "enumerate", .free "int", .free "isinstance", .free "len", .free "list", .free "max", .free "min", .free "range", .free "repr", .free "sorted", .free "str", .free "tuple", .free "zip", .glo "_law_seed", .glo "_law_choose", .glo "_law_mixed", .glo "_law_written", .glo "number_in", .glo "is_integer", .glo "is_number", .glo "is_bool", .glo "is_sequence", .glo "are_known", .glo "Frame", .glo "known_in", .glo "are_hours"]
def fa1 : List He.Fa := [.glo "Rule", .glo "_law_rule_told", .glo "is_block", .glo "is_view", .glo "is_look", .glo "need_looks", .glo "prepared", .glo "begun", .glo "is_let", .glo "WORDS", .glo "settled", .glo "begun_part", .glo "grown_part", .glo "led", .glo "follow", .glo "can_come", .glo "is_hopeful", .glo "part_grown", .glo "closed", .glo "part_begun", .glo "parts_behind", .glo "put_away", .glo "lightened_part", .glo "lightened", .glo "steps", .glo "is_closing", .glo "view_of", .glo "table", .glo "is_meeting", .glo "are_meetings"]
def fa2 : List He.Fa := [.glo "Day", .glo "day_of", .glo "parting", .glo "finer", .glo "views", .str "DIGITS" ⟨([48, 49, 50, 51, 52, 53, 54, 55, 56, 57] : List Nat).toArray⟩, .int "MOST_DIGITS" 2, .glo "MARKS", .glo "SORTS", .glo "LETTERS", .meth "Rule" "word_of", .meth "Rule" "down", .meth "Rule" "up", .meth "Rule" "joins", .meth "Rule" "shown", .mkr "Frame", .mkr "Rule", .mkr "Day", .glo "law"]
def fa : List He.Fa := fa0 ++ fa1 ++ fa2
def tps : List (Str × List He.Dv) := [("MARKS", [.str "free", .str "taken"]), ("SORTS", [.str "busy", .str "none", .str "apart", .str "one"]), ("WORDS", [.str "busy", .str "private"]), ("LETTERS", [.str "free", .str "busy", .str "private", .str "on"])]
def ccs : List Nat := [7, 9, 8]
def prs : List (Str × Str) := []
def cms : List (Str × Str) := [("Frame", "read")]
def sbs : List Str := []
def fis : List (PySem.W.Frag → Addr) := []
def t0s : List (PySem.W.Frag → Addr) := [fun K => He.dflAt ("Frame", some "__init__") 3 K]
def tis : List Str := ["WORDS"]
def cts : List Str := []
def iss : List (Str × List (Nat × Bool)) := [("Rule", is_Rule)]
def chk (K : PySem.W.Frag) : Bool := (fa.all fun f => f.ok K) && ((tps.all fun t => He.tupB K t.1 t.2) && ((ccs.all fun c => cfB K (TBc c) (TBf c)) && ((prs.all fun t => propB K t.1 t.2) && ((cts.all fun c => ctyB K c) && ((iss.all fun t => isB TBc K t.1 t.2) && ((cms.all fun t => cmB K t.1 t.2) && ((sbs.all fun c => decide (PySem.W.subIn K (.type "str") (.ref (He.ga K c)) = some false)) && ((fis.all fun a => PySem.W.fnIn K (a K)) && ((t0s.all fun a => tup0B K (a K)) && (tis.all fun x => tidxB K x))))))))))
abbrev R : PySem.W.OpenRow := PySem.W.OpenLaw.row PySem.Challenge.rw_dimdays_k47_comparing_known
abbrev als : List Addr := List.range 1400
abbrev hk : PySem.W.Hook := hookL als chk fn
def ob (s : PySem.W.SharedT) : He.AlD := obsPL als chk fn (HandSHeadRun.getT s)
theorem ob_eq (s : PySem.W.SharedT) : ob s = hk.obs s.abs := obsPL_eq (HandSHeadRun.getT_eq s)
theorem run (w : World) : HandSHeadRun.RunEq R (PySem.W.view R.prog [76]) hk ob 60000 names w := by
  intro os
  kernel_rfl
end Law

namespace Py
open PySem PySem.Spec PyProof.Rows L2

/-! ### keys: equality, depth, kind -/
theorem nbeq (a b : Nat) : Nat.beq a b = decide (a = b) := by
  by_cases h : a = b
  · subst h; simp
  · rw [decide_eq_false h]; exact Bool.eq_false_iff.mpr fun z => h (Nat.eq_of_beq_eq_true z)
def iEq : Int → Int → Bool
  | .ofNat a, .ofNat b => Nat.beq a b
  | .negSucc a, .negSucc b => Nat.beq a b
  | _, _ => false
theorem iEq_ok (i j : Int) : iEq i j = decide (i = j) := by
  cases i with
  | ofNat a => cases j with
    | ofNat b => rw [iEq, nbeq]; exact decide_eq_decide.mpr ⟨fun z => congrArg _ z, fun z => Int.ofNat.inj z⟩
    | negSucc b => simp [iEq]
  | negSucc a => cases j with
    | ofNat b => simp [iEq]
    | negSucc b => rw [iEq, nbeq]; exact decide_eq_decide.mpr ⟨fun z => congrArg _ z, fun z => Int.negSucc.inj z⟩
def lEq : List Nat → List Nat → Bool
  | [], [] => true
  | a :: as, b :: bs => Nat.beq a b && lEq as bs
  | _, _ => false
theorem lEq_ok : ∀ a b : List Nat, lEq a b = decide (a = b)
  | [], [] => rfl
  | [], _ :: _ => rfl
  | _ :: _, [] => rfl
  | a :: as, b :: bs => by
    unfold lEq
    rw [lEq_ok as bs, nbeq]
    by_cases h : a = b
    · subst h; simp
    · simp [h]
theorem str_eq_iff (a b : List Nat) : ((⟨a.toArray⟩ : Str) = ⟨b.toArray⟩) ↔ a = b := by
  constructor
  · intro h
    have := congrArg (fun s : Str => s.cps.toList) h
    simpa using this
  · intro h; rw [h]
mutual
def kEq : Val → Val → Bool
  | .int i, .int j => iEq i j
  | .tup a, .tup b => kEqs a b
  | .str a, .str b => lEq a b
  | .non, .non => true
  | .bl a, .bl b => a == b
  | .bl a, .int j => iEq (if a = true then 1 else 0) j
  | .int i, .bl b => iEq i (if b = true then 1 else 0)
  | _, _ => false
def kEqs : List Val → List Val → Bool
  | [], [] => true
  | a :: as, b :: bs => kEq a b && kEqs as bs
  | _, _ => false
end
mutual
theorem kEq_beq : ∀ (a b : Val) (m k : NestedKey), nkV a = some m → nkV b = some k → kEq a b = NestedKey.beq m k
  | a, b, m, k, ha, hb => by
    cases a <;> cases b <;> simp only [nkV, Option.some.injEq, reduceCtorEq, Option.map_eq_some_iff] at ha hb
    all_goals first
      | (subst ha; subst hb; simp [kEq, NestedKey.beq, iEq_ok, lEq_ok, str_eq_iff]; done)
      | (subst ha; obtain ⟨l, e, rfl⟩ := hb; simp [kEq, NestedKey.beq]; done)
      | (subst hb; obtain ⟨l, e, rfl⟩ := ha; simp [kEq, NestedKey.beq]; done)
      | skip
    · rename_i x y
      subst ha hb
      cases x <;> cases y <;> simp [kEq, NestedKey.beq]
    · rename_i xs ys
      obtain ⟨l, e, rfl⟩ := ha
      obtain ⟨l2, e2, rfl⟩ := hb
      rw [kEq, NestedKey.beq]
      exact kEqs_beq xs ys l l2 e e2
theorem kEqs_beq : ∀ (a b : List Val) (m k : List NestedKey), nkVs a = some m → nkVs b = some k → kEqs a b = NestedKey.beqAll m k
  | [], [], m, k, ha, hb => by simp [nkVs] at ha hb; subst ha hb; rfl
  | [], b :: bs, m, k, ha, hb => by
    simp [nkVs] at ha; subst ha
    cases k with
    | nil =>
      unfold nkVs at hb
      split at hb <;> simp at hb
    | cons x xs => rfl
  | a :: as, [], m, k, ha, hb => by
    simp [nkVs] at hb; subst hb
    cases m with
    | nil =>
      unfold nkVs at ha
      split at ha <;> simp at ha
    | cons x xs => rfl
  | a :: as, b :: bs, m, k, ha, hb => by
    unfold nkVs at ha hb
    cases qa : nkV a with
    | none => rw [qa] at ha; cases ha
    | some x =>
      cases qas : nkVs as with
      | none => rw [qa, qas] at ha; cases ha
      | some xs =>
        cases qb : nkV b with
        | none => rw [qb] at hb; cases hb
        | some y =>
          cases qbs : nkVs bs with
          | none => rw [qb, qbs] at hb; cases hb
          | some ys =>
            rw [qa, qas] at ha
            rw [qb, qbs] at hb
            cases ha; cases hb
            rw [kEqs, NestedKey.beqAll, kEq_beq a b x y qa qb, kEqs_beq as bs xs ys qas qbs]
end
theorem kEq_ok {a b : Val} {m k : NestedKey} (ha : nkV a = some m) (hb : nkV b = some k) : kEq a b = decide (m = k) := by rw [kEq_beq a b m k ha hb, NestedKey.decide_eq]
def okK : Nat → Val → Bool
  | 0, v => match v with
    | .non => true
    | .bl _ => true
    | .int _ => true
    | .str _ => true
    | _ => false
  | n + 1, v => match v with
    | .non => true
    | .bl _ => true
    | .int _ => true
    | .str _ => true
    | .tup vs => vs.all (okK n)
    | _ => false
theorem okK_all {n : Nat} (ih : ∀ v, okK n v = true → ∃ k, nkV v = some k ∧ k.depth ≤ n) : ∀ vs : List Val, vs.all (okK n) = true → ∃ l, nkVs vs = some l ∧ NestedKey.depthAll l ≤ n
  | [], _ => ⟨[], rfl, by simp [NestedKey.depthAll]⟩
  | v :: vs, h => by
    rw [List.all_cons, Bool.and_eq_true] at h
    obtain ⟨k, e1, d1⟩ := ih v h.1
    obtain ⟨l, e2, d2⟩ := okK_all ih vs h.2
    refine ⟨k :: l, by unfold nkVs; rw [e1, e2], ?_⟩
    unfold NestedKey.depthAll
    omega
theorem okK_ok : ∀ (n : Nat) (v : Val), okK n v = true → ∃ k, nkV v = some k ∧ k.depth ≤ n
  | 0, v, h => by
    cases v <;> first | (exact ⟨_, rfl, Nat.le_refl _⟩) | (simp [okK] at h)
  | n + 1, v, h => by
    cases v with
    | tup vs =>
      obtain ⟨l, e, d⟩ := okK_all (okK_ok n) vs h
      refine ⟨.tup l, by unfold nkV; rw [e]; rfl, ?_⟩
      unfold NestedKey.depth
      omega
    | non => exact ⟨_, rfl, Nat.zero_le _⟩
    | bl b => exact ⟨_, rfl, Nat.zero_le _⟩
    | int i => exact ⟨_, rfl, Nat.zero_le _⟩
    | str s => exact ⟨_, rfl, Nat.zero_le _⟩
    | _ => simp [okK] at h
def isTupV : Val → Bool
  | .tup _ => true
  | _ => false
def isLeafV : Val → Bool
  | .int _ => true
  | .str _ => true
  | _ => false
def hdIs (p : Val → Bool) : List Val → Bool
  | [] => true
  | k :: _ => p k
def fitK (ks : List Val) (q : Val) : Bool := match q with
  | .tup _ => okK 8 q && hdIs isTupV ks
  | .int _ => hdIs isLeafV ks
  | .str _ => hdIs isLeafV ks
  | _ => false
theorem KeyT.notL {k : Val} (h : KeyT k) (l : KeyL k) : False := by
  obtain ⟨l', e, _⟩ := h
  rcases l with ⟨i, rfl⟩ | ⟨s, rfl⟩ <;> simp [nkV] at e
theorem KeyT.isT {k : Val} (h : KeyT k) : isTupV k = true ∧ isLeafV k = false := by
  obtain ⟨l', e, _⟩ := h
  cases k <;> simp [nkV] at e <;> exact ⟨rfl, rfl⟩
theorem KeyL.isL {k : Val} (h : KeyL k) : isTupV k = false ∧ isLeafV k = true := by
  rcases h with ⟨i, rfl⟩ | ⟨s, rfl⟩ <;> exact ⟨rfl, rfl⟩
theorem fit_ok {ks : List Val} {q : Val} (hk : KeysOk ks) (h : fitK ks q = true) : (KeyT q ∧ ∀ k ∈ ks, KeyT k) ∨ (KeyL q ∧ ∀ k ∈ ks, KeyL k) := by
  have leaf : KeyL q → hdIs isLeafV ks = true → (KeyL q ∧ ∀ k ∈ ks, KeyL k) := fun hq h2 => by
    refine ⟨hq, ?_⟩
    cases ks with
    | nil => exact fun k hk => by cases hk
    | cons k ks =>
      rcases hk.1 with z | z
      · have := (z k (by simp)).isT.2
        rw [hdIs, this] at h2; cases h2
      · exact z
  cases q with
  | tup vs =>
    unfold fitK at h
    rw [Bool.and_eq_true] at h
    obtain ⟨k, e, d⟩ := okK_ok 8 _ h.1
    have e2 := e
    unfold nkV at e2
    obtain ⟨l, e3, rfl⟩ := map_some e2
    refine .inl ⟨⟨l, e, d⟩, ?_⟩
    cases ks with
    | nil => exact fun k hk => by cases hk
    | cons k ks =>
      rcases hk.1 with z | z
      · exact z
      · have := (z k (by simp)).isL.1
        have h2 := h.2
        rw [hdIs, this] at h2; cases h2
  | int i => exact .inr (leaf (.inl ⟨i, rfl⟩) h)
  | str s => exact .inr (leaf (.inr ⟨s, rfl⟩) h)
  | _ => simp [fitK] at h
theorem KeyT.nk {k : Val} (h : KeyT k) : ∃ n, nkV k = some n := let ⟨l, e, _⟩ := h; ⟨_, e⟩
theorem KeyL.nk {k : Val} (h : KeyL k) : ∃ n, nkV k = some n := by rcases h with ⟨i, rfl⟩ | ⟨s, rfl⟩ <;> exact ⟨_, rfl⟩

/-! ### the table: look up, put -/
def dAt {α : Type} : List Val → List α → Val → Option α
  | k :: ks, v :: vs, q => if kEq k q = true then some v else dAt ks vs q
  | _, _, _ => none
def dAny (ks : List Val) (q : Val) : Bool := ks.any fun k => kEq k q
def dRep {α : Type} : List Val → List α → Val → α → List α
  | k :: ks, v :: vs, q, u => (if kEq k q = true then u else v) :: dRep ks vs q u
  | _, _, _, _ => []
def putKs {α : Type} (ks : List Val) (xs : List α) (q : Val) (x : α) : List α := if dAny ks q = true then xs else xs ++ [x]
def putVs {α : Type} (ks : List Val) (vs : List α) (q : Val) (u : α) : List α := if dAny ks q = true then dRep ks vs q u else vs ++ [u]
section
variable {T : Tb} {K : PySem.W.Frag} {io : Nat → Addr} {n : Nat} {F : Hp}
theorem dAt_rel {q : Val} : ∀ {ks vs : List Val} {ys : List V}, VRs T K io n F vs ys → (∀ v, dAt ks vs q = some v → ∃ y, dAt ks ys q = some y ∧ VR T K io n F v y) ∧ (dAt ks vs q = none → dAt ks ys q = none)
  | [], vs, ys, r => ⟨fun v e => by simp [dAt] at e, fun _ => by simp [dAt]⟩
  | k :: ks, _, _, .nil => ⟨fun v e => by simp [dAt] at e, fun _ => by simp [dAt]⟩
  | k :: ks, _, _, .cons a r => by
    have ih := dAt_rel (q := q) (ks := ks) r
    by_cases h : kEq k q = true
    · refine ⟨fun v e => ?_, fun e => ?_⟩
      · simp only [dAt, h, if_true] at e ⊢
        cases e; exact ⟨_, rfl, a⟩
      · simp only [dAt, h, if_true] at e; cases e
    · refine ⟨fun v e => ?_, fun e => ?_⟩
      · simp only [dAt, h] at e ⊢; exact ih.1 v e
      · simp only [dAt, h] at e ⊢; exact ih.2 e
theorem VRs.snoc {vs : List Val} {xs : List V} {v : Val} {x : V} (r : VRs T K io n F vs xs) (a : VR T K io n F v x) : VRs T K io n F (vs ++ [v]) (xs ++ [x]) := r.append (.cons a .nil)
theorem dRep_rel {q u : Val} {z : V} (a : VR T K io n F u z) : ∀ {ks vs : List Val} {ys : List V}, VRs T K io n F vs ys → VRs T K io n F (dRep ks vs q u) (dRep ks ys q z)
  | [], vs, ys, r => by simp [dRep]; exact .nil
  | k :: ks, _, _, .nil => by simp [dRep]; exact .nil
  | k :: ks, _, _, .cons b r => by
    simp only [dRep]
    refine .cons ?_ (dRep_rel a r)
    split
    · exact a
    · exact b
theorem putKs_rel {ks : List Val} {q : Val} {y : V} {xs : List V} (r : VRs T K io n F ks xs) (a : VR T K io n F q y) : VRs T K io n F (putKs ks ks q q) (putKs ks xs q y) := by
  unfold putKs
  split
  · exact r
  · exact r.snoc a
theorem putVs_rel {ks vs : List Val} {q u : Val} {z : V} {ys : List V} (r : VRs T K io n F vs ys) (a : VR T K io n F u z) : VRs T K io n F (putVs ks vs q u) (putVs ks ys q z) := by
  unfold putVs
  split
  · exact dRep_rel a r
  · exact r.snoc a
end
theorem dAny_nk {ks : List Val} {q : Val} {m : NestedKey} (hk : ∀ k ∈ ks, ∃ n, nkV k = some n) (hq : nkV q = some m) : (dAny ks q = true) ↔ some m ∈ ks.map nkV := by
  unfold dAny
  rw [List.any_eq_true]
  constructor
  · rintro ⟨k, h1, h2⟩
    obtain ⟨n, e⟩ := hk k h1
    rw [kEq_ok e hq] at h2
    have := of_decide_eq_true h2
    subst this
    exact List.mem_map.mpr ⟨k, h1, e⟩
  · intro h
    obtain ⟨k, h1, h2⟩ := List.mem_map.mp h
    exact ⟨k, h1, by rw [kEq_ok h2 hq]; simp⟩
theorem KeysOk.put {ks : List Val} {q : Val} (hk : KeysOk ks) (h : fitK ks q = true) : KeysOk (putKs ks ks q q) := by
  unfold putKs
  by_cases ha : dAny ks q = true
  · rw [if_pos ha]; exact hk
  · rw [if_neg ha]
    have f := fit_ok hk h
    have nn : ∀ k ∈ ks, ∃ n, nkV k = some n := fun k hk' => by
      rcases f with ⟨_, z⟩ | ⟨_, z⟩
      · exact (z k hk').nk
      · exact (z k hk').nk
    have nq : ∃ m, nkV q = some m := by rcases f with ⟨z, _⟩ | ⟨z, _⟩ <;> exact z.nk
    obtain ⟨m, em⟩ := nq
    refine ⟨?_, ?_⟩
    · rcases f with ⟨z1, z2⟩ | ⟨z1, z2⟩
      · exact .inl fun k hk' => by
          rcases List.mem_append.mp hk' with h1 | h1
          · exact z2 k h1
          · simp at h1; subst h1; exact z1
      · exact .inr fun k hk' => by
          rcases List.mem_append.mp hk' with h1 | h1
          · exact z2 k h1
          · simp at h1; subst h1; exact z1
    · rw [List.map_append, List.nodup_append]
      refine ⟨hk.2, by simp, fun a h1 b h2 => ?_⟩
      simp at h2
      subst h2
      rintro rfl
      rw [em] at h1
      exact ha ((dAny_nk nn em).mpr h1)
end Py

namespace Py
open PySem PySem.Spec PyProof.Rows L2
/-! ### stores, with the count of keys told -/
section
variable {prog : Program} {w : World} {KT : Type} [DecidableEq KT] {A : Around} {E : Value → Shared → Prop} {s : Shared} {d a : Addr} {o : PySem.Obj} {es : Array DictEntry} {ep : Nat}
/-- the dict behind a store -/
structure Stored (h h' : Heap) (d : Addr) (es es' : Array DictEntry) (ep : Nat) (l : List DictEntry) : Prop where
  raw : ∃ ep', h'.DictRaw d es' ep' ∧ ep' + es.size = ep + es'.size
  is_ : es'.toList = l
  same : Heap.SameBut d h h'
theorem setE_T {knd : HeapKind prog w KT} {xs : List (KT × Addr × Value)} {k : KT} {v : Value} {Q : Unit → Shared → Prop} (hu : knd.room A) (hkey : knd.is s.heap k a) (ho : s.heap.get? d = some o) (hc : o.ExactDict) (hd : o.data = .dict es ep) (he : es.toList = xs.map (entryOfKey knd))
    (his : ∀ x ∈ xs, knd.is s.heap x.1 x.2.1) (hn : (xs.map (·.1)).Nodup) (hz : es.size ≤ sizeLine)
    (q : ∀ h' es', Stored s.heap h' d es es' ep ((storedH xs k a v).map (entryOfKey knd)) → Q () { s with heap := h', toks := s.toks + knd.draws k }) : wpAny (model prog w) A (dictSet d (.ref a) v) Q E s := by
  unfold dictSet
  refine wpAny_holding (wpAny_bind (knd.pyHash hu hkey ?_))
  unfold dictSetHashed
  refine wpAny_holding (wpAny_bind (wpAny_dictFind_heap (s := { s with toks := s.toks + knd.draws k }) hu hkey ho hd he his hn (fun hno => ?_) fun j p hj => ?_))
  · refine wpAny_bind (wpAny_rule (wpAny_updateDictKeys (hz := hz) (s := { s with toks := s.toks + knd.draws k }) ho hd (q _ _ ⟨⟨ep + 1, ⟨_, Heap.get?_update_self _ ho (Obj.isFreed_of_dict (Obj.data_mapDictKeys hd _)), hc.mapDictKeys _, Obj.data_mapDictKeys hd _⟩, ?_⟩, ?_, Heap.SameBut.update ..⟩)))
    · simp; omega
    · rw [storedH_new (atKey_none_of_get hno)]; simp [he, entryOfKey]
  · refine wpAny_bind (wpAny_rule (wpAny_bind (wpAny_updateDict (s := { s with toks := s.toks + knd.draws k }) ho hd (wpAny_point (q _ _ ⟨⟨ep, ⟨_, Heap.get?_update_self _ ho (Obj.isFreed_of_dict (Obj.data_mapDict hd _)), hc.mapDict _, Obj.data_mapDict hd _⟩, ?_⟩, ?_, Heap.SameBut.update ..⟩)))))
    · simp
    · rw [storedH_old (atKey_of_get hn hj)]
      have z := modify_map_putAt (entryOfKey knd) (fun e : DictEntry => { e with val := v }) k v (fun _ _ => rfl) hn hj
      rw [← he] at z; obtain ⟨l⟩ := es; simpa using z
theorem setE_L {knd : KeyKind prog w KT} {kvs : List (KT × Value)} {k : KT} {key v : Value} {Q : Unit → Shared → Prop} (hkey : knd.is k key = true) (ho : s.heap.get? d = some o) (hc : o.ExactDict) (hd : o.data = .dict es ep) (hk : KeysOf knd es) (hp : Pairs knd es.toList kvs) (hn : (kvs.map (·.1)).Nodup) (hz : es.size ≤ sizeLine)
    (q : ∀ h' es', (∃ l, Stored s.heap h' d es es' ep l) → KeysOf knd es' → Pairs knd es'.toList (stored kvs k v) → Q () { s with heap := h', toks := s.toks + 1 }) : wpAny (model prog w) A (dictSet d key v) Q E s := by
  unfold dictSet
  refine wpAny_holding (wpAny_bind (knd.pyHash hkey ?_))
  unfold dictSetHashed
  refine wpAny_holding (wpAny_bind (wpAny_dictFind_of (s := { s with toks := s.toks + 1 }) hkey ho hd hk ?_))
  have hidx : (es.findIdx? fun e => knd.is k e.key) = kvs.findIdx? fun kv => decide (kv.1 = k) := by rw [← hp.findIdx k]; obtain ⟨l⟩ := es; simp
  cases hi : es.findIdx? fun e => knd.is k e.key with
  | some i =>
    have st : stored kvs k v = kvs.map (fun kv => if kv.1 = k then (kv.1, v) else kv) := by rw [stored, if_pos (any_of_findIdx_some (hidx ▸ hi))]
    refine wpAny_bind (wpAny_rule (wpAny_bind (wpAny_updateDict (s := { s with toks := s.toks + 1 }) ho hd (wpAny_point (q _ _ ⟨_, ⟨ep, ⟨_, Heap.get?_update_self _ ho (Obj.isFreed_of_dict (Obj.data_mapDict hd _)), hc.mapDict _, Obj.data_mapDict hd _⟩, ?_⟩, rfl, Heap.SameBut.update ..⟩ (hk.modify _ _) ?_)))))
    · simp
    · rw [st]
      have hl : (es.toList.findIdx? fun e => knd.is k e.key) = some i := by rw [← hi]; obtain ⟨l⟩ := es; simp
      have z := hp.modify hn hl v
      obtain ⟨l⟩ := es; simpa using z
  | none =>
    have hnot : k ∉ kvs.map (·.1) := not_mem_of_findIdx_none (hidx ▸ hi)
    have st : stored kvs k v = kvs ++ [(k, v)] := by
      rw [stored, if_neg]
      rw [List.any_eq_true]; rintro ⟨kv, hkv, z⟩; exact hnot (List.mem_map.mpr ⟨kv, hkv, of_decide_eq_true z⟩)
    refine wpAny_bind (wpAny_rule (wpAny_updateDictKeys (hz := hz) (s := { s with toks := s.toks + 1 }) ho hd (q _ _ ⟨_, ⟨ep + 1, ⟨_, Heap.get?_update_self _ ho (Obj.isFreed_of_dict (Obj.data_mapDictKeys hd _)), hc.mapDictKeys _, Obj.data_mapDictKeys hd _⟩, ?_⟩, rfl, Heap.SameBut.update ..⟩ (hk.push hkey _) ?_)))
    · simp; omega
    · rw [st]
      have z := hp.append hkey (knd.hash k) v
      obtain ⟨l⟩ := es; simpa using z
/-- d[key] = v by the dict's own store -/
theorem set_by {key v : Value} {Q : Unit → Shared → Prop} (ht : s.TypeIs (.ref d) "dict") (h : wpAny (model prog w) A.in1 (dictSet d key v) Q E s) : wpAny (model prog w) A (setItem (.ref d) key v) Q E s := by
  unfold setItem
  refine wpAny_holding (wpAny_bind (wpAny_sequenceKey ht (by decide) (wpAny_bind (wpAny_callSpecial?_slot (name := Str.ofString "__setitem__") ht slot_dict_setitem (wpAny_call_entry slot_dict_setitem ht entry_dict_setitem ?_ (args_dict_setitem _ _ _))))))
  show wpAny _ _ (Builtin.Dict.notOrdered "__setitem__" ⟨[.ref d, key, v], []⟩ >>= _) _ _ s
  refine wpAny_bind (wpAny_notOrdered_dict ht ?_)
  show wpAny _ _ (dictSet d key v >>= _) _ _ s
  refine wpAny_bind (wpAny_mono h (fun _ s' hq => wpAny_pure ⟨.none, rfl, wpAny_pure hq⟩) ?_)
  exact fun _ _ z => z
end
end Py

namespace Py
open PySem PySem.Spec PyProof.Rows L2

/-! ### a value of the layer as a key of the machine -/
section
variable {X : Cx} {pins : List (Addr × PySem.Obj)} {σ : L2.St} {H : Hp} {s : Shared} {T : Tb} {io : Nat → Addr} {n : Nat} {F : Hp}
mutual
theorem nkV_is (I : L2.Inv X pins σ H s) (hF : ∀ b o, F b = some o → H b = some o) : ∀ (v : Val) (k : NestedKey) (x : V) (u : Value), nkV v = some k → VR T X.K io n F v x → RelV x u → NestedIs s.heap k u
  | .non, k, x, u, e, vr, r => by cases e; cases vr; cases (show u = Value.none from r); exact .none
  | .bl b, k, x, u, e, vr, r => by cases e; cases vr; cases (show u = Value.bool b from r); exact .bool rfl
  | .int i, k, x, u, e, vr, r => by cases e; cases vr; obtain ⟨t, rfl⟩ := r; exact .int i t
  | .str z, k, x, u, e, vr, r => by cases e; cases vr; obtain ⟨t, rfl⟩ := r; exact .text _ t
  | .tup vs, k, x, u, e, vr, r => by
    unfold nkV at e
    obtain ⟨l, el, rfl⟩ := map_some e
    cases vr with
    | @tup _ a xs h r' =>
      cases (show u = Value.ref a from r)
      obtain ⟨its, rv, ⟨ob, e1, e2, m, e3⟩, _⟩ := I.tuple (sqT_mono hF h)
      exact .tup e1 e2 e3 (by simpa using nkVs_is I hF vs l xs its el r' rv)
  | .lst _, _, _, _, e, _, _ => by simp [nkV] at e
  | .obj _ _, _, _, _, e, _, _ => by simp [nkV] at e
  | .ref _, _, _, _, e, _, _ => by simp [nkV] at e
  | .glo _, _, _, _, e, _, _ => by simp [nkV] at e
  | .dct _ _, _, _, _, e, _, _ => by simp [nkV] at e
theorem nkVs_is (I : L2.Inv X pins σ H s) (hF : ∀ b o, F b = some o → H b = some o) : ∀ (vs : List Val) (ks : List NestedKey) (xs : List V) (us : List Value), nkVs vs = some ks → VRs T X.K io n F vs xs → Vals xs us → NestedAll s.heap ks us
  | [], ks, xs, us, e, vr, r => by
    simp [nkVs] at e; subst e
    cases vr
    cases r; exact .nil
  | v :: vs, ks, xs, us, e, vr, r => by
    unfold nkVs at e
    cases q : nkV v with
    | none => rw [q] at e; cases e
    | some k =>
      cases q2 : nkVs vs with
      | none => rw [q, q2] at e; cases e
      | some ks =>
        rw [q, q2] at e
        cases e
        cases vr with
        | cons a t =>
          cases r with
          | cons r1 r2 => exact .cons (nkV_is I hF v _ _ _ q a r1) (nkVs_is I hF vs _ _ _ q2 t r2)
end
theorem do_at {a : Addr} {es : Array DictEntry} {ep : Nat} (I : L2.Inv X pins σ H s) (e : H a = some (DO a es ep)) : (a == sysModules) = false ∧ es.size ≤ sizeLine ∧ s.heap.DictRaw a es ep := by
  have z := I.hok a _ e
  obtain ⟨⟨h1, h2, h3⟩, _⟩ := (z : ObjOk X.prog X.w H s.heap a (.ext fun h => (a == sysModules) = false ∧ es.size ≤ sizeLine ∧ ∃ o, h.get? a = some o ∧ o.ExactDict ∧ o.data = .dict es ep))
  exact ⟨h1, h2, h3⟩
theorem do_ok {P : Program} {w : World} {H' : Hp} {h' : Heap} {a : Addr} {es : Array DictEntry} {ep : Nat} (h1 : (a == sysModules) = false) (h2 : es.size ≤ sizeLine) (h3 : h'.DictRaw a es ep) : ObjOk P w H' h' a (DO a es ep) := by
  obtain ⟨o, e1, e2, e3⟩ := h3
  exact ⟨⟨h1, h2, o, e1, e2, e3⟩, ⟨o, e1⟩, fun x y ⟨a1, a2, o', b1, b2, b3⟩ k => ⟨a1, a2, o', k _ b1, b2, b3⟩⟩
end

/-! ### entries -/
def ZR : List Val → List V → List V → List (NestedKey × Addr × Value) → Prop
  | [], [], [], [] => True
  | k :: ks, x :: xs, y :: ys, z :: zs => (nkV k = some z.1 ∧ x = .ref z.2.1 ∧ RelV y z.2.2) ∧ ZR ks xs ys zs
  | _, _, _, _ => False
section
variable {T : Tb} {K : PySem.W.Frag} {io : Nat → Addr} {n : Nat} {F : Hp} {P : Program} {w : World}
theorem KeyT.tupV {k : Val} {x : V} (h : KeyT k) (r : VR T K io n F k x) : ∃ a, x = .ref a := by
  obtain ⟨l, e, _⟩ := h
  cases r <;> first | (exact ⟨_, rfl⟩) | (simp [nkV] at e)
theorem zr_of : ∀ {es : List DictEntry} {ks : List Val} {xs ys : List V}, (∀ k ∈ ks, KeyT k) → Ents w es ks xs ys → VRs T K io n F ks xs → ∃ zs, ZR ks xs ys zs ∧ es = zs.map (entryOfKey (nestedKind P w))
  | [], [], [], [], _, _, _ => ⟨[], trivial, rfl⟩
  | e :: es, k :: ks, x :: xs, y :: ys, hk, ⟨⟨h1, h2, h3⟩, h4⟩, .cons a r => by
    obtain ⟨zs, z1, z2⟩ := zr_of (fun q hq => hk q (List.mem_cons_of_mem _ hq)) h4 r
    obtain ⟨b, rfl⟩ := (hk k (by simp)).tupV a
    obtain ⟨l, el, _⟩ := hk k (by simp)
    refine ⟨(.tup l, b, e.val) :: zs, ⟨⟨el, rfl, h3⟩, z1⟩, ?_⟩
    rw [List.map_cons, ← z2]
    congr 1
    obtain ⟨eh, ek, ev⟩ := e
    cases (show ek = Value.ref b from h2)
    have : eh = (NestedKey.tup l).hash w := by
      have h1' : eh = hashV w k := h1
      rw [h1', hashV, el]
    rw [this]; rfl
  | [], [], [], _ :: _, _, h, _ => False.elim h
  | [], [], _ :: _, _, _, h, _ => False.elim h
  | [], _ :: _, _, _, _, h, _ => False.elim h
  | _ :: _, [], _, _, _, h, _ => False.elim h
  | _ :: _, _ :: _, [], _, _, h, _ => False.elim h
  | _ :: _, _ :: _, _ :: _, [], _, h, _ => False.elim h
theorem ents_of : ∀ {ks : List Val} {xs ys : List V} {zs : List (NestedKey × Addr × Value)}, ZR ks xs ys zs → Ents w (zs.map (entryOfKey (nestedKind P w))) ks xs ys
  | [], [], [], [], _ => trivial
  | k :: ks, x :: xs, y :: ys, z :: zs, ⟨⟨h1, h2, h3⟩, h4⟩ => by
    refine ⟨⟨?_, ?_, h3⟩, ents_of h4⟩
    · show (nestedKind P w).hash z.1 = hashV w k
      unfold hashV; rw [h1]; rfl
    · subst h2; rfl
  | [], [], [], _ :: _, h => False.elim h
  | [], [], _ :: _, _, h => False.elim h
  | [], _ :: _, _, _, h => False.elim h
  | _ :: _, [], _, _, h => False.elim h
  | _ :: _, _ :: _, [], _, h => False.elim h
  | _ :: _, _ :: _, _ :: _, [], h => False.elim h
theorem zr_keys : ∀ {ks : List Val} {xs ys : List V} {zs : List (NestedKey × Addr × Value)}, ZR ks xs ys zs → ks.map nkV = zs.map fun z => some z.1
  | [], [], [], [], _ => rfl
  | k :: ks, x :: xs, y :: ys, z :: zs, ⟨⟨h1, _, _⟩, h4⟩ => by rw [List.map_cons, List.map_cons, h1, zr_keys h4]
  | [], [], [], _ :: _, h => False.elim h
  | [], [], _ :: _, _, h => False.elim h
  | [], _ :: _, _, _, h => False.elim h
  | _ :: _, [], _, _, h => False.elim h
  | _ :: _, _ :: _, [], _, h => False.elim h
  | _ :: _, _ :: _, _ :: _, [], h => False.elim h
theorem zr_nodup {ks : List Val} {xs ys : List V} {zs : List (NestedKey × Addr × Value)} (z : ZR ks xs ys zs) (h : (ks.map nkV).Nodup) : (zs.map (·.1)).Nodup := by
  rw [zr_keys z] at h
  have : (zs.map fun z => some z.1) = (zs.map (·.1)).map some := by rw [List.map_map]; rfl
  rw [this] at h
  rw [List.Nodup, List.pairwise_map] at h
  exact h.imp fun hne e => hne (congrArg some e)
theorem zr_at {q : Val} {m : NestedKey} (hq : nkV q = some m) : ∀ {ks : List Val} {xs ys : List V} {zs : List (NestedKey × Addr × Value)}, ZR ks xs ys zs → RelO (dAt ks ys q) ((atKey zs m).map (·.2))
  | [], [], [], [], _ => trivial
  | k :: ks, x :: xs, y :: ys, z :: zs, ⟨⟨h1, h2, h3⟩, h4⟩ => by
    have ih := zr_at hq h4
    have e := kEq_ok h1 hq
    by_cases hz : z.1 = m
    · have : kEq k q = true := by rw [e]; exact decide_eq_true hz
      simp only [dAt, this, if_true, atKey, List.find?_cons, hz, decide_true, Option.map_some]
      exact h3
    · have : kEq k q = false := by rw [e]; exact decide_eq_false hz
      simp only [dAt, this, Bool.false_eq_true, if_false, atKey, List.find?_cons, hz, decide_false]
      exact ih
  | [], [], [], _ :: _, h => False.elim h
  | [], [], _ :: _, _, h => False.elim h
  | [], _ :: _, _, _, h => False.elim h
  | _ :: _, [], _, _, h => False.elim h
  | _ :: _, _ :: _, [], _, h => False.elim h
  | _ :: _, _ :: _, _ :: _, [], h => False.elim h
theorem zr_snoc {q : Val} {m : NestedKey} {b : Addr} {y : V} {u : Value} (hq : nkV q = some m) (ry : RelV y u) : ∀ {ks : List Val} {xs ys : List V} {zs : List (NestedKey × Addr × Value)}, ZR ks xs ys zs → ZR (ks ++ [q]) (xs ++ [.ref b]) (ys ++ [y]) (zs ++ [(m, b, u)])
  | [], [], [], [], _ => ⟨⟨hq, rfl, ry⟩, trivial⟩
  | k :: ks, x :: xs, y' :: ys, z :: zs, ⟨h, h4⟩ => ⟨h, zr_snoc hq ry h4⟩
  | [], [], [], _ :: _, h => False.elim h
  | [], [], _ :: _, _, h => False.elim h
  | [], _ :: _, _, _, h => False.elim h
  | _ :: _, [], _, _, h => False.elim h
  | _ :: _, _ :: _, [], _, h => False.elim h
  | _ :: _, _ :: _, _ :: _, [], h => False.elim h
theorem zr_rep {q : Val} {m : NestedKey} {y : V} {u : Value} (hq : nkV q = some m) (ry : RelV y u) : ∀ {ks : List Val} {xs ys : List V} {zs : List (NestedKey × Addr × Value)}, ZR ks xs ys zs → ZR ks xs (dRep ks ys q y) (zs.map (putAt m u))
  | [], [], [], [], _ => trivial
  | k :: ks, x :: xs, y' :: ys, z :: zs, ⟨⟨h1, h2, h3⟩, h4⟩ => by
    have e := kEq_ok h1 hq
    rw [List.map_cons]
    simp only [dRep]
    refine ⟨?_, zr_rep hq ry h4⟩
    by_cases hz : z.1 = m
    · have : kEq k q = true := by rw [e]; exact decide_eq_true hz
      rw [if_pos this, putAt, if_pos hz]
      exact ⟨h1, h2, ry⟩
    · have : ¬ kEq k q = true := by rw [e]; simpa using hz
      rw [if_neg this, putAt, if_neg hz]
      exact ⟨h1, h2, h3⟩
  | [], [], [], _ :: _, h => False.elim h
  | [], [], _ :: _, _, h => False.elim h
  | [], _ :: _, _, _, h => False.elim h
  | _ :: _, [], _, _, h => False.elim h
  | _ :: _, _ :: _, [], _, h => False.elim h
  | _ :: _, _ :: _, _ :: _, [], h => False.elim h
end
/-! ### keys that are ints and texts -/
def lk : Val → Option Key
  | .int i => some (.inl i)
  | .str s => some (.inr ⟨s.toArray⟩)
  | _ => none
def nkK : Key → NestedKey
  | .inl i => .num i
  | .inr x => .text x
theorem nkK_inj {a b : Key} (h : nkK a = nkK b) : a = b := by
  cases a <;> cases b <;> simp [nkK] at h <;> rw [h]
theorem lk_nk {v : Val} {k : Key} (h : lk v = some k) : nkV v = some (nkK k) := by
  cases v <;> simp [lk] at h <;> subst h <;> rfl
theorem KeyL.lk {v : Val} (h : KeyL v) : ∃ k, Py.lk v = some k := by rcases h with ⟨i, rfl⟩ | ⟨s, rfl⟩ <;> exact ⟨_, rfl⟩
theorem lk_eq {a b : Val} {m k : Key} (ha : lk a = some m) (hb : lk b = some k) : kEq a b = decide (m = k) := by
  rw [kEq_ok (lk_nk ha) (lk_nk hb)]
  exact decide_eq_decide.mpr ⟨nkK_inj, fun e => congrArg _ e⟩
def ZL : List Val → List V → List V → List DictEntry → List (Key × Value) → Prop
  | [], [], [], [], [] => True
  | k :: ks, x :: xs, y :: ys, e :: es, z :: zs => (lk k = some z.1 ∧ RelV x e.key ∧ keyIs z.1 e.key = true ∧ e.val = z.2 ∧ RelV y z.2) ∧ ZL ks xs ys es zs
  | _, _, _, _, _ => False
section
variable {T : Tb} {K : PySem.W.Frag} {io : Nat → Addr} {n : Nat} {F : Hp} {P : Program} {w : World}
theorem lk_is {v : Val} {k : Key} {x : V} {u : Value} (h : lk v = some k) (r : VR T K io n F v x) (q : RelV x u) : keyIs k u = true := by
  cases r <;> simp [lk] at h
  · subst h; obtain ⟨t, rfl⟩ := q; exact keyIs_int _ _
  · subst h; obtain ⟨t, rfl⟩ := q; exact keyIs_str _ _
theorem lk_rel {v : Val} {k : Key} {x : V} {u : Value} (h : lk v = some k) (r : VR T K io n F v x) (q : keyIs k u = true) : RelV x u := by
  rcases keyIs_shape q with ⟨i, t, rfl, rfl⟩ | ⟨z, t, rfl, rfl⟩
  · cases r <;> simp [lk] at h
    subst h; exact ⟨t, rfl⟩
  · cases r <;> simp [lk] at h
    subst h; exact ⟨t, rfl⟩
theorem hash_lk {v : Val} {k : Key} (h : lk v = some k) : hashV w v = (mixKind P w).hash k := by
  unfold hashV
  rw [lk_nk h]
  cases k <;> rfl
theorem zl_of (P : Program) : ∀ {es : List DictEntry} {ks : List Val} {xs ys : List V}, (∀ k ∈ ks, KeyL k) → Ents w es ks xs ys → VRs T K io n F ks xs → ∃ zs, ZL ks xs ys es zs ∧ ∀ e ∈ es, ∃ k, (mixKind P w).is k e.key = true ∧ e.hash = (mixKind P w).hash k
  | [], [], [], [], _, _, _ => ⟨[], trivial, fun e h => by cases h⟩
  | e :: es, k :: ks, x :: xs, y :: ys, hk, ⟨⟨h1, h2, h3⟩, h4⟩, .cons a r => by
    obtain ⟨zs, z1, z2⟩ := zl_of P (fun q hq => hk q (List.mem_cons_of_mem _ hq)) h4 r
    obtain ⟨m, em⟩ := (hk k (by simp)).lk
    refine ⟨(m, e.val) :: zs, ⟨⟨em, h2, lk_is em a h2, rfl, h3⟩, z1⟩, fun e' h' => ?_⟩
    rcases List.mem_cons.mp h' with rfl | h'
    · exact ⟨m, lk_is em a h2, by rw [h1, hash_lk em]⟩
    · exact z2 e' h'
  | [], [], [], _ :: _, _, h, _ => False.elim h
  | [], [], _ :: _, _, _, h, _ => False.elim h
  | [], _ :: _, _, _, _, h, _ => False.elim h
  | _ :: _, [], _, _, _, h, _ => False.elim h
  | _ :: _, _ :: _, [], _, _, h, _ => False.elim h
  | _ :: _, _ :: _, _ :: _, [], _, h, _ => False.elim h
end
end Py

namespace Py
open PySem PySem.Spec PyProof.Rows L2
def LK : List Val → List V → List (Key × Value) → Prop
  | [], [], [] => True
  | k :: ks, y :: ys, z :: zs => (lk k = some z.1 ∧ RelV y z.2) ∧ LK ks ys zs
  | _, _, _ => False
section
variable {T : Tb} {K : PySem.W.Frag} {io : Nat → Addr} {n : Nat} {F : Hp} {P : Program} {w : World}
theorem zl_lk (P : Program) (w : World) : ∀ {ks : List Val} {xs ys : List V} {es : List DictEntry} {zs : List (Key × Value)}, ZL ks xs ys es zs → LK ks ys zs ∧ Pairs (mixKind P w) es zs
  | [], [], [], [], [], _ => ⟨trivial, .nil⟩
  | k :: ks, x :: xs, y :: ys, e :: es, z :: zs, ⟨⟨h1, h2, h3, h4, h5⟩, h6⟩ => by
    obtain ⟨a, b⟩ := zl_lk P w h6
    exact ⟨⟨⟨h1, h5⟩, a⟩, .cons h3 h4 b⟩
  | [], [], [], [], _ :: _, h => False.elim h
  | [], [], [], _ :: _, _, h => False.elim h
  | [], [], _ :: _, _, _, h => False.elim h
  | [], _ :: _, _, _, _, h => False.elim h
  | _ :: _, [], _, _, _, h => False.elim h
  | _ :: _, _ :: _, [], _, _, h => False.elim h
  | _ :: _, _ :: _, _ :: _, [], _, h => False.elim h
  | _ :: _, _ :: _, _ :: _, _ :: _, [], h => False.elim h
theorem lk_keys : ∀ {ks : List Val} {ys : List V} {zs : List (Key × Value)}, LK ks ys zs → ks.map nkV = zs.map fun z => some (nkK z.1)
  | [], [], [], _ => rfl
  | k :: ks, y :: ys, z :: zs, ⟨⟨h1, _⟩, h4⟩ => by rw [List.map_cons, List.map_cons, lk_nk h1, lk_keys h4]
  | [], [], _ :: _, h => False.elim h
  | [], _ :: _, _, h => False.elim h
  | _ :: _, [], _, h => False.elim h
  | _ :: _, _ :: _, [], h => False.elim h
theorem lk_nodup {ks : List Val} {ys : List V} {zs : List (Key × Value)} (z : LK ks ys zs) (h : (ks.map nkV).Nodup) : (zs.map (·.1)).Nodup := by
  rw [lk_keys z] at h
  have : (zs.map fun z => some (nkK z.1)) = (zs.map (·.1)).map (fun k => some (nkK k)) := by rw [List.map_map]; rfl
  rw [this] at h
  rw [List.Nodup, List.pairwise_map] at h
  exact h.imp fun hne e => hne (congrArg (fun k => some (nkK k)) e)
theorem lk_len : ∀ {ks : List Val} {ys : List V} {zs : List (Key × Value)}, LK ks ys zs → zs.length = ks.length ∧ ys.length = ks.length
  | [], [], [], _ => ⟨rfl, rfl⟩
  | k :: ks, y :: ys, z :: zs, ⟨_, h⟩ => by simp [lk_len h]
  | [], [], _ :: _, h => False.elim h
  | [], _ :: _, _, h => False.elim h
  | _ :: _, [], _, h => False.elim h
  | _ :: _, _ :: _, [], h => False.elim h
theorem lk_at {q : Val} {m : Key} (hq : lk q = some m) : ∀ {ks : List Val} {ys : List V} {zs : List (Key × Value)}, LK ks ys zs → RelO (dAt ks ys q) (valueAt zs m)
  | [], [], [], _ => trivial
  | k :: ks, y :: ys, z :: zs, ⟨⟨h1, h3⟩, h4⟩ => by
    have ih := lk_at hq h4
    have e := lk_eq h1 hq
    by_cases hz : z.1 = m
    · have : kEq k q = true := by rw [e]; exact decide_eq_true hz
      simp only [dAt, this, if_true, valueAt, List.find?_cons, hz, decide_true, Option.map_some]
      exact h3
    · have : kEq k q = false := by rw [e]; exact decide_eq_false hz
      simp only [dAt, this, Bool.false_eq_true, if_false, valueAt, List.find?_cons, hz, decide_false]
      exact ih
  | [], [], _ :: _, h => False.elim h
  | [], _ :: _, _, h => False.elim h
  | _ :: _, [], _, h => False.elim h
  | _ :: _, _ :: _, [], h => False.elim h
theorem lk_any {q : Val} {m : Key} (hq : lk q = some m) : ∀ {ks : List Val} {ys : List V} {zs : List (Key × Value)}, LK ks ys zs → dAny ks q = zs.any fun kv => decide (kv.1 = m)
  | [], [], [], _ => rfl
  | k :: ks, y :: ys, z :: zs, ⟨⟨h1, h3⟩, h4⟩ => by
    have ih := lk_any hq h4
    unfold dAny at ih ⊢
    rw [List.any_cons, List.any_cons, ih, lk_eq h1 hq]
  | [], [], _ :: _, h => False.elim h
  | [], _ :: _, _, h => False.elim h
  | _ :: _, [], _, h => False.elim h
  | _ :: _, _ :: _, [], h => False.elim h
theorem lk_snoc {q : Val} {m : Key} {y : V} {u : Value} (hq : lk q = some m) (ry : RelV y u) : ∀ {ks : List Val} {ys : List V} {zs : List (Key × Value)}, LK ks ys zs → LK (ks ++ [q]) (ys ++ [y]) (zs ++ [(m, u)])
  | [], [], [], _ => ⟨⟨hq, ry⟩, trivial⟩
  | k :: ks, y' :: ys, z :: zs, ⟨h, h4⟩ => ⟨h, lk_snoc hq ry h4⟩
  | [], [], _ :: _, h => False.elim h
  | [], _ :: _, _, h => False.elim h
  | _ :: _, [], _, h => False.elim h
  | _ :: _, _ :: _, [], h => False.elim h
theorem lk_rep {q : Val} {m : Key} {y : V} {u : Value} (hq : lk q = some m) (ry : RelV y u) : ∀ {ks : List Val} {ys : List V} {zs : List (Key × Value)}, LK ks ys zs → LK ks (dRep ks ys q y) (zs.map fun kv => if kv.1 = m then (kv.1, u) else kv)
  | [], [], [], _ => trivial
  | k :: ks, y' :: ys, z :: zs, ⟨⟨h1, h3⟩, h4⟩ => by
    have e := lk_eq h1 hq
    rw [List.map_cons]
    simp only [dRep]
    refine ⟨?_, lk_rep hq ry h4⟩
    by_cases hz : z.1 = m
    · have : kEq k q = true := by rw [e]; exact decide_eq_true hz
      rw [if_pos this, if_pos hz]
      exact ⟨h1, ry⟩
    · have : ¬ kEq k q = true := by rw [e]; simpa using hz
      rw [if_neg this, if_neg hz]
      exact ⟨h1, h3⟩
  | [], [], _ :: _, h => False.elim h
  | [], _ :: _, _, h => False.elim h
  | _ :: _, [], _, h => False.elim h
  | _ :: _, _ :: _, [], h => False.elim h
theorem lk_put {q : Val} {m : Key} {y : V} {u : Value} (hq : lk q = some m) (ry : RelV y u) {ks : List Val} {ys : List V} {zs : List (Key × Value)} (h : LK ks ys zs) : LK (putKs ks ks q q) (putVs ks ys q y) (stored zs m u) := by
  unfold putKs putVs stored
  rw [← lk_any hq h]
  split
  · exact lk_rep hq ry h
  · exact lk_snoc hq ry h
theorem ents_of_lk : ∀ {es : List DictEntry} {ks : List Val} {xs ys : List V} {zs : List (Key × Value)}, Pairs (mixKind P w) es zs → (∀ e ∈ es, ∃ k, (mixKind P w).is k e.key = true ∧ e.hash = (mixKind P w).hash k) → LK ks ys zs → VRs T K io n F ks xs → Ents w es ks xs ys
  | _, [], _, [], [], .nil, _, _, .nil => trivial
  | _, k :: ks, _, y :: ys, z :: zs, @Pairs.cons _ _ _ _ _ e _ es _ h1 h2 h3, hh, ⟨⟨a1, a2⟩, a3⟩, .cons r1 r2 => by
    refine ⟨⟨?_, lk_rel a1 r1 h1, by rw [h2]; exact a2⟩, ents_of_lk h3 (fun e' he' => hh e' (List.mem_cons_of_mem _ he')) a3 r2⟩
    obtain ⟨k', e1, e2⟩ := hh e (by simp)
    have := (mixKind P w).inj _ _ _ e1 h1
    subst this
    rw [e2, hash_lk a1]
end

/-! ### a dict of the layer, in the machine's state -/
structure DGx (T : Tb) (K : PySem.W.Frag) (io : Nat → Addr) (n : Nat) (F H : Hp) (a : Addr) (ks : List Val) (xs ys : List V) (es : Array DictEntry) (ep : Nat) : Prop where
  at_ : H a = some (DO a es ep)
  ok : KeysOk ks
  en : Ents T.w es.toList ks xs ys
  rk : VRs T K io n F ks xs
theorem Ents.len {w : World} : ∀ {es : List DictEntry} {ks : List Val} {xs ys : List V}, Ents w es ks xs ys → ks.length = es.length ∧ xs.length = es.length ∧ ys.length = es.length
  | [], [], [], [], _ => ⟨rfl, rfl, rfl⟩
  | e :: es, k :: ks, x :: xs, y :: ys, ⟨_, h⟩ => by simp [Ents.len h]
  | [], [], [], _ :: _, h => False.elim h
  | [], [], _ :: _, _, h => False.elim h
  | [], _ :: _, _, _, h => False.elim h
  | _ :: _, [], _, _, h => False.elim h
  | _ :: _, _ :: _, [], _, h => False.elim h
  | _ :: _, _ :: _, _ :: _, [], h => False.elim h
section
variable {X : Cx} {pins : List (Addr × PySem.Obj)} {σ : L2.St} {H : Hp} {s : Shared} {T : Tb} {io : Nat → Addr} {n : Nat} {F : Hp} {a : Addr} {ks : List Val} {xs ys : List V} {es : Array DictEntry} {ep : Nat} {q : Val} {y : V} {u : Value} {A : Around} {E : Value → Shared → Prop}
theorem dgx_T (I : L2.Inv X pins σ H s) (hw : T.w = X.w) (hF : ∀ b o, F b = some o → H b = some o) (g : DGx T X.K io n F H a ks xs ys es ep) (hk : ∀ k ∈ ks, KeyT k) : ∃ zs, ZR ks xs ys zs ∧ s.heap.DictOfH (nestedKind X.prog X.w) a zs ∧ (a == sysModules) = false ∧ zs.length ≤ sizeLine := by
  obtain ⟨h1, h2, o, e1, e2, e3⟩ := do_at I g.at_
  obtain ⟨zs, z1, z2⟩ := zr_of (P := X.prog) hk (hw ▸ g.en) g.rk
  have hz : zs.length = es.size := by
    have := congrArg List.length z2
    simpa using this.symm
  refine ⟨zs, z1, ⟨o, es, ep, e1, e2, e3, z2, ?_, zr_nodup z1 g.ok.2⟩, h1, by rw [hz]; exact h2⟩
  have : ∀ {ks : List Val} {xs ys : List V} {zs : List (NestedKey × Addr × Value)}, (∀ k ∈ ks, KeyT k) → VRs T X.K io n F ks xs → ZR ks xs ys zs → ∀ x ∈ zs, (nestedKind X.prog X.w).is s.heap x.1 x.2.1 := by
    intro ks
    induction ks with
    | nil =>
      intro xs ys zs _ r z x hx
      cases r
      cases ys <;> cases zs <;> first | (exact False.elim z) | (cases hx)
    | cons k ks ih =>
      intro xs ys zs hk r z x hx
      cases r with
      | cons r1 r2 =>
        cases ys with
        | nil => exact False.elim z
        | cons y ys =>
          cases zs with
          | nil => exact False.elim z
          | cons z' zs =>
            obtain ⟨⟨a1, a2, a3⟩, a4⟩ := z
            rcases List.mem_cons.mp hx with rfl | hx
            · obtain ⟨l, el, dl⟩ := hk k (by simp)
              have : x.1 = NestedKey.tup l := by rw [el] at a1; exact (Option.some.inj a1).symm
              subst a2
              exact ⟨nkV_is I hF k _ _ _ a1 r1 rfl, by rw [this]; exact dl⟩
            · exact ih (fun k hk' => hk k (List.mem_cons_of_mem _ hk')) r2 a4 x hx
  exact this hk g.rk z1
theorem dgx_L (I : L2.Inv X pins σ H s) (hw : T.w = X.w) (g : DGx T X.K io n F H a ks xs ys es ep) (hk : ∀ k ∈ ks, KeyL k) : ∃ zs, LK ks ys zs ∧ s.heap.DictOf (mixKind X.prog X.w) a zs ∧ (a == sysModules) = false ∧ zs.length ≤ sizeLine := by
  obtain ⟨h1, h2, o, e1, e2, e3⟩ := do_at I g.at_
  obtain ⟨zs, z1, z2⟩ := zl_of X.prog hk (hw ▸ g.en) g.rk
  obtain ⟨l1, l2⟩ := zl_lk X.prog X.w z1
  refine ⟨zs, l1, ⟨o, es, ep, e1, e2, e3, fun e he => z2 e (by simpa using he), l2, lk_nodup l1 g.ok.2⟩, h1, ?_⟩
  rw [← l2.length]; simpa using h2
theorem keyT_is (I : L2.Inv X pins σ H s) (hF : ∀ b o, F b = some o → H b = some o) (hq : KeyT q) (rq : VR T X.K io n F q y) (ry : RelV y u) : ∃ m b, nkV q = some m ∧ y = .ref b ∧ u = .ref b ∧ (nestedKind X.prog X.w).is s.heap m b := by
  obtain ⟨b, rfl⟩ := hq.tupV rq
  obtain ⟨l, el, dl⟩ := hq
  cases (show u = Value.ref b from ry)
  exact ⟨_, b, el, rfl, rfl, nkV_is I hF q _ _ _ el rq rfl, dl⟩
theorem room8 (hu : A.units + 64 < cLine) : (nestedKind X.prog X.w).room A.in1 := by show A.units + 1 + 8 < cLine; omega
/-- d[q], q there -/
theorem x_get {z : V} {Q : Value → Shared → Prop} (hu : A.units + 64 < cLine) (I : L2.Inv X pins σ H s) (hw : T.w = X.w) (hF : ∀ b o, F b = some o → H b = some o) (g : DGx T X.K io n F H a ks xs ys es ep) (rq : VR T X.K io n F q y) (ry : RelV y u) (fit : fitK ks q = true) (hz : dAt ks ys q = some z)
    (h : ∀ w' s', L2.Inv X pins σ H s' → RelV z w' → Q w' s') : wpAny (model X.prog X.w) A (getItem (.ref a) u) Q E s := by
  rcases fit_ok g.ok fit with ⟨h1, h2⟩ | ⟨h1, h2⟩
  · obtain ⟨zs, z1, dd, hd, _⟩ := dgx_T I hw hF g h2
    obtain ⟨m, b, em, rfl, rfl, hk⟩ := keyT_is I hF h1 rq ry
    have r := zr_at em z1
    rw [hz] at r
    obtain ⟨w', hw', rw'⟩ := RelO.some_of (v := z) r
    obtain ⟨p, hp, hp2⟩ := Option.map_eq_some_iff.mp hw'
    refine wpAny_getItem_heap (room8 hu) hk dd hp ?_
    rw [hp2]
    exact h w' _ (I.tok _) rw'
  · obtain ⟨zs, z1, dd, hd, _⟩ := dgx_L I hw g h2
    obtain ⟨m, em⟩ := h1.lk
    have r := lk_at em z1
    rw [hz] at r
    obtain ⟨w', hw', rw'⟩ := RelO.some_of (v := z) r
    exact wpAny_getItem_of (knd := mixKind X.prog X.w) (lk_is em rq ry) dd.mapOf hw' (h w' _ (I.tok _) rw')
/-- q in d -/
theorem x_in {Q : Value → Shared → Prop} (hu : A.units + 64 < cLine) (I : L2.Inv X pins σ H s) (hw : T.w = X.w) (hF : ∀ b o, F b = some o → H b = some o) (g : DGx T X.K io n F H a ks xs ys es ep) (rq : VR T X.K io n F q y) (ry : RelV y u) (fit : fitK ks q = true)
    (h : ∀ s', L2.Inv X pins σ H s' → Q (.bool (dAt ks ys q).isSome) s') : wpAny (model X.prog X.w) A (compareOp .In u (.ref a)) Q E s := by
  rcases fit_ok g.ok fit with ⟨h1, h2⟩ | ⟨h1, h2⟩
  · obtain ⟨zs, z1, dd, hd, _⟩ := dgx_T I hw hF g h2
    obtain ⟨m, b, em, rfl, rfl, hk⟩ := keyT_is I hF h1 rq ry
    have r := (zr_at em z1).isSome_eq
    rw [Option.isSome_map] at r
    refine wpAny_in_heap (room8 hu) hk hd dd ?_
    rw [← r]
    exact h _ (I.tok _)
  · obtain ⟨zs, z1, dd, hd, _⟩ := dgx_L I hw g h2
    obtain ⟨m, em⟩ := h1.lk
    have r := (lk_at em z1).isSome_eq
    refine wpAny_in_of (knd := mixKind X.prog X.w) (lk_is em rq ry) hd dd.mapOf ?_
    rw [← r]
    exact h _ (I.tok _)
theorem x_notIn {Q : Value → Shared → Prop} (hu : A.units + 64 < cLine) (I : L2.Inv X pins σ H s) (hw : T.w = X.w) (hF : ∀ b o, F b = some o → H b = some o) (g : DGx T X.K io n F H a ks xs ys es ep) (rq : VR T X.K io n F q y) (ry : RelV y u) (fit : fitK ks q = true)
    (h : ∀ s', L2.Inv X pins σ H s' → Q (.bool (!(dAt ks ys q).isSome)) s') : wpAny (model X.prog X.w) A (compareOp .NotIn u (.ref a)) Q E s := by
  rcases fit_ok g.ok fit with ⟨h1, h2⟩ | ⟨h1, h2⟩
  · obtain ⟨zs, z1, dd, hd, _⟩ := dgx_T I hw hF g h2
    obtain ⟨m, b, em, rfl, rfl, hk⟩ := keyT_is I hF h1 rq ry
    have r := (zr_at em z1).isSome_eq
    rw [Option.isSome_map] at r
    refine wpAny_notIn_heap (room8 hu) hk hd dd ?_
    rw [← r]
    exact h _ (I.tok _)
  · obtain ⟨zs, z1, dd, hd, _⟩ := dgx_L I hw g h2
    obtain ⟨m, em⟩ := h1.lk
    have r := (lk_at em z1).isSome_eq
    refine wpAny_notIn_of (knd := mixKind X.prog X.w) (lk_is em rq ry) hd dd.mapOf ?_
    rw [← r]
    exact h _ (I.tok _)
/-- d.get(q, x) -/
theorem x_get2 {d : V} {r : Value} {Q : Value → Shared → Prop} (hu : A.units + 64 < cLine) (I : L2.Inv X pins σ H s) (hw : T.w = X.w) (hF : ∀ b o, F b = some o → H b = some o) (g : DGx T X.K io n F H a ks xs ys es ep) (rq : VR T X.K io n F q y) (ry : RelV y u) (fit : fitK ks q = true) (rd : RelV d r)
    (h : ∀ w' s', L2.Inv X pins σ H s' → RelV ((dAt ks ys q).getD d) w' → Q w' s') : wpAny (model X.prog X.w) A (call (.builtin "dict.get") [.ref a, u, r]) Q E s := by
  rcases fit_ok g.ok fit with ⟨h1, h2⟩ | ⟨h1, h2⟩
  · obtain ⟨zs, z1, dd, hd, _⟩ := dgx_T I hw hF g h2
    obtain ⟨m, b, em, rfl, rfl, hk⟩ := keyT_is I hF h1 rq ry
    refine call_meetsIn PySem.F.slot_dict_get dd.typeIs PySem.F.entry_dict_get (PySem.F.args_dict_get_3 _ _ _) (meetsH_dict_get_default (nestedKind X.prog X.w) a b hd r) ⟨room8 hu, m, zs, hk, dd, h _ _ (I.tok _) ?_⟩
    exact (zr_at em z1).getD rd
  · obtain ⟨zs, z1, dd, hd, _⟩ := dgx_L I hw g h2
    obtain ⟨m, em⟩ := h1.lk
    refine call_meetsIn PySem.F.slot_dict_get dd.typeIs PySem.F.entry_dict_get (PySem.F.args_dict_get_3 _ _ _) (meets_dict_get_default (mixKind X.prog X.w) a (lk_is em rq ry) hd r) ⟨_, dd.mapOf, h _ _ (I.tok _) ?_⟩
    exact (lk_at em z1).getD rd
/-- what stands behind a store -/
theorem zr_put {m : NestedKey} {b : Addr} {z : V} {r : Value} {zs : List (NestedKey × Addr × Value)} (em : nkV q = some m) (rz : RelV z r) (z1 : ZR ks xs ys zs) : ZR (putKs ks ks q q) (putKs ks xs q (.ref b)) (putVs ks ys q z) (storedH zs m b r) := by
  have e : dAny ks q = (atKey zs m).isSome := by
    have h1 : ∀ {ks : List Val} {xs ys : List V} {zs : List (NestedKey × Addr × Value)}, ZR ks xs ys zs → dAny ks q = (atKey zs m).isSome := by
      intro ks
      induction ks with
      | nil =>
        intro xs ys zs z
        cases xs <;> cases ys <;> cases zs <;> first | rfl | (exact False.elim z)
      | cons k ks ih =>
        intro xs ys zs z
        cases xs with
        | nil => exact False.elim z
        | cons x xs => cases ys with
          | nil => exact False.elim z
          | cons y ys => cases zs with
            | nil => exact False.elim z
            | cons z' zs =>
              obtain ⟨⟨a1, a2, a3⟩, a4⟩ := z
              have ih' := ih a4
              unfold dAny at ih' ⊢
              rw [List.any_cons, kEq_ok a1 em]
              by_cases hz : z'.1 = m
              · simp [atKey, List.find?_cons, hz]
              · simp only [atKey, List.find?_cons, hz, decide_false, Bool.false_or]
                exact ih'
    exact h1 z1
  unfold putKs putVs storedH
  rw [e]
  split
  · exact zr_rep em rz z1
  · exact zr_snoc em rz z1
/-- what is known behind a store -/
structure PutOk (X : Cx) (pins : List (Addr × PySem.Obj)) (σ : L2.St) (H : Hp) (T : Tb) (a : Addr) (es : Array DictEntry) (ep : Nat) (ks : List Val) (xs ys : List V) (q : Val) (y z : V) (s' : Shared) : Prop where
  ex : ∃ es' ep', Ents T.w es'.toList (putKs ks ks q q) (putKs ks xs q y) (putVs ks ys q z) ∧ (ep = es.size → ep' = es'.size) ∧ L2.Inv X pins σ (upd H a (DO a es' ep')) s'
theorem put_T {m : NestedKey} {b : Addr} {z : V} {r : Value} {zs : List (NestedKey × Addr × Value)} {h' : Heap} {tk : Nat} {es' : Array DictEntry} (I : L2.Inv X pins σ H s) (hw : T.w = X.w) (g : DGx T X.K io n F H a ks xs ys es ep) (em : nkV q = some m) (rz : RelV z r) (z1 : ZR ks xs ys zs) (hd : (a == sysModules) = false) (hl : es.size < sizeLine)
    (st : Stored s.heap h' a es es' ep ((storedH zs m b r).map (entryOfKey (nestedKind X.prog X.w)))) : PutOk X pins σ H T a es ep ks xs ys q (.ref b) z { s with heap := h', toks := tk } := by
  obtain ⟨⟨ep', ⟨o, e1, e2, e3⟩, e0⟩, e4, hs⟩ := st
  refine ⟨es', ep', ?_, by omega, ?_⟩
  · rw [e4, hw]; exact ents_of (zr_put em rz z1)
  · refine d_write I (by rw [g.at_]; exact True.intro) hs ⟨o, e1⟩ (do_ok hd ?_ ⟨o, e1, e2, e3⟩)
    have l1 : es'.size = (storedH zs m b r).length := by
      have := congrArg List.length e4
      simpa using this
    have l2 : (storedH zs m b r).length ≤ zs.length + 1 := by
      unfold storedH; split <;> simp
    have l3 : zs.length = es.size := by
      have h1 := Ents.len g.en
      have h2 : ks.length = zs.length := by
        have := congrArg List.length (zr_keys z1)
        simpa using this
      simp at h1
      omega
    omega
theorem put_L {m : Key} {z : V} {r : Value} {zs : List (Key × Value)} {h' : Heap} {tk : Nat} {es' : Array DictEntry} (I : L2.Inv X pins σ H s) (hw : T.w = X.w) (g : DGx T X.K io n F H a ks xs ys es ep) (rq : VR T X.K io n F q y) (em : lk q = some m) (rz : RelV z r) (z1 : LK ks ys zs) (hd : (a == sysModules) = false) (hl : es.size < sizeLine)
    (st : ∃ l, Stored s.heap h' a es es' ep l) (e4 : KeysOf (mixKind X.prog X.w) es') (e5 : Pairs (mixKind X.prog X.w) es'.toList (stored zs m r)) : PutOk X pins σ H T a es ep ks xs ys q y z { s with heap := h', toks := tk } := by
  obtain ⟨l, ⟨ep', ⟨o, e1, e2, e3⟩, e0⟩, _, hs⟩ := st
  refine ⟨es', ep', ?_, by omega, ?_⟩
  · rw [hw]
    exact ents_of_lk e5 (fun e he => e4 e (by simpa using he)) (lk_put em rz z1) (putKs_rel g.rk rq)
  · refine d_write I (by rw [g.at_]; exact True.intro) hs ⟨o, e1⟩ (do_ok hd ?_ ⟨o, e1, e2, e3⟩)
    have l1 : es'.size = (stored zs m r).length := by
      have := e5.length
      simpa using this
    have l2 : (stored zs m r).length ≤ zs.length + 1 := by
      unfold stored; split <;> simp
    have l3 : zs.length = es.size := by
      have h1 := Ents.len g.en
      have h2 := lk_len z1
      simp at h1
      omega
    omega
theorem x_dset {z : V} {r : Value} {Q : Unit → Shared → Prop} (hu : A.units + 60 < cLine) (I : L2.Inv X pins σ H s) (hw : T.w = X.w) (hF : ∀ b o, F b = some o → H b = some o) (g : DGx T X.K io n F H a ks xs ys es ep) (rq : VR T X.K io n F q y) (ry : RelV y u) (fit : fitK ks q = true) (rz : RelV z r) (hl : es.size < sizeLine)
    (h : ∀ s', PutOk X pins σ H T a es ep ks xs ys q y z s' → Q () s') : wpAny (model X.prog X.w) A (dictSet a u r) Q E s := by
  rcases fit_ok g.ok fit with ⟨h1, h2⟩ | ⟨h1, h2⟩
  · obtain ⟨zs, z1, ⟨o, es2, ep2, d1, d2, d3, d4, d5, d6⟩, hd, hz⟩ := dgx_T I hw hF g h2
    obtain ⟨_, _, o', c1, c2, c3⟩ := do_at I g.at_
    obtain rfl : o = o' := by rw [d1] at c1; exact Option.some.inj c1
    obtain ⟨rfl, rfl⟩ : es2 = es ∧ ep2 = ep := by rw [d3] at c3; exact ⟨by injection c3, by injection c3⟩
    obtain ⟨m, b, em, rfl, rfl, hk⟩ := keyT_is I hF h1 rq ry
    exact setE_T (knd := nestedKind X.prog X.w) (by show A.units + 8 < cLine; omega) hk d1 d2 d3 d4 d5 d6 (Nat.le_of_lt hl) fun h' es' st => h _ (put_T I hw g em rz z1 hd hl st)
  · obtain ⟨zs, z1, ⟨o, es2, ep2, d1, d2, d3, d4, d5, d6⟩, hd, hz⟩ := dgx_L I hw g h2
    obtain ⟨_, _, o', c1, c2, c3⟩ := do_at I g.at_
    obtain rfl : o = o' := by rw [d1] at c1; exact Option.some.inj c1
    obtain ⟨rfl, rfl⟩ : es2 = es ∧ ep2 = ep := by rw [d3] at c3; exact ⟨by injection c3, by injection c3⟩
    obtain ⟨m, em⟩ := h1.lk
    exact setE_L (knd := mixKind X.prog X.w) (lk_is em rq ry) d1 d2 d3 d4 d5 d6 (Nat.le_of_lt hl) fun h' es' st k1 k2 => h _ (put_L I hw g rq em rz z1 hd hl st k1 k2)
/-- d[q] = z -/
theorem x_set {z : V} {r : Value} {Q : Unit → Shared → Prop} (hu : A.units + 64 < cLine) (I : L2.Inv X pins σ H s) (hw : T.w = X.w) (hF : ∀ b o, F b = some o → H b = some o) (g : DGx T X.K io n F H a ks xs ys es ep) (rq : VR T X.K io n F q y) (ry : RelV y u) (fit : fitK ks q = true) (rz : RelV z r) (hl : es.size < sizeLine)
    (h : ∀ s', PutOk X pins σ H T a es ep ks xs ys q y z s' → Q () s') : wpAny (model X.prog X.w) A (setItem (.ref a) u r) Q E s := by
  obtain ⟨_, _, hr⟩ := do_at I g.at_
  exact set_by hr.typeIs (x_dset (by show A.units + 1 + 60 < cLine; omega) I hw hF g rq ry fit rz hl h)
end
end Py

namespace Py
open PySem PySem.Spec PyProof.Rows L2

/-! ### dicts in the layer -/
def dctOf (h : Hh) : Val → Option (List Val × List Val)
  | .dct ks vs => some (ks, vs)
  | .ref k => (match h[k]? with
    | some (.dct ks vs) => some (ks, vs)
    | _ => none)
  | _ => none
theorem dctOf_ok {T : Tb} {K : PySem.W.Frag} {io : Nat → Addr} {F H : Hp} {h : Hh} {v : Val} {x : V} {ks vs : List Val} (sr : SR T K io h F H) (r : VR T K io h.length F v x) (e : dctOf h v = some (ks, vs)) :
    ∃ a xs ys es ep, x = .ref a ∧ DGx T K io h.length F H a ks xs ys es ep ∧ VRs T K io h.length F vs ys := by
  unfold dctOf at e
  cases r with
  | @dct ks' vs' a es ep xs ys q hk he r1 r2 =>
    cases e
    exact ⟨a, xs, ys, es, ep, rfl, ⟨sr.sub _ _ q, hk, he, r1⟩, r2⟩
  | ref k hk =>
    dsimp only at e
    cases ek : h[k]? with
    | none => rw [ek] at e; cases e
    | some ob =>
      rw [ek] at e
      cases ob with
      | dct ks' vs' =>
        cases e
        obtain ⟨es, ep, xs, ys, ea, hkk, he, r1, r2⟩ := sr.obj k _ ek
        exact ⟨io k, xs, ys, es, ep, rfl, ⟨ea, hkk.2, he, r1⟩, r2⟩
      | _ => cases e
  | _ => cases e
/-- what the dict at a has for the key y -/
def DHas (K : PySem.W.Frag) (w : World) (H : Hp) (y : V) (a : Addr) (o : Option V) : Prop := ∃ (T : Tb) (io : Nat → Addr) (n : Nat) (F : Hp) (ks : List Val) (xs ys : List V) (es : Array DictEntry) (ep : Nat) (q : Val),
  T.w = w ∧ (∀ b u, F b = some u → H b = some u) ∧ DGx T K io n F H a ks xs ys es ep ∧ VR T K io n F q y ∧ fitK ks q = true ∧ o = dAt ks ys q
def rInDX (K : PySem.W.Frag) (w : World) (neg : Bool) : R2 := fun x y H Q => ∃ a o, y = .ref a ∧ DHas K w H x a o ∧ Q (.bl (if neg = true then !o.isSome else o.isSome)) H
section
variable {X : Cx}
theorem op_inDX (hu : X.A.units + 64 < cLine) : OpR X (compareOp .In) (rInDX X.K X.w false) := by
  intro pins s σ H x y v u Q I rx ry h
  obtain ⟨a, o, rfl, ⟨T, io, n, F, ks, xs, ys, es, ep, q, hw, hF, g, rq, fit, rfl⟩, qq⟩ := h
  obtain rfl : u = Value.ref a := ry
  exact x_in hu I hw hF g rq rx fit fun s' I' => ⟨.bl _, H, I', rfl, qq⟩
theorem op_notInDX (hu : X.A.units + 64 < cLine) : OpR X (compareOp .NotIn) (rInDX X.K X.w true) := by
  intro pins s σ H x y v u Q I rx ry h
  obtain ⟨a, o, rfl, ⟨T, io, n, F, ks, xs, ys, es, ep, q, hw, hF, g, rq, fit, rfl⟩, qq⟩ := h
  obtain rfl : u = Value.ref a := ry
  exact x_notIn hu I hw hF g rq rx fit fun s' I' => ⟨.bl _, H, I', rfl, qq⟩
end
def gInX : G2 := fun h v u => match dctOf h u with
  | some (ks, vs) => if fitK ks v = true then some (.bl (dAt ks vs v).isSome) else none
  | none => gInA h v u
def gNotInX : G2 := fun h v u => match dctOf h u with
  | some (ks, vs) => if fitK ks v = true then some (.bl (!(dAt ks vs v).isSome)) else none
  | none => gIn true h v u
def rInX (K : PySem.W.Frag) (w : World) : R2 := fun x y H Q => rInA K x y H Q ∨ rInDX K w false x y H Q
def rNotInX (K : PySem.W.Frag) (w : World) : R2 := fun x y H Q => rIn K true x y H Q ∨ rInDX K w true x y H Q
theorem op_inX {X : Cx} {k : Nat} (hr : RoomG k X.A) : OpR X (compareOp .In) (rInX X.K X.w) := OpR.or (op_inA hr) (op_inDX hr.units)
theorem op_notInX {X : Cx} {k : Nat} (hr : RoomG k X.A) : OpR X (compareOp .NotIn) (rNotInX X.K X.w) := OpR.or op_notIn_seq (op_notInDX hr.units)
section
variable {T : Tb} {K : PySem.W.Frag} {w : World}
theorem dAt_some_iff {io : Nat → Addr} {n : Nat} {F : Hp} {ks vs : List Val} {ys : List V} {q : Val} (r : VRs T K io n F vs ys) : (dAt ks ys q).isSome = (dAt ks vs q).isSome := by
  obtain ⟨h1, h2⟩ := dAt_rel (q := q) (ks := ks) r
  cases e : dAt ks vs q with
  | none => rw [h2 e]; rfl
  | some v => obtain ⟨y, e2, _⟩ := h1 v e; rw [e2]; rfl
theorem lift_inX (hw : T.w = w) : Lift2 T K (rInX K w) gInX := by
  intro io h F H v u x y z Q sr vr ur e q
  unfold gInX at e
  cases ed : dctOf h u with
  | none => rw [ed] at e; exact .inl (lift_inA io h F H v u x y z Q sr vr ur e q)
  | some p =>
    obtain ⟨ks, vs⟩ := p
    rw [ed] at e
    dsimp only at e
    split at e
    · rename_i fit
      cases e
      obtain ⟨a, xs, ys, es, ep, rfl, g, r2⟩ := dctOf_ok sr ur ed
      refine .inr ⟨a, _, rfl, ⟨T, io, h.length, F, ks, xs, ys, es, ep, v, hw, sr.sub, g, vr, fit, rfl⟩, ?_⟩
      rw [dAt_some_iff r2]
      exact q F H _ .refl sr (.bl _)
    · cases e
theorem lift_notInX (hw : T.w = w) : Lift2 T K (rNotInX K w) gNotInX := by
  intro io h F H v u x y z Q sr vr ur e q
  unfold gNotInX at e
  cases ed : dctOf h u with
  | none => rw [ed] at e; exact .inl (lift_in true io h F H v u x y z Q sr vr ur e q)
  | some p =>
    obtain ⟨ks, vs⟩ := p
    rw [ed] at e
    dsimp only at e
    split at e
    · rename_i fit
      cases e
      obtain ⟨a, xs, ys, es, ep, rfl, g, r2⟩ := dctOf_ok sr ur ed
      refine .inr ⟨a, _, rfl, ⟨T, io, h.length, F, ks, xs, ys, es, ep, v, hw, sr.sub, g, vr, fit, rfl⟩, ?_⟩
      rw [dAt_some_iff r2]
      exact q F H _ .refl sr (.bl _)
    · cases e
end

/-! ### d[k] -/
theorem pe_or {X : Cx} {e : Expr} {t u : TE} (h1 : PE X e t) (h2 : PE X e u) : PE X e (fun σ H Q => t σ H Q ∨ u σ H Q) := ⟨fun pins s σ H Q I q => q.elim (h1.run pins s σ H Q I) (h2.run pins s σ H Q I)⟩
theorem pg_or {X : Cx} {e : Expr} {t u : TG} (h1 : PG X e t) (h2 : PG X e u) : PG X e (fun v σ H Q => t v σ H Q ∨ u v σ H Q) := ⟨fun pins s σ H v w Q I r q => q.elim (h1.run pins s σ H v w Q I r) (h2.run pins s σ H v w Q I r)⟩
def gIxX : G2 := fun h v u => match dctOf h v with
  | some (ks, vs) => if fitK ks u = true then dAt ks vs u else none
  | none => gIx h v u
section
variable {T : Tb} {X : Cx} {W : WX} {a b c e o i : Expr} {fa fb fc fe fo fi : Ex} {pos : Pos}
def tDGetX (K : PySem.W.Frag) (w : World) (td ty : TE) : TE := fun σ H Q => td σ H fun x H1 => ty σ H1 fun y H2 => ∃ a v, x = .ref a ∧ DHas K w H2 y a (some v) ∧ Q v H2
theorem dhas_type {pins : List (Addr × PySem.Obj)} {σ : L2.St} {H : Hp} {s : Shared} {y : V} {ad : Addr} {ov : Option V} (I : L2.Inv X pins σ H s) (g : DHas X.K X.w H y ad ov) : s.TypeIs (.ref ad) "dict" := by
  obtain ⟨T, io, n, F, ks, xs, ys, es, ep, q, hw, hF, g, rq, fit, rfl⟩ := g
  exact (do_at I g.at_).2.2.typeIs
theorem pe_dgetX {td ty : TE} (hu : X.A.units + 64 < cLine) (ho : PE X o td) (hi : PE X i ty) (hs : NoSl i) : PE X (.Subscript o i pos) (tDGetX X.K X.w td ty) := by
  refine ⟨fun pins s σ H Q I h => subD_of PySem.F.slot_dict_getitem.lookup hs (thn (ho.run pins s σ H _ I h) ?_)⟩
  rintro u s1 ⟨x, H1, I1, rx, q1⟩
  refine thn (hi.run pins s1 σ H1 _ I1 q1) ?_
  rintro iv s2 ⟨y, H2, I2, ry, ad, v, rfl, g, q2⟩
  obtain rfl : u = Value.ref ad := rx
  refine ⟨dhas_type I2 g, ?_⟩
  obtain ⟨T, io, n, F, ks, xs, ys, es, ep, q, hw, hF, g, rq, fit, e⟩ := g
  exact x_get hu I2 hw hF g rq ry fit e.symm fun w' s3 I3 rw' => ⟨v, H2, I3, rw', q2⟩
theorem xOp_ix (sg : Sg) (h : Hh) : (∃ v h1 u h2 p, fa sg h = .ok v h1 ∧ fb sg h1 = .ok u h2 ∧ dctOf h2 v = some p) ∨ xOp gIxX fa fb sg h = xOp gIx fa fb sg h := by
  unfold xOp
  cases e1 : fa sg h with
  | bad => exact .inr rfl
  | exc c fs h1 => exact .inr rfl
  | ok v h1 =>
    cases e2 : fb sg h1 with
    | bad => right; simp [Res.bind, e2]
    | exc c fs h2 => right; simp [Res.bind, e2]
    | ok u h2 =>
      cases ed : dctOf h2 v with
      | some p => exact .inl ⟨v, h1, u, h2, p, rfl, e2, ed⟩
      | none => right; simp [Res.bind, e2, gIxX, ed]
theorem je_ixX (hw : T.w = X.w) (hu : X.A.units + 64 < cLine) (ha : JE T X W a fa) (hb : JE T X W b fb) (hs : PlainIx b := by exact fun _ _ => rfl) (hs2 : NoSl b := by exact fun _ _ => rfl) : JE T X W (.Subscript a b pos) (xOp gIxX fa fb) := by
  refine pe_imp (pe_or (je_ix ha hb hs) (pe_dgetX hu ha hb hs2)) fun σ H Q ⟨io, h, F, sg, sr, rs, w⟩ => ?_
  rcases xOp_ix (fa := fa) (fb := fb) sg h with ⟨v, h1, u, h2, ⟨ks, vs⟩, e1, e2, ed⟩ | q
  · refine .inr ⟨io, h, F, sg, sr, rs, ?_⟩
    unfold xOp at w
    rw [e1] at w ⊢
    intro io1 F1 H1 x st1 sr1 vr
    have w1 := Wants.rebase w st1 sr1
    refine ⟨io1, h1, F1, sg, sr1, rs.step st1, ?_⟩
    simp only [Res.bind, e2] at w1
    rw [e2]
    intro io2 F2 H2 y st2 sr2 vu
    have w2 := Wants.rebase w1 st2 sr2
    simp only [gIxX, ed] at w2
    obtain ⟨z, ez, w3⟩ := wants_ofO w2
    split at ez
    · rename_i fit
      obtain ⟨ad, xs, ys, es, ep, rfl, g, r2⟩ := dctOf_ok sr2 (vr.step st2) ed
      obtain ⟨zz, ezz, rz⟩ := (dAt_rel (q := u) (ks := ks) r2).1 z ez
      exact ⟨ad, zz, rfl, ⟨T, io2, h2.length, F2, ks, xs, ys, es, ep, u, hw, sr2.sub, g, vu, fit, ezz.symm⟩, w3 io2 F2 H2 zz .refl sr2 rz⟩
    · cases ez
  · rw [q] at w
    exact .inl ⟨io, h, F, sg, sr, rs, w⟩
/-! ### d[k] = v -/
def tSetX (K : PySem.W.Frag) (w : World) : TSet := fun o i v H Q => ∃ ad, o = .ref ad ∧ ∃ (T : Tb) (io : Nat → Addr) (n : Nat) (F : Hp) (ks : List Val) (xs ys : List V) (es : Array DictEntry) (ep : Nat) (q : Val),
  T.w = w ∧ (∀ b u, F b = some u → H b = some u) ∧ DGx T K io n F H ad ks xs ys es ep ∧ VR T K io n F q i ∧ fitK ks q = true ∧ es.size < sizeLine ∧
  ∀ es' ep', Ents T.w es'.toList (putKs ks ks q q) (putKs ks xs q i) (putVs ks ys q v) → (ep = es.size → ep' = es'.size) → Q (upd H ad (DO ad es' ep'))
theorem set_dct (hu : X.A.units + 64 < cLine) : PSet X (tSetX X.K X.w) := by
  intro pins s σ H o i v ov iv u Q I ro ri rv h
  obtain ⟨ad, rfl, T, io, n, F, ks, xs, ys, es, ep, q, hw, hF, g, rq, fit, hz, k⟩ := h
  obtain rfl : ov = Value.ref ad := ro
  refine x_set hu I hw hF g rq ri fit rv hz fun s' p => ?_
  obtain ⟨es', ep', e1, e2, I'⟩ := p.ex
  exact ⟨_, I', k es' ep' e1 e2⟩
def gSetX (o i : Ex) : Gx := fun v sg h => match o sg h with
  | .ok ov h1 => (match i sg h1 with
    | .ok iv h2 => (match ov with
      | .ref k => (match h2[k]? with
        | some (.dct ks vs) => if (fitK ks iv && decide (ks.length < 1000000)) = true then .ok sg (h2.set k (.dct (putKs ks ks iv iv) (putVs ks vs iv v))) else .bad
        | _ => gSetIx o i v sg h)
      | _ => gSetIx o i v sg h)
    | _ => gSetIx o i v sg h)
  | _ => gSetIx o i v sg h
theorem gSetX_or (o i : Ex) (v : Val) (sg : Sg) (h : Hh) : (∃ k h1 iv h2 ks vs, o sg h = .ok (.ref k) h1 ∧ i sg h1 = .ok iv h2 ∧ h2[k]? = some (.dct ks vs)) ∨ gSetX o i v sg h = gSetIx o i v sg h := by
  unfold gSetX
  split
  · rename_i ov h1 e1
    split
    · rename_i iv h2 e2
      split
      · rename_i k
        split
        · rename_i ks vs e3
          exact .inl ⟨k, h1, iv, h2, ks, vs, e1, e2, e3⟩
        · exact .inr rfl
      · exact .inr rfl
    · exact .inr rfl
  · exact .inr rfl
theorem jg_ixX (hw : T.w = X.w) (hu : X.A.units + 64 < cLine) (ho : JE T X Wno o fo) (hi : JE T X Wno i fi)
    (ha : ∀ v, assign (.Subscript o i pos) X.env v = (do
      let ov ← holding [v] (eval o X.env)
      let iv ← holding [v, ov] (eval i X.env)
      standAt pos
      holding [v, ov, iv] (setItem ov iv v)
      release [v, ov, iv] []) := by intro _; rfl) : JG T X (.Subscript o i pos) (gSetX fo fi) := by
  refine pg_imp (pg_or (jg_ix ho hi ha) (pg_sub ho hi (set_dct hu) ha)) fun y σ H Q ⟨io, h, F, sg, v, sr, rs, vr, w⟩ => ?_
  rcases gSetX_or fo fi v sg h with ⟨k, h1, iv, h2, ks, vs, e1, e2, e3⟩ | q
  · refine .inr ⟨io, h, F, sg, sr, rs, ?_⟩
    unfold gSetX at w
    rw [e1] at w ⊢
    intro io1 F1 H1 ox st1 sr1 vo
    refine ⟨io1, h1, F1, sg, sr1, rs.step st1, ?_⟩
    simp only [e2, e3] at w
    rw [e2]
    intro io2 F2 H2 ix st2 sr2 vi
    split at w
    · rename_i hc
      rw [Bool.and_eq_true] at hc
      have vk := vo.step st2
      cases vk with
      | ref _ hk =>
        obtain ⟨es, ep, xs, ys, ea, hkk, he, r1, r2⟩ := sr2.obj k _ e3
        have st02 := st1.trans sr1 st2
        have hl := Ents.len he
        have hz : es.size < sizeLine := by
          have := of_decide_eq_true hc.2
          simp at hl
          rw [sizeLine_eq]; omega
        refine ⟨io2 k, rfl, T, io2, h2.length, F2, ks, xs, ys, es, ep, iv, hw, sr2.sub, ⟨ea, hkk.2, he, r1⟩, vi, hc.1, hz, fun es' ep' q1 q2 => ?_⟩
        have st3 : Step io2 h2.length F2 H2 io2 (h2.set k (.dct (putKs ks ks iv iv) (putVs ks vs iv v))).length F2 (upd H2 (io2 k) (DO (io2 k) es' ep')) := sr2.writeStep hk
        refine w io2 F2 _ σ (st02.trans sr2 st3) (sr2.write hk (fun z q => by rw [ea] at q; unfold DO at q; cases q) ?_) ((rs.step st02).step st3)
        exact ⟨es', ep', _, _, upd_same, ⟨q2 hkk.1, hkk.2.put hc.1⟩, q1, putKs_rel r1 vi, putVs_rel r2 (vr.step st02)⟩
    · exact w.elim
  · rw [q] at w
    exact .inl ⟨io, h, F, sg, v, sr, rs, vr, w⟩
end
/-! ### {} -/
section
variable {T : Tb} {X : Cx} {W : WX} {pos : Pos}
theorem pe_dnewX : PE X (.Dict [] [] pos) (fun _ H Q => ∀ p, H p = none → Q (.ref p) (upd H p (DO p #[] 0))) := ⟨fun pins s σ H Q I h =>
  wpAny_Dict_empty ⟨.ref s.heap.objs.size, _, I.laid (a := s.heap.objs.size) (o := DO s.heap.objs.size #[] 0) (t' := s.toks) (fun _ _ q => Heap.get?_push_of_some _ q) (Nat.le_refl _)
    (do_ok (beq_eq_false_iff_ne.mpr (Ne.symm (Nat.ne_of_lt I.big))) (Nat.zero_le _) ⟨_, Heap.get?_push_size _ rfl, ⟨rfl, rfl, rfl⟩, rfl⟩), rfl, h _ (I.hok.fresh (Nat.le_refl _))⟩⟩
def xDct0 : Ex := fun _ h => .ok (.ref h.length) (h ++ [.dct [] []])
def xDct0F : Ex := fun _ h => .ok (.dct [] []) h
theorem keys0 : KeysOk [] := ⟨.inl fun k hk => (by cases hk), List.nodup_nil⟩
theorem je_dct0 : JE T X W (.Dict [] [] pos) xDct0 := by
  refine pe_imp pe_dnewX fun σ H Q ⟨io, h, F, sg, sr, rs, w⟩ p hp => ?_
  have hH : ∀ b u, H b = some u → upd H p (DO p #[] 0) b = some u := upd_sub H hp
  have vp : VR T X.K (ioPush io h.length p) (h ++ [Obj.dct [] []]).length F (.ref h.length) (.ref (ioPush io h.length p h.length)) := .ref _ (by simp)
  rw [ioPush_at] at vp
  exact w _ _ _ _ (sr.pushStep hp hH) (sr.push hp hH ⟨#[], 0, [], [], upd_same, ⟨rfl, keys0⟩, trivial, .nil, .nil⟩) vp
theorem je_dct0F : JE T X W (.Dict [] [] pos) xDct0F := by
  refine pe_imp pe_dnewX fun σ H Q ⟨io, h, F, sg, sr, rs, w⟩ p hp => ?_
  exact w io _ _ _ (sr.allocStep hp _) (sr.alloc hp _) (.dct (xs := []) (ys := []) upd_same keys0 True.intro .nil .nil)
end
end Py

namespace Py
open PySem PySem.Spec PyProof.Rows L2

/-! ### walks of a dict -/
def ItX (d : Addr) (ep n0 : Nat) (pick : DictEntry → Value) : It where
  go := fun i H => ∃ es e x, H d = some (DO d es ep) ∧ es.size = n0 ∧ es[i]? = some e ∧ RelV x (pick e)
  yld := fun i H x H' => H' = H ∧ ∀ es e, H d = some (DO d es ep) → es[i]? = some e → RelV x (pick e)
  stop := fun i H => ∃ es, H d = some (DO d es ep) ∧ es.size = n0 ∧ n0 ≤ i
def ItXi (d : Addr) (ep n0 : Nat) : It where
  go := fun i H => ∃ es e x y, H d = some (DO d es ep) ∧ es.size = n0 ∧ es[i]? = some e ∧ RelV x e.key ∧ RelV y e.val
  yld := fun i H z H' => ∃ p x y, z = .ref p ∧ H p = none ∧ H' = upd H p (.tup [x, y]) ∧ ∀ es e, H d = some (DO d es ep) → es[i]? = some e → RelV x e.key ∧ RelV y e.val
  stop := fun i H => ∃ es, H d = some (DO d es ep) ∧ es.size = n0 ∧ n0 ≤ i
theorem raw_same {h : Heap} {d : Addr} {es es' : Array DictEntry} {ep ep' : Nat} (a : h.DictRaw d es ep) (b : h.DictRaw d es' ep') : es = es' := by
  obtain ⟨o, h1, _, h3⟩ := a
  obtain ⟨o', k1, _, k3⟩ := b
  rw [h1] at k1; cases k1
  rw [h3] at k3; injection k3
section
variable {P : Program} {w : World} {K : PySem.W.Frag} {tg : Expr} {d : Addr} {ep n0 : Nat}
theorem turn_kx (it : Addr) : Turn P w K tg (ItX d ep n0 (·.key)) [it] it (fun i h => h.IsKeyIter it d i n0 ep) where
  mem := List.mem_singleton.mpr rfl
  obj := fun i h st b hb => by
    obtain rfl := List.mem_singleton.mp hb
    obtain ⟨oi, z, _, dd⟩ := st
    exact ⟨oi, z, fun v q => by rw [dd] at q; cases q⟩
  keep := fun i h h' st k => st.at fun oi z => k it (List.mem_singleton.mpr rfl) oi z
  item := by
    intro X eP ew eK hc i pins s σ H E I hf st ⟨es, e, x, hd, hz, he, rx⟩
    subst eP ew eK hz
    obtain ⟨f0, f1, _, f3, f4, f5⟩ := hf it (List.mem_singleton.mpr rfl)
    obtain ⟨_, _, hm⟩ := do_at I hd
    obtain ⟨hi, ee⟩ := Array.getElem?_eq_some_iff.mp he
    refine wpAny_pyNext_keys_item_raw st hm hi fun h' st' sb => ⟨_, rfl, ?_⟩
    obtain ⟨oi, z, c, dd⟩ := id st'
    refine go_of (s := { s with heap := h' }) z c dd (by decide) ⟨x, H, I.turned (t' := s.toks) (fun b ob hb q => (sb.2 b hb).trans q) f0 f1 f3 f4 f5, by rw [ee]; exact rx, ⟨rfl, fun es' e' hd' he' => ?_⟩, st', fun b hb => (hf b hb).1⟩
    obtain rfl := raw_same hm (do_at I hd').2.2
    rw [he] at he'; cases he'; exact rx
  done := by
    intro X eP ew eK hc i pins s σ H E I hf st ⟨es, hd, hz, hi⟩
    subst eP ew eK hz
    obtain ⟨f0, f1, _, f3, f4, f5⟩ := hf it (List.mem_singleton.mpr rfl)
    exact wpAny_pyNext_keys_end_raw (I.ok.hd hc) st (do_at I hd).2.2 hi fun h' eb => ⟨rfl, I.turned (t' := s.toks) (fun b ob hb q => eb b ob hb q) f0 f1 f3 f4 f5⟩
  self := fun A i s Q E st h => wpAny_pyIter_keyiter st h
theorem turn_vx (it : Addr) : Turn P w K tg (ItX d ep n0 (·.val)) [it] it (fun i h => h.IsValIter it d i n0 ep) where
  mem := List.mem_singleton.mpr rfl
  obj := fun i h st b hb => by
    obtain rfl := List.mem_singleton.mp hb
    obtain ⟨oi, z, _, dd⟩ := st
    exact ⟨oi, z, fun v q => by rw [dd] at q; cases q⟩
  keep := fun i h h' st k => st.at fun oi z => k it (List.mem_singleton.mpr rfl) oi z
  item := by
    intro X eP ew eK hc i pins s σ H E I hf st ⟨es, e, x, hd, hz, he, rx⟩
    subst eP ew eK hz
    obtain ⟨f0, f1, _, f3, f4, f5⟩ := hf it (List.mem_singleton.mpr rfl)
    obtain ⟨_, _, hm⟩ := do_at I hd
    obtain ⟨hi, ee⟩ := Array.getElem?_eq_some_iff.mp he
    refine wpAny_pyNext_values_item_raw st hm hi fun h' st' sb => ⟨_, rfl, ?_⟩
    obtain ⟨oi, z, c, dd⟩ := id st'
    refine go_of (s := { s with heap := h' }) z c dd (by decide) ⟨x, H, I.turned (t' := s.toks) (fun b ob hb q => (sb.2 b hb).trans q) f0 f1 f3 f4 f5, by rw [ee]; exact rx, ⟨rfl, fun es' e' hd' he' => ?_⟩, st', fun b hb => (hf b hb).1⟩
    obtain rfl := raw_same hm (do_at I hd').2.2
    rw [he] at he'; cases he'; exact rx
  done := by
    intro X eP ew eK hc i pins s σ H E I hf st ⟨es, hd, hz, hi⟩
    subst eP ew eK hz
    obtain ⟨f0, f1, _, f3, f4, f5⟩ := hf it (List.mem_singleton.mpr rfl)
    exact wpAny_pyNext_values_end_raw (I.ok.hd hc) st (do_at I hd).2.2 hi fun h' eb => ⟨rfl, I.turned (t' := s.toks) (fun b ob hb q => eb b ob hb q) f0 f1 f3 f4 f5⟩
  self := fun A i s Q E st h => wpAny_pyIter_valiter st h
theorem turn_ix {elts : List Expr} {kk : Nat} {tpos : Pos} (it : Addr) : Turn P w K (.Tuple elts kk tpos) (ItXi d ep n0) [it] it (fun i h => ∃ ok ov, IsItemIter h it d i n0 ep ok ov) where
  mem := List.mem_singleton.mpr rfl
  obj := fun i h st b hb => by
    obtain rfl := List.mem_singleton.mp hb
    obtain ⟨ok, ov, z⟩ := st
    exact ⟨_, z, fun v q => nomatch q⟩
  keep := fun i h h' ⟨ok, ov, z⟩ k => ⟨ok, ov, k it (List.mem_singleton.mpr rfl) _ z⟩
  item := by
    intro X eP ew eK hc i pins s σ H E I hf ⟨ok, ov, st⟩ ⟨es, e, x, y, hd, hz, he, rx, ry⟩
    subst eP ew eK hz
    obtain ⟨_, _, hm⟩ := do_at I hd
    obtain ⟨hi, ee⟩ := Array.getElem?_eq_some_iff.mp he
    have hlt : it < s.heap.objs.size := Heap.lt_size st
    refine wpAny_pyNext_items_item_raw st hm hi fun h' ho hT hsz hk => ⟨_, rfl, wpAny_letOwnedTupleGo_items (s := { s with heap := h' }) ho fun h'' st' sb => ?_⟩
    have hT2 : h''.get? s.heap.objs.size = some { cls := .type "tuple", data := .seq #[es[i].key, es[i].val] } := (sb.2 _ (Nat.ne_of_gt hlt)).trans hT
    have new : ObjOk X.prog X.w (upd H s.heap.objs.size (.tup [x, y])) h'' s.heap.objs.size (.tup [x, y]) := ⟨by show 2 ≤ sizeLine; decide, [es[i].key, es[i].val], .cons (by rw [ee]; exact rx) (.cons (by rw [ee]; exact ry) .nil), ⟨_, hT2, rfl, _, rfl⟩⟩
    have I1 : L2.Inv X pins σ (upd H s.heap.objs.size (.tup [x, y])) { s with heap := h'' } := I.turnedNew (t' := s.toks) (ch := [it]) (fun b ob hb q => (sb.2 b (by simpa using hb)).trans (hk b ob (by simpa using hb) q)) hf (Nat.le_refl _) new
    refine ⟨.ref s.heap.objs.size, _, I1, rfl, ⟨_, x, y, rfl, I.hok.fresh (Nat.le_refl _), rfl, fun es' e' hd' he' => ?_⟩, ⟨_, _, st'⟩, fun b hb => ?_⟩
    · obtain rfl := raw_same hm (do_at I hd').2.2
      rw [he] at he'; cases he'; exact ⟨rx, ry⟩
    · obtain rfl := List.mem_singleton.mp hb
      rw [upd_ne (Nat.ne_of_lt hlt)]; exact (hf b hb).1
  done := by
    intro X eP ew eK hc i pins s σ H E I hf ⟨ok, ov, st⟩ ⟨es, hd, hz, hi⟩
    subst eP ew eK hz
    obtain ⟨f0, f1, _, f3, f4, f5⟩ := hf it (List.mem_singleton.mpr rfl)
    exact wpAny_pyNext_items_end_raw (I.ok.hd hc) st (do_at I hd).2.2 hi fun h' eb => ⟨rfl, I.turned (t' := s.toks) (fun b ob hb q => eb b ob hb q) f0 f1 f3 f4 f5⟩
  self := fun A i s Q E ⟨_, _, z⟩ h => PySem.W.kcp_self z h
end
def iKX (td : TE) : TI := fun σ H R => td σ H fun x H1 => ∃ d es ep, x = .ref d ∧ H1 d = some (DO d es ep) ∧ R (ItX d ep es.size (·.key)) H1
def iVX (td : TE) : TI := fun σ H R => td σ H fun x H1 => ∃ d es ep, x = .ref d ∧ H1 d = some (DO d es ep) ∧ R (ItX d ep es.size (·.val)) H1
def iIX (td : TE) : TI := fun σ H R => td σ H fun x H1 => ∃ d es ep, x = .ref d ∧ H1 d = some (DO d es ep) ∧ R (ItXi d ep es.size) H1
section
variable {X : Cx} {tg e : Expr} {td : TE} {apos cpos : Pos}
theorem pi_kx (he : PE X e td) : PI X tg e (iKX td) := by
  refine ⟨fun pins s σ H R I h => thn (he.run pins s σ H _ I h) ?_⟩
  rintro u s1 ⟨x, H1, I1, rx, d, es, ep, rfl, hd, q⟩
  obtain rfl : u = Value.ref d := rx
  obtain ⟨h1, h2, h3⟩ := do_at I1 hd
  exact wpAny_pyIter_dict_raw h1 h3 (pi_one (tk := s1.toks) I1 _ (turn_kx _) ⟨_, Heap.get?_push_size _ rfl, rfl, rfl⟩ q)
theorem raw_noDict {s : Shared} {d : Addr} {es : Array DictEntry} {ep : Nat} (h : s.heap.DictRaw d es ep) : ∀ b, Value.ref d = .ref b → ∃ ob, s.heap.get? b = some ob ∧ ob.dict = none := fun b q => by
  cases q
  obtain ⟨o, h1, h2, _⟩ := h
  exact ⟨o, h1, h2.2.1⟩
theorem pi_vx (he : PE X e td) (hbase : attributeBase e "values" X.env (eval e X.env) = eval e X.env := by rfl) (hline : (apos.endLine == cpos.line) = true := by rfl) : PI X tg (.Call (.Attribute e "values" apos) [] [] cpos) (iVX td) := by
  refine ⟨fun pins s σ H R I h => wpAny_Call_method (T := "dict") (id := "dict.values") hbase rfl hline PySem.F.plainAttrs_dict PySem.F.slot_dict_values PySem.F.type_dict_values (thn (he.run pins s σ H _ I h) ?_)⟩
  rintro u s1 ⟨x, H1, I1, rx, d, es, ep, rfl, hd, q⟩
  obtain rfl : u = Value.ref d := rx
  obtain ⟨h1, h2, h3⟩ := do_at I1 hd
  refine ⟨h3.typeIs, raw_noDict h3, ?_⟩
  have I2 : L2.Inv X pins σ H1 { s1 with heap := s1.heap.push { cls := .type "dict_values", data := .fields #[.ref d] } } := I1.kept (t' := s1.toks) fun b ob z => Heap.get?_push_of_some _ z
  have fin : wpAny (model X.prog X.w) X.A (pyIter (.ref s1.heap.objs.size)) (PIE X pins σ tg R) X.xe { s1 with heap := s1.heap.push { cls := .type "dict_values", data := .fields #[.ref d] } } :=
    wpAny_pyIter_values_raw (d := d) ⟨_, Heap.get?_push_size _ rfl, rfl, rfl⟩ (h3.at fun o z => Heap.get?_push_of_some _ z) (pi_one (tk := s1.toks) I2 _ (turn_vx _) ⟨_, Heap.get?_push_size _ rfl, rfl, rfl⟩ q)
  show wpAny _ _ (callWith cpos (.builtin "dict.values") [.ref d] [] []) _ X.xe s1
  exact method_meetsIn PySem.F.slot_dict_values PySem.F.entry_dict_values rfl (PySem.evalArgs_none ⟨rfl, h3.typeIs, PySem.F.args_dict_values_1 _, _, meets_dict_values_raw d h1, ⟨es, ep, h3⟩, fin⟩)
theorem pi_ix {elts : List Expr} {kk : Nat} {tpos : Pos} (he : PE X e td) (hbase : attributeBase e "items" X.env (eval e X.env) = eval e X.env := by rfl) (hline : (apos.endLine == cpos.line) = true := by rfl) :
    PI X (.Tuple elts kk tpos) (.Call (.Attribute e "items" apos) [] [] cpos) (iIX td) := by
  refine ⟨fun pins s σ H R I h => wpAny_Call_method (T := "dict") (id := "dict.items") hbase rfl hline PySem.F.plainAttrs_dict PySem.F.slot_dict_items PySem.F.type_dict_items (thn (he.run pins s σ H _ I h) ?_)⟩
  rintro u s1 ⟨x, H1, I1, rx, d, es, ep, rfl, hd, q⟩
  obtain rfl : u = Value.ref d := rx
  obtain ⟨h1, h2, h3⟩ := do_at I1 hd
  refine ⟨h3.typeIs, raw_noDict h3, ?_⟩
  have I2 : L2.Inv X pins σ H1 { s1 with heap := s1.heap.push { cls := .type "dict_items", data := .fields #[.ref d] } } := I1.kept (t' := s1.toks) fun b ob z => Heap.get?_push_of_some _ z
  have fin : wpAny (model X.prog X.w) X.A (pyIter (.ref s1.heap.objs.size)) (PIE X pins σ (.Tuple elts kk tpos) R) X.xe { s1 with heap := s1.heap.push { cls := .type "dict_items", data := .fields #[.ref d] } } :=
    wpAny_pyIter_items_raw (d := d) ⟨_, Heap.get?_push_size _ rfl, rfl, rfl⟩ (h3.at fun o z => Heap.get?_push_of_some _ z) (pi_one (tk := s1.toks) I2 _ (turn_ix _) ⟨.none, .none, Heap.get?_push_size _ rfl⟩ q)
  show wpAny _ _ (callWith cpos (.builtin "dict.items") [.ref d] [] []) _ X.xe s1
  exact method_meetsIn PySem.F.slot_dict_items PySem.F.entry_dict_items rfl (PySem.evalArgs_none ⟨rfl, h3.typeIs, PySem.F.args_dict_items_1 _, _, meets_dict_items_raw d h1, ⟨es, ep, h3⟩, fin⟩)
end

/-! ### in the layer -/
theorem ents_get {w : World} : ∀ {es : List DictEntry} {ks : List Val} {xs ys : List V} {i : Nat} {e : DictEntry}, Ents w es ks xs ys → es[i]? = some e → ∃ k x y, ks[i]? = some k ∧ xs[i]? = some x ∧ ys[i]? = some y ∧ RelV x e.key ∧ RelV y e.val
  | e :: es, k :: ks, x :: xs, y :: ys, 0, e', ⟨⟨_, h2, h3⟩, h4⟩, q => by
    simp at q; subst q
    exact ⟨k, x, y, rfl, rfl, rfl, h2, h3⟩
  | e :: es, k :: ks, x :: xs, y :: ys, i + 1, e', ⟨_, h4⟩, q => by
    obtain ⟨k', x', y', a, b, c, d⟩ := ents_get (i := i) h4 (by simpa using q)
    exact ⟨k', x', y', by simpa using a, by simpa using b, by simpa using c, d⟩
  | [], [], [], [], _, _, _, q => by simp at q
  | [], [], [], _ :: _, _, _, h, _ => False.elim h
  | [], [], _ :: _, _, _, _, h, _ => False.elim h
  | [], _ :: _, _, _, _, _, h, _ => False.elim h
  | _ :: _, [], _, _, _, _, h, _ => False.elim h
  | _ :: _, _ :: _, [], _, _, _, h, _ => False.elim h
  | _ :: _, _ :: _, _ :: _, [], _, _, h, _ => False.elim h
def prs (ks vs : List Val) : List Val := List.zipWith (fun k v => Val.tup [k, v]) ks vs
/-- which list a walk of a dict walks -/
def dsel : Nat → List Val → List Val → List Val
  | 0, ks, _ => ks
  | 1, _, vs => vs
  | _, ks, vs => prs ks vs
def ItM (d : Addr) (ep n0 : Nat) : Nat → It
  | 0 => ItX d ep n0 (·.key)
  | 1 => ItX d ep n0 (·.val)
  | _ => ItXi d ep n0
section
variable {T : Tb} {K : PySem.W.Frag} {io : Nat → Addr} {F H : Hp} {h : Hh} {d : Addr} {ep : Nat} {ks vs : List Val} {xs ys : List V} {es : Array DictEntry}
theorem at_list {i : Nat} {e : DictEntry} (q : es.toList[i]? = some e) : es[i]? = some e := by simpa using q
theorem yld_m (sr : SR T K io h F H) (hd : H d = some (DO d es ep)) (he : Ents T.w es.toList ks xs ys) (r1 : VRs T K io h.length F ks xs) (r2 : VRs T K io h.length F vs ys) (m i : Nat) : YldOk T K (ItM d ep es.size m) i (dsel m ks vs)[i]? io h F H := by
  have hl := Ents.len he
  have l2 := r2.length
  have ll : es.toList.length = es.size := by simp
  by_cases hi : i < es.size
  · have ee : es.toList[i]? = some es[i] := by simp [hi]
    obtain ⟨k, x, y, ek, ex, ey, rx, ry⟩ := ents_get he ee
    have e2 : es[i]? = some es[i] := by simp [hi]
    obtain ⟨v, ev⟩ : ∃ v, vs[i]? = some v := ⟨vs[i]'(by omega), List.getElem?_eq_getElem _⟩
    have vk : VR T K io h.length F k x := by
      obtain ⟨x', e', q'⟩ := r1.get ek
      rw [ex] at e'; cases e'; exact q'
    have vv : VR T K io h.length F v y := by
      obtain ⟨y', e', q'⟩ := r2.get ev
      rw [ey] at e'; cases e'; exact q'
    match m with
    | 0 =>
      show YldOk T K (ItX d ep es.size (·.key)) i ks[i]? io h F H
      rw [ek]
      refine ⟨⟨es, es[i], x, hd, rfl, e2, rx⟩, fun x' H' ⟨e', z⟩ => ?_⟩
      subst e'
      have := (z es _ hd e2).inj rx
      subst this
      exact ⟨F, .refl, sr, vk⟩
    | 1 =>
      show YldOk T K (ItX d ep es.size (·.val)) i vs[i]? io h F H
      rw [ev]
      refine ⟨⟨es, es[i], y, hd, rfl, e2, ry⟩, fun x' H' ⟨e', z⟩ => ?_⟩
      subst e'
      have := (z es _ hd e2).inj ry
      subst this
      exact ⟨F, .refl, sr, vv⟩
    | m + 2 =>
      show YldOk T K (ItXi d ep es.size) i (prs ks vs)[i]? io h F H
      have ep2 : (prs ks vs)[i]? = some (.tup [k, v]) := by unfold prs; rw [List.getElem?_zipWith, ek, ev]
      rw [ep2]
      refine ⟨⟨es, es[i], x, y, hd, rfl, e2, rx, ry⟩, fun z' H' ⟨p, x', y', e1, hp, e', z⟩ => ?_⟩
      subst e1 e'
      obtain ⟨z1, z2⟩ := z es _ hd e2
      have q1 := z1.inj rx
      have q2 := z2.inj ry
      subst q1 q2
      exact ⟨_, sr.allocStep hp _, sr.alloc hp _, .tup (.inl (.inl upd_same)) ((VRs.cons vk (.cons vv .nil)).step (sr.allocStep hp (.tup [x', y'])))⟩
  · have hn : (dsel m ks vs)[i]? = none := by
      match m with
      | 0 => exact List.getElem?_eq_none (by show ks.length ≤ i; omega)
      | 1 => exact List.getElem?_eq_none (by show vs.length ≤ i; omega)
      | m + 2 => exact List.getElem?_eq_none (by show (prs ks vs).length ≤ i; unfold prs; rw [List.length_zipWith]; omega)
    rw [hn]
    match m with
    | 0 => exact ⟨es, hd, rfl, by omega⟩
    | 1 => exact ⟨es, hd, rfl, by omega⟩
    | m + 2 => exact ⟨es, hd, rfl, by omega⟩
end
/-- a mutable dict, as it is now, while it has n0 keys -/
def curD (k n0 m : Nat) : Hh → Option (List Val) := fun h => match h[k]? with
  | some (.dct ks vs) => if ks.length = n0 then some (dsel m ks vs) else none
  | _ => none
def srcD (m : Nat) (h : Hh) : Val → Option Src
  | .dct ks vs => some (.items (dsel m ks vs))
  | .ref k => (match h[k]? with
    | some (.dct ks _) => some (.ref (curD k ks.length m))
    | _ => none)
  | _ => none
theorem srcD_ok {T : Tb} {K : PySem.W.Frag} {io : Nat → Addr} {F H : Hp} {h : Hh} {v : Val} {x : V} {m : Nat} {s : Src} (sr : SR T K io h F H) (r : VR T K io h.length F v x) (e : srcD m h v = some s) :
    ∃ d es ep, x = .ref d ∧ H d = some (DO d es ep) ∧ SrcOk T K io h.length F (ItM d ep es.size m) s := by
  unfold srcD at e
  cases r with
  | @dct ks vs a es ep xs ys q hk he r1 r2 =>
    cases e
    refine ⟨a, es, ep, rfl, sr.sub _ _ q, fun i io2 h2 F2 H2 sr2 hn he2 hF hi => ?_⟩
    exact yld_m sr2 (sr2.sub _ _ (hF _ _ q)) he (r1.mono hn he2 hF) (r2.mono hn he2 hF) m i
  | ref k hk =>
    dsimp only at e
    cases ek : h[k]? with
    | none => rw [ek] at e; cases e
    | some ob =>
      rw [ek] at e
      cases ob with
      | dct ks vs =>
        cases e
        obtain ⟨es, ep, xs, ys, ea, hkk, he, r1, r2⟩ := sr.obj k _ ek
        refine ⟨io k, es, ep, rfl, ea, fun i io2 h2 F2 H2 zs sr2 hn he2 hF ec => ?_⟩
        unfold curD at ec
        split at ec
        · rename_i ks2 vs2 ek2
          split at ec
          · rename_i hlen
            cases ec
            obtain ⟨es2, ep2, xs2, ys2, ea2, hkk2, hee2, r12, r22⟩ := sr2.obj k _ ek2
            have l1 := Ents.len he
            have l2 := Ents.len hee2
            simp at l1 l2
            have z1 : es2.size = es.size := by omega
            have z2 : ep2 = ep := by rw [hkk2.1, hkk.1, z1]
            rw [he2 k hk, z2] at ea2
            have := yld_m sr2 ea2 hee2 r12 r22 m i
            rw [z1] at this
            exact this
          · cases ec
        · cases ec
      | _ => cases e
  | _ => cases e
def xID (m : Nat) (e : Ex) : Ix := fun sg h => match e sg h with
  | .ok v h1 => (match srcD m h1 v with
    | some s => .ok s h1
    | none => .bad)
  | .exc c fs h1 => .exc c fs h1
  | .bad => .bad
section
variable {T : Tb} {X : Cx} {W : WX} {tg iter : Expr} {fe : Ex} {apos cpos : Pos}
theorem tI_d {m : Nat} {td : TI} (hd : ∀ σ H R, (tE T X.K W fe σ H fun x H1 => ∃ d es ep, x = .ref d ∧ H1 d = some (DO d es ep) ∧ R (ItM d ep es.size m) H1) → td σ H R) : ∀ σ H R, tI T X.K W (xID m fe) σ H R → td σ H R := by
  rintro σ H R ⟨io, h, F, sg, sr, rs, w⟩
  refine hd σ H R ⟨io, h, F, sg, sr, rs, ?_⟩
  unfold xID at w
  cases e : fe sg h with
  | bad => rw [e] at w; exact w
  | exc c fs h1 => rw [e] at w; exact w
  | ok v h1 =>
    rw [e] at w
    intro io1 F1 H1 x st1 sr1 vr
    dsimp only at w
    cases es : srcD m h1 v with
    | none => rw [es] at w; exact w.elim
    | some s =>
      rw [es] at w
      obtain ⟨d, es, ep, ex, hd, so⟩ := srcD_ok sr1 vr es
      exact ⟨d, es, ep, ex, hd, w io1 F1 H1 _ st1 sr1 so⟩
theorem ji_dkeys (he : JE T X W iter fe) : JI T X W tg iter (xID 0 fe) := pi_imp (pi_kx he) (tI_d fun _ _ _ q => q)
theorem ji_dvals (he : JE T X W iter fe) (hbase : attributeBase iter "values" X.env (eval iter X.env) = eval iter X.env := by rfl) (hline : (apos.endLine == cpos.line) = true := by rfl) : JI T X W tg (.Call (.Attribute iter "values" apos) [] [] cpos) (xID 1 fe) := pi_imp (pi_vx he hbase hline) (tI_d fun _ _ _ q => q)
theorem ji_ditems {elts : List Expr} {kk : Nat} {tpos : Pos} (he : JE T X W iter fe) (hbase : attributeBase iter "items" X.env (eval iter X.env) = eval iter X.env := by rfl) (hline : (apos.endLine == cpos.line) = true := by rfl) : JI T X W (.Tuple elts kk tpos) (.Call (.Attribute iter "items" apos) [] [] cpos) (xID 2 fe) := pi_imp (pi_ix he hbase hline) (tI_d fun _ _ _ q => q)
/-- any sequence, or a dict's keys -/
def xISX (e : Ex) : Ix := fun sg h => match e sg h with
  | .ok v h1 => (match srcD 0 h1 v with
    | some s => .ok s h1
    | none => xISq e sg h)
  | _ => xISq e sg h
theorem ji_any (he : JE T X W iter fe) : JI T X W tg iter (xISX fe) := by
  refine pi_imp (pi_or (ji_seq (tg := tg) he) (ji_dkeys (tg := tg) he)) fun σ H R ⟨io, h, F, sg, sr, rs, w⟩ => ?_
  unfold xISX at w
  cases e : fe sg h with
  | bad => rw [e] at w; exact .inl ⟨io, h, F, sg, sr, rs, w⟩
  | exc c fs h1 => rw [e] at w; exact .inl ⟨io, h, F, sg, sr, rs, w⟩
  | ok v h1 =>
    rw [e] at w
    dsimp only at w
    cases es : srcD 0 h1 v with
    | none => rw [es] at w; exact .inl ⟨io, h, F, sg, sr, rs, w⟩
    | some s =>
      rw [es] at w
      refine .inr ⟨io, h, F, sg, sr, rs, ?_⟩
      unfold xID
      rw [e]
      dsimp only
      rw [es]
      exact w
end
end Py

namespace Py
open PySem PySem.Spec PyProof.Rows L2

/-! ### d.get(k, x) -/
section
variable {T : Tb} {X : Cx} {W : WX} {o e f : Expr} {fo fe ff : Ex} {apos cpos pos : Pos}
def tDGet2X (K : PySem.W.Frag) (w : World) (td ty tx : TE) : TE := fun σ H Q => td σ H fun x H1 => ∃ a es ep, x = .ref a ∧ H1 a = some (DO a es ep) ∧ ty σ H1 fun y H2 => tx σ H2 fun z H3 => ∃ o, DHas K w H3 y a o ∧ Q (o.getD z) H3
theorem pe_dget2X {td ty tx : TE} (hu : X.A.units + 64 < cLine) (ho : PE X o td) (he : PE X e ty) (hf : PE X f tx) (m : M2 X o "get" apos e f cpos) : PE X (.Call (.Attribute o "get" apos) [e, f] [] cpos) (tDGet2X X.K X.w td ty tx) := by
  refine ⟨fun pins s σ H Q I h => wpAny_Call_method m.base m.few m.line PySem.F.plainAttrs_dict PySem.F.slot_dict_get PySem.F.type_dict_get (thn (ho.run pins s σ H _ I h) ?_)⟩
  rintro u s1 ⟨x, H1, I1, rx, a, es, ep, rfl, hd, q1⟩
  obtain rfl : u = Value.ref a := rx
  obtain ⟨_, _, hr⟩ := do_at I1 hd
  refine ⟨hr.typeIs, raw_noDict hr, ?_⟩
  rw [m.trees]
  refine Calls.callWith_builtin rfl (Calls.evalArgs_plain (Calls.spliced_cons (thn (he.run pins s1 σ H1 _ I1 q1) ?_)))
  rintro iv s2 ⟨y, H2, I2, ry, q2⟩
  refine Calls.spliced_cons (thn (hf.run pins s2 σ H2 _ I2 q2) ?_)
  rintro fv s3 ⟨z, H3, I3, rz, ov, ⟨T, io, n, F, ks, xs, ys, es, ep, q, hw, hF, g, rq, fit, rfl⟩, q3⟩
  exact Calls.spliced_nil (x_get2 hu I3 hw hF g rq ry fit rz fun w' s4 I4 rw' => ⟨_, H3, I4, rw', q3⟩)
def xDGet (o e f : Ex) : Ex := fun sg h => (o sg h).bind fun ov h1 => if (dctOf h1 ov).isSome = true then (e sg h1).bind fun q h2 => (f sg h2).bind fun z h3 => (match dctOf h3 ov with
  | some (ks, vs) => if fitK ks q = true then .ok ((dAt ks vs q).getD z) h3 else .bad
  | none => .bad) else .bad
theorem je_dget2 (hw : T.w = X.w) (hu : X.A.units + 64 < cLine) (ho : JE T X W o fo) (he : JE T X W e fe) (hf : JE T X W f ff) (m : M2 X o "get" apos e f cpos := by exact ⟨rfl, rfl, rfl, rfl⟩) : JE T X W (.Call (.Attribute o "get" apos) [e, f] [] cpos) (xDGet fo fe ff) := by
  refine pe_imp (pe_dget2X hu ho he hf m) fun σ H Q ⟨io, h, F, sg, sr, rs, w⟩ => ⟨io, h, F, sg, sr, rs, Wants.bind w fun ov h1 io1 F1 H1 x st sr1 vr w1 => ?_⟩
  cases hd : dctOf h1 ov with
  | none => rw [hd] at w1; simp at w1; exact w1.elim
  | some p =>
    obtain ⟨ks0, vs0⟩ := p
    rw [hd] at w1
    simp only [Option.isSome_some, if_true] at w1
    obtain ⟨a, xs0, ys0, es0, ep0, rfl, g0, _⟩ := dctOf_ok sr1 vr hd
    refine ⟨a, es0, ep0, rfl, g0.at_, io1, h1, F1, sg, sr1, rs.step st, Wants.bind w1 fun q h2 io2 F2 H2 y st2 sr2 vq w2 => ⟨io2, h2, F2, sg, sr2, (rs.step st).step st2, Wants.bind w2 fun z h3 io3 F3 H3 zx st3 sr3 vz w3 => ?_⟩⟩
    cases hd3 : dctOf h3 ov with
    | none => rw [hd3] at w3; exact w3.elim
    | some p =>
      obtain ⟨ks, vs⟩ := p
      rw [hd3] at w3
      dsimp only at w3
      split at w3
      · rename_i fit
        obtain ⟨a', xs, ys, es, ep, e', g, r2⟩ := dctOf_ok sr3 ((vr.step st2).step st3) hd3
        cases e'
        refine ⟨_, ⟨T, io3, h3.length, F3, ks, xs, ys, es, ep, q, hw, sr3.sub, g, vq.step st3, fit, rfl⟩, ?_⟩
        cases ed : dAt ks vs q with
        | none =>
          rw [ed] at w3
          rw [(dAt_rel (q := q) (ks := ks) r2).2 ed]
          exact w3 io3 F3 H3 _ .refl sr3 vz
        | some v =>
          rw [ed] at w3
          obtain ⟨yy, ey, ry⟩ := (dAt_rel (q := q) (ks := ks) r2).1 v ed
          rw [ey]
          exact w3 io3 F3 H3 _ .refl sr3 ry
      · exact w3.elim
end
/-! ### len(d) -/
theorem call_lenD {X : Cx} : CallR X (.builtin "len") (fun xs H Q => ∃ a es ep, xs = [.ref a] ∧ H a = some (DO a es ep) ∧ Q (.int es.size) H) := by
  intro pins s σ H xs us Q I r h
  obtain ⟨a, es, ep, rfl, hd, q⟩ := h
  match us, r with
  | [u], .cons r1 .nil =>
    cases (show u = Value.ref a from r1)
    obtain ⟨h1, h2, h3⟩ := do_at I hd
    rw [sizeLine_eq] at h2
    exact PyProof.Rows.call_len_slot (n := es.size) h3.typeIs PySem.F.slot_dict_len (fun Q' hq => call_len_raw h1 h3 hq) (by omega) (by omega) ⟨.int es.size, H, I.tok _, ⟨_, rfl⟩, q⟩
def gLenX : GC := fun h vs => match vs with
  | [v] => (match dctOf h v with
    | some (ks, _) => some (.int ks.length, h)
    | none => gLen h [v])
  | _ => none
theorem lift_lenX {T : Tb} {K : PySem.W.Frag} : LiftC T K (fun xs H Q => (fun xs H Q => ∃ x n, xs = [x] ∧ LenV K x H n ∧ Q (.int n) H) xs H Q ∨ (∃ a es ep, xs = [.ref a] ∧ H a = some (DO a es ep) ∧ Q (.int es.size) H)) gLenX := by
  intro io h F H vs xs z h' Q sr r e q
  unfold gLenX at e
  match vs, r, e with
  | [v], .cons r1 .nil, e =>
    dsimp only at e
    cases ed : dctOf h v with
    | none => rw [ed] at e; exact .inl (lift_len io h F H [v] _ z h' Q sr (.cons r1 .nil) e q)
    | some p =>
      obtain ⟨ks, vs⟩ := p
      rw [ed] at e
      cases e
      obtain ⟨a, xs, ys, es, ep, rfl, g, r2⟩ := dctOf_ok sr r1 ed
      have hl := Ents.len g.en
      refine .inr ⟨a, es, ep, rfl, g.at_, ?_⟩
      have z : ks.length = es.size := by simpa using hl.1
      rw [← z]
      exact q io F H _ .refl sr (.int _)
theorem call_lenX {X : Cx} : CallR X (.builtin "len") (fun xs H Q => (fun xs H Q => ∃ x n, xs = [x] ∧ LenV X.K x H n ∧ Q (.int n) H) xs H Q ∨ (∃ a es ep, xs = [.ref a] ∧ H a = some (DO a es ep) ∧ Q (.int es.size) H)) := CallR.or call_len call_lenD

/-! ### {k: v, ..} -/
def putA : List Val → List Val → List (Val × Val) → List Val × List Val
  | ks, vs, [] => (ks, vs)
  | ks, vs, (k, v) :: r => putA (putKs ks ks k k) (putVs ks vs k v) r
def fitA : List Val → List (Val × Val) → Bool
  | _, [] => true
  | ks, (k, _) :: r => fitK ks k && fitA (putKs ks ks k k) r
inductive PR (T : Tb) (K : PySem.W.Frag) (io : Nat → Addr) (n : Nat) (F : Hp) : List (Val × Val) → List (V × V) → Prop where
  | nil : PR T K io n F [] []
  | cons {k v : Val} {x y : V} {qs : List (Val × Val)} {ps : List (V × V)} (a : VR T K io n F k x) (b : VR T K io n F v y) (r : PR T K io n F qs ps) : PR T K io n F ((k, v) :: qs) ((x, y) :: ps)
section
variable {T : Tb} {X : Cx} {W : WX} {pins : List (Addr × PySem.Obj)} {σ : L2.St} {io : Nat → Addr} {n : Nat} {F : Hp} {d : Addr} {A : Around} {E : Value → Shared → Prop}
theorem disp_loop (hu : A.units + 60 < cLine) (hw : T.w = X.w) (fd : F d = none) : ∀ (vs : List (Value × Value)) (ps : List (V × V)) (qs : List (Val × Val)) (ks us : List Val) (xs ys : List V) (es : Array DictEntry) (ep : Nat) (s : Shared) (H : Hp) (Q : PUnit → Shared → Prop),
    L2.Inv X pins σ H s → (∀ b u, F b = some u → H b = some u) → DGx T X.K io n F H d ks xs ys es ep → VRs T X.K io n F us ys → VV ps vs → PR T X.K io n F qs ps → fitA ks qs = true → es.size + qs.length < sizeLine →
    (∀ es' ep' xs' ys' s', DGx T X.K io n F (upd H d (DO d es' ep')) d (putA ks us qs).1 xs' ys' es' ep' → VRs T X.K io n F (putA ks us qs).2 ys' → L2.Inv X pins σ (upd H d (DO d es' ep')) s' → Q PUnit.unit s') →
    wpAny (model X.prog X.w) A (forIn vs PUnit.unit fun (x : Value × Value) (_ : PUnit) => (do dictSet d x.1 x.2; pure (ForInStep.yield PUnit.unit) : Sem (ForInStep PUnit))) Q E s
  | [], ps, qs, ks, us, xs, ys, es, ep, s, H, Q, I, hF, g, ru, vv, pr, fit, hz, k => by
    cases vv
    cases pr
    rw [List.forIn_nil]
    have e : upd H d (DO d es ep) = H := by
      funext b
      by_cases hb : b = d
      · subst hb; rw [upd_same, g.at_]
      · rw [upd_ne hb]
    refine wpAny_pure (k es ep xs ys s ?_ ru ?_)
    · rw [e]; exact g
    · rw [e]; exact I
  | (kv, vv) :: vs, ps, qs, ks, us, xs, ys, es, ep, s, H, Q, I, hF, g, ru, rel, pr, fit, hz, kk => by
    cases rel with
    | cons h t =>
      cases pr with
      | @cons k v x y qs ps a b r =>
        rw [fitA, Bool.and_eq_true] at fit
        rw [List.length_cons] at hz
        rw [List.forIn_cons]
        refine wpAny_bind (wpAny_bind (x_dset hu I hw hF g a h.1 fit.1 h.2 (by omega) fun s' p => wpAny_pure ?_))
        obtain ⟨es1, ep1, e1, _, I1⟩ := p.ex
        have hl1 := Ents.len e1
        have hl0 := Ents.len g.en
        have hk1 : (putKs ks ks k k).length ≤ ks.length + 1 := by unfold putKs; split <;> simp
        simp at hl1 hl0
        refine disp_loop hu hw fd vs _ _ (putKs ks ks k k) (putVs ks us k v) _ _ es1 ep1 s' _ Q I1 (fun b' u' z => ?_) ⟨upd_same, g.ok.put fit.1, e1, putKs_rel g.rk a⟩ (putVs_rel ru b) t r fit.2 (by omega) fun es' ep' xs' ys' s2 g2 ru2 I2 => ?_
        · rw [upd_ne (fun q => by rw [q, fd] at z; cases z)]; exact hF _ _ z
        · rw [upd_upd] at g2 I2
          exact kk es' ep' xs' ys' s2 g2 ru2 I2
def tDispX (K : PySem.W.Frag) (w : World) (trs : List (TE × TE)) : TE := fun σ H Q => ∀ p, H p = none → tPairs trs σ (upd H p (DO p #[] 0)) fun ps H2 => ∃ (T : Tb) (io : Nat → Addr) (n : Nat) (F : Hp) (qs : List (Val × Val)), T.w = w ∧ (∀ b u, F b = some u → H2 b = some u) ∧ F p = none ∧ H2 p = some (DO p #[] 0) ∧ PR T K io n F qs ps ∧ fitA [] qs = true ∧ qs.length ≤ 15 ∧
  ∀ es' ep' xs' ys', DGx T K io n F (upd H2 p (DO p es' ep')) p (putA [] [] qs).1 xs' ys' es' ep' → VRs T K io n F (putA [] [] qs).2 ys' → Q (.ref p) (upd H2 p (DO p es' ep'))
theorem pe_dispX {pos : Pos} {keys : List (Option Expr)} {values : List Expr} {trs : List (TE × TE)} (hu : X.A.units + 64 < cLine) (h : PPs X pos keys values trs) (hall : keys.all (·.isSome) = true) (hl : keys.length = values.length) (h0 : keys ≠ []) (h15 : keys.length ≤ 15) : PE X (.Dict keys values pos) (tDispX X.K X.w trs) := by
  refine ⟨fun pins s σ H Q I q => ?_⟩
  have hn := I.hok.fresh (Nat.le_refl s.heap.objs.size)
  have I1 := I.laid (a := s.heap.objs.size) (o := DO s.heap.objs.size #[] 0) (h' := s.heap.push { cls := .type "dict", data := .dict #[] }) (t' := s.toks) (fun _ _ q => Heap.get?_push_of_some _ q) (Nat.le_refl _)
    (do_ok (beq_eq_false_iff_ne.mpr (Ne.symm (Nat.ne_of_lt I.big))) (Nat.zero_le _) ⟨_, Heap.get?_push_size _ rfl, ⟨rfl, rfl, rfl⟩, rfl⟩)
  have hp : (pairTrees keys values X.env pos).length = keys.length := pairTrees_length keys values X.env pos hall hl
  have hne : pairTrees keys values X.env pos ≠ [] := fun z => by
    rw [z] at hp
    exact h0 (List.length_eq_zero_iff.mp hp.symm)
  rw [arm_eval_Dict, zip_pairTrees keys values X.env pos hall hl, dictDisplay_pairs _ hne (by omega)]
  refine wpAny_bind (wpAny_standAt (wpAny_bind ?_))
  unfold subDict
  refine wpAny_bind (wpAny_alloc (wpAny_bind (wpAny_holding ?_)))
  rw [if_pos (by rw [hp]; exact h15)]
  refine wpAny_bind (thn (h.run pins _ σ _ _ I1 (q _ hn)) ?_)
  rintro ws s2 ⟨ps, H2, I2, rel, T, io, n, F, qs, hw, hF, fd, hd, pr, fit, hq, k⟩
  refine wpAny_holding (wpAny_bind (disp_loop (io := io) (n := n) (by omega) hw fd ws ps qs [] [] [] [] #[] 0 s2 H2 _ I2 hF ⟨hd, keys0, True.intro, .nil⟩ .nil rel pr fit (by rw [sizeLine_eq]; simp; omega) fun es' ep' xs' ys' s3 g ru I3 => ?_))
  exact wpAny_pure (wpAny_pure (wpAny_pure ⟨.ref s.heap.objs.size, _, I3, rfl, k es' ep' xs' ys' g ru⟩))
/-- the pairs of a display, one behind another -/
def flat2 {α : Type} : List (α × α) → List α
  | [] => []
  | (a, b) :: r => a :: b :: flat2 r
def unflat : List Val → Option (List (Val × Val))
  | [] => some []
  | a :: b :: r => (unflat r).map fun l => (a, b) :: l
  | _ => none
def JP (T : Tb) (X : Cx) (W : WX) (pos : Pos) (keys : List (Option Expr)) (values : List Expr) (f : Lx) : Prop := ∃ trs, PPs X pos keys values trs ∧ ∀ σ H Q, tL T X.K W f σ H (fun fl H' => ∃ ps, fl = flat2 ps ∧ Q ps H') → tPairs trs σ H Q
theorem jp_nil {pos : Pos} : JP T X W pos [] [] xNil := ⟨[], pps_nil, fun σ H Q ⟨io, h, F, sg, sr, rs, w⟩ => by
  obtain ⟨ps, e, q⟩ := w io F H [] .refl sr .nil
  cases ps with
  | nil => exact q
  | cons p r => cases e⟩
theorem jp_cons {pos : Pos} {k v : Expr} {ks : List (Option Expr)} {vs : List Expr} {fk fv : Ex} {fr : Lx} (hk : JE T X W k fk) (hv : JE T X W v fv) (hr : JP T X W pos ks vs fr) : JP T X W pos (some k :: ks) (v :: vs) (xCons fk (xCons fv fr)) := by
  obtain ⟨trs, p, t⟩ := hr
  refine ⟨_, pps_cons hk hv p, fun σ H Q ⟨io, h, F, sg, sr, rs, w⟩ => ⟨io, h, F, sg, sr, rs, WantsL.ofBind w fun a h1 io1 F1 H1 x st sr1 vr w1 => ?_⟩⟩
  have w1' : WantsL T X.K io1 h1.length F1 H1 _ _ (((xCons fv fr) sg h1).bindL fun vs h2 => .ok (a :: vs) h2) := w1
  unfold xCons at w1'
  have e : ((fv sg h1).bindL fun v h1 => (fr sg h1).bindL fun vs h2 => ResL.ok (v :: vs) h2).bindL (fun vs h2 => .ok (a :: vs) h2) = (fv sg h1).bindL fun v h2 => (fr sg h2).bindL fun vs h3 => .ok (a :: v :: vs) h3 := by
    cases fv sg h1 with
    | bad => rfl
    | exc c fs hh => rfl
    | ok v h2 =>
      show ((fr sg h2).bindL _).bindL _ = (fr sg h2).bindL _
      cases fr sg h2 <;> rfl
  rw [e] at w1'
  refine ⟨io1, h1, F1, sg, sr1, rs.step st, WantsL.ofBind w1' fun b h2 io2 F2 H2 y st2 sr2 vb w2 => t σ H2 _ ⟨io2, h2, F2, sg, sr2, (rs.step st).step st2, WantsL.bindL w2 fun cs h3 io3 F3 H3 zs st3 sr3 vcs w3 => ?_⟩⟩
  obtain ⟨ps, ep, q⟩ := w3 io3 F3 H3 _ .refl sr3 (.cons ((vr.step st2).step st3) (.cons (vb.step st3) vcs))
  cases ps with
  | nil => cases ep
  | cons p r =>
    obtain ⟨p1, p2⟩ := p
    cases ep
    exact ⟨r, rfl, q⟩
theorem pr_of {K : PySem.W.Frag} : ∀ {fl : List Val} {qs : List (Val × Val)} {zs : List V}, unflat fl = some qs → VRs T K io n F fl zs → ∃ ps, zs = flat2 ps ∧ PR T K io n F qs ps
  | [], qs, zs, e, r => by
    cases e
    cases r
    exact ⟨[], rfl, .nil⟩
  | [a], qs, zs, e, r => by cases e
  | a :: b :: fl, qs, zs, e, r => by
    unfold unflat at e
    obtain ⟨l, el, rfl⟩ := map_some e
    cases r with
    | cons r1 r =>
      cases r with
      | cons r2 r =>
        obtain ⟨ps, rfl, p⟩ := pr_of el r
        exact ⟨(_, _) :: ps, rfl, .cons r1 r2 p⟩
def xDisp (l : Lx) : Ex := fun sg h => (l sg h).bind fun fl h1 => match unflat fl with
  | some qs => if (fitA [] qs && decide (qs.length ≤ 15)) = true then .ok (.dct (putA [] [] qs).1 (putA [] [] qs).2) h1 else .bad
  | none => .bad
theorem je_disp {pos : Pos} {keys : List (Option Expr)} {values : List Expr} {f : Lx} (hw : T.w = X.w) (hu : X.A.units + 64 < cLine) (hp : JP T X W pos keys values f) (hall : keys.all (·.isSome) = true := by rfl) (hl : keys.length = values.length := by rfl) (h0 : keys ≠ [] := by exact fun z => nomatch z) (h15 : keys.length ≤ 15 := by decide) :
    JE T X W (.Dict keys values pos) (xDisp f) := by
  obtain ⟨trs, p, t⟩ := hp
  refine pe_imp (pe_dispX hu p hall hl h0 h15) fun σ H Q ⟨io, h, F, sg, sr, rs, w⟩ p hp => t σ _ _ ⟨io, h, F, sg, sr.garb hp _, rs, ?_⟩
  have st0 := sr.garbStep hp (DO p #[] 0)
  have nd0 : ∀ k, k < h.length → io k ≠ p := fun k hk z => by obtain ⟨u, hu'⟩ := sr.there hk; rw [z, hp] at hu'; cases hu'
  have fd0 := sr.none_of hp
  unfold xDisp at w
  cases e : f sg h with
  | bad => rw [e] at w; exact w
  | exc c fs h1 =>
    rw [e] at w
    intro io1 F1 H1 d st sr1 xr
    exact w io1 F1 H1 d (st0.trans (sr.garb hp _) st) sr1 xr
  | ok fl h1 =>
    rw [e] at w
    intro io1 F1 H1 zs st1 sr1 vr
    have w' : Wants T X.K io h.length F H _ Q (match unflat fl with
      | some qs => if (fitA [] qs && decide (qs.length ≤ 15)) = true then .ok (.dct (putA [] [] qs).1 (putA [] [] qs).2) h1 else .bad
      | none => .bad) := w
    cases eu : unflat fl with
    | none => rw [eu] at w'; exact w'.elim
    | some qs =>
      rw [eu] at w'
      dsimp only at w'
      obtain ⟨ps, rfl, pr⟩ := pr_of eu vr
      split at w'
      · rename_i hc
        rw [Bool.and_eq_true] at hc
        have st := st0.trans (sr.garb hp _) st1
        have hd1 : H1 p = some (DO p #[] 0) := st1.frame p _ upd_same nd0
        have nd1 : ∀ k, k < h1.length → io1 k ≠ p := fun k hk z => by
          by_cases hk' : k < h.length
          · exact nd0 k hk' ((st1.eq k hk').symm.trans z)
          · have := st1.new k (by omega) hk
            rw [z, upd_same] at this; cases this
        have fd1 : F1 p = none := by
          cases q : F1 p with
          | none => rfl
          | some o =>
            exfalso
            rcases st.fresh p o q with z | z | ⟨y, z⟩
            · rw [fd0] at z; cases z
            · have e1 := sr1.sub p o q
              rcases st1.fresh p o q with z2 | z2 | ⟨y, z2⟩
              · rw [fd0] at z2; cases z2
              · rw [upd_same] at z2; cases z2
              · subst z2; rw [hd1] at e1; unfold DO at e1; cases e1
            · subst z; have e1 := sr1.sub p _ q; rw [hd1] at e1; unfold DO at e1; cases e1
        refine ⟨ps, rfl, T, io1, h1.length, F1, qs, hw, sr1.sub, fd1, hd1, pr, hc.1, of_decide_eq_true hc.2, fun es' ep' xs' ys' g ru => ?_⟩
        -- the new dict, written, then frozen
        have sub2 : ∀ b u, F1 b = some u → upd H1 p (DO p es' ep') b = some u := fun b u z => by
          rw [upd_ne (fun q => by rw [q, fd1] at z; cases z)]; exact sr1.sub b u z
        have sr2 : SR T X.K io1 h1 F1 (upd H1 p (DO p es' ep')) := ⟨sub2, sr1.dis, sr1.inj, fun k o ek => by
          have hk : k < h1.length := (List.getElem?_eq_some_iff.mp ek).1
          have r := sr1.obj k o ek
          cases o with
          | lst vs => obtain ⟨xs, e1, r⟩ := r; exact ⟨xs, by rw [upd_ne (nd1 k hk)]; exact e1, r⟩
          | dct ks vs => obtain ⟨es, ep, xs, ys, e1, r⟩ := r; exact ⟨es, ep, xs, ys, by rw [upd_ne (nd1 k hk)]; exact e1, r⟩
          | ins c vs =>
            obtain ⟨dx, xs, e1, d, r, l⟩ := r
            exact ⟨dx, xs, by rw [upd_ne (nd1 k hk)]; exact e1, by rw [upd_ne (fun q => by rw [q, hd1] at d; unfold DO at d; cases d)]; exact d, r, l⟩⟩
        have st2 : Step io h.length F H io1 h1.length F1 (upd H1 p (DO p es' ep')) := ⟨st.le, st.eq, st.phi, fun b o eb hb => by
          rw [upd_ne (ne_of_none eb hp)]; exact st.frame b o eb hb, st.new, st.fresh⟩
        obtain ⟨s1, s2, mn⟩ := CInv.froze hp st2 sr2 upd_same fd1 nd1
        exact w' _ _ _ _ s1 s2 (.dct upd_same g.ok g.en (g.rk.mono (Nat.le_refl _) (fun _ _ => rfl) mn) (ru.mono (Nat.le_refl _) (fun _ _ => rfl) mn))
      · exact w'.elim
end
end Py

namespace Py
open PySem PySem.Spec PyProof.Rows L2

/-! ### {k: v for ..} -/
def tDcX (K : PySem.W.Frag) (w : World) (wi : TI) (g : TG) (tt : TT) (tk tv : TE) (vs : List Nat) : TE := fun σ H Q => wi σ H fun J H1 => ∀ D, H1 D = none → ∃ W : Nat → Nat → Hp → Prop, (∃ m, W 0 m (upd H1 D (DO D #[] 0))) ∧ ∀ i m H, W i m H →
  (J.stop i H ∧ Q (.ref D) H) ∨ (J.go i H ∧ ∃ Nx : Hp → Prop, (∀ H', Nx H' → ∃ m', m' < m ∧ W (i + 1) m' H') ∧ ∀ x H', J.yld i H x H' → g x (wipe σ vs) H' fun σ2 H2 => wipe σ2 vs = wipe σ vs ∧ tt σ2 H2 fun b H3 =>
    if b = true then tk σ2 H3 fun y H4 => tv σ2 H4 fun z H5 => tSetX K w (.ref D) y z H5 Nx else Nx H3)
section
variable {X : Cx} {kx vx tg iter : Expr} {ifs : List Expr} {scope : Scope} {own : List (Str × Nat)} {pos : Pos} {wi : TI} {g : TG} {tt : TT} {tk tv : TE}
abbrev Blks (X : Cx) (scope : Scope) (p : Cx → Prop) : Prop := ∀ (s : Shared) (H : Hp) (C : Addr) (cl : List (Str × Addr)) (fp : List Addr), p (X.blk s H scope (compEnvC scope cl C X.env) fp)
theorem dcx_core {pins : List (Addr × PySem.Obj)} {s : Shared} {σ : L2.St} {H : Hp} {Q : VK} {ps : Pos} {use : Option (Value → Sem Unit)} {Qf : Value → Shared → Prop} (hu : X.A.units + 60 < cLine) (hc : X.calm = true) (nd : X.N.Nodup) (I0 : L2.Inv X pins σ H s) (hi : PI X tg iter wi) (bk : BlkOk X.N X.env.scope scope own)
    (hg : Blks X scope fun Y => PG Y tg g) (ht : Blks X scope fun Y => PTs Y ifs tt) (hk : Blks X scope fun Y => PE Y kx tk) (hv : Blks X scope fun Y => PE Y vx tv) (fs : ∀ x, foldedSetIterable iter X.env x = pure x) (h0 : tDcX X.K X.w wi g tt tk tv (own.map (·.2)) σ H Q)
    (fin : ∀ D C s' m H', L2.Inv X pins σ H' s' → Q (.ref D) H' → s'.heap.Ns C m → FpOk X pins H' C → compPost (model X.prog X.w) X.A X.xe use Qf (.ref D) C (.ok .next) s') :
    wpAny (model X.prog X.w) X.A (comprehension (.DictComp kx vx [⟨tg, iter, ifs, 0⟩] scope pos) scope X.env ps newDict false (eval iter X.env) use) Qf X.xe s := by
  have fr : ∀ y ∈ scope.names, y.2 = .free → ∃ c, X.env.cells.lookup y.1 = some c := fun y hy e => (bk.free y hy e).elim (fun z => I0.ok.has _ (.inl z)) fun z => I0.ok.has _ (.inr z)
  refine wpAny_comprehension_free (use := use) rfl fs (closure_ok fr) bk.kind (fun y hy e => by rw [bk.uniq y hy, e]) (thn (hi.run pins s σ H _ I0 h0) fun xv s1 hx => thn hx ?_)
  rintro itv s2 ⟨it, fp, tn, J, H2, rfl, I2, TT, st2, f2, q⟩
  refine wpAny_newObj_type (newEnv_comp ?_)
  generalize hD : s2.heap.objs.size = D
  obtain ⟨W, ⟨m0, w0⟩, turn⟩ := q D (I2.hok.fresh (Nat.le_of_eq hD))
  generalize e3 : ({ s2 with heap := s2.heap.push { cls := .type "dict", data := .dict #[] } } : Shared) = s3
  have p3 : s3.heap = s2.heap.push { cls := .type "dict", data := .dict #[] } := by rw [← e3]
  have I3 : L2.Inv X pins σ (upd H2 D (DO D #[] 0)) s3 := by
    subst e3
    refine I2.laid (t' := s2.toks) (fun b o e => Heap.get?_push_of_some _ e) (Nat.le_of_eq hD) ?_
    subst hD
    exact do_ok (beq_eq_false_iff_ne.mpr (Ne.symm (Nat.ne_of_lt I2.big))) (Nat.zero_le _) ⟨_, Heap.get?_push_size _ rfl, ⟨rfl, rfl, rfl⟩, rfl⟩
  have lt2 : ∀ b ∈ fp, b < s2.heap.objs.size := fun b hb => let ⟨o, e, _⟩ := TT.obj _ _ st2 b hb; Heap.lt_size e
  have f3 : ∀ b ∈ fp, FpOk X pins (upd H2 D (DO D #[] 0)) b ∧ b < s3.heap.objs.size := fun b hb => by
    refine ⟨⟨?_, (f2 b hb).2⟩, by rw [p3, Heap.size_push]; exact Nat.lt_succ_of_lt (lt2 b hb)⟩
    rw [upd_ne (by rw [← hD]; exact Nat.ne_of_lt (lt2 b hb))]; exact (f2 b hb).1
  have st3 : tn 0 s3.heap := TT.keep _ _ _ st2 fun b _ o e => by rw [p3]; exact Heap.get?_push_of_some _ e
  have I4 := block_start I3 bk nd f3
  let cl := cellsFrom (s3.heap.objs.size + 1) scope.names (cloFrom X.env.cells scope.names [])
  have pg := hg s3 (upd H2 D (DO D #[] 0)) s3.heap.objs.size cl fp
  have pt := ht s3 (upd H2 D (DO D #[] 0)) s3.heap.objs.size cl fp
  have pk := hk s3 (upd H2 D (DO D #[] 0)) s3.heap.objs.size cl fp
  have pv := hv s3 (upd H2 D (DO D #[] 0)) s3.heap.objs.size cl fp
  show codeAny _ _ (.compStart (.DictComp kx vx [⟨tg, iter, ifs, 0⟩] scope pos) 0 (.ref it) (.ref D) (compEnvC scope cl s3.heap.objs.size X.env)) (compPost (model X.prog X.w) X.A X.xe use Qf (.ref D) s3.heap.objs.size) { s3 with heap := pushCells (s3.heap.push { cls := .type "dict", data := .dict #[] }) scope.names }
  have n3 : ∀ b ∈ fp, (upd H2 D (DO D #[] 0)) b = none := fun b hb => (f3 b hb).1.1
  generalize hce : compEnvC scope cl s3.heap.objs.size X.env = ce at I4 pg pt pk pv ⊢
  have cL : ce.locals = s3.heap.objs.size := by subst hce; rfl
  generalize hH3 : upd H2 D (DO D #[] 0) = H3 at I3 I4 pg pt pk pv w0 n3 f3
  generalize e4 : ({ s3 with heap := pushCells (s3.heap.push { cls := .type "dict", data := .dict #[] }) scope.names } : Shared) = s4 at I4 ⊢
  have st4 : tn 0 s4.heap := TT.keep _ _ _ st3 fun b _ o e => by rw [← e4]; exact pushCells_keeps _ _ _ _ (Heap.get?_push_of_some _ e)
  generalize hY : X.blk s3 H3 scope ce fp = Y at I4 pg pt pk pv
  have stat : ∀ {σ' : L2.St} {H' : Hp} {s' : Shared}, L2.Inv Y [] σ' H' s' → (∀ b ∈ fp, H' b = none) → ∀ b ∈ fp, FpOk Y [] H' b := fun {σ' H' s'} I' hn b hb => by
    subst hY
    exact ⟨hn b hb, (I'.ok.exf b hb).1, I'.ok.exfs b hb, .inl hb, fun x c e => (I'.ok.exf b hb).2 x c e, fun p hp => absurd (show p ∈ ([] : List (Addr × PySem.Obj)) ++ [] from hp) (by simp)⟩
  have loop : codeAny (model X.prog X.w) X.A (.compLoop (.DictComp kx vx [⟨tg, iter, ifs, 0⟩] scope pos) 0 (.ref it) (.ref D) ce) (compPost (model X.prog X.w) X.A X.xe use Qf (.ref D) s3.heap.objs.size) s4 := by
    refine compLoop_anyD (fun n s' => ∃ i H', L2.Inv Y [] (wipe σ (own.map (·.2))) H' s' ∧ tn i s'.heap ∧ (∀ b ∈ fp, H' b = none) ∧ W i n H') ?_ m0 ⟨0, H3, I4, st4, n3, w0⟩
    rintro n s5 ⟨i, H5, I5, st5, n5, w5⟩
    rcases turn i n H5 w5 with ⟨stop, qq⟩ | ⟨go, Nx, hNx, step⟩
    · subst hY
      refine thnF (TT.done (X.blk s3 H3 scope ce fp) rfl rfl rfl hc i [] s5 _ H5 (fun _ _ => False) I5 (stat I5 n5) st5 stop) ?_
      rintro r s6 ⟨rfl, I6⟩
      have I7 : L2.Inv X pins σ H5 s6 := I3.call' (ch := fp) I6.os I6.base I6.hok I6.bare fun b hb => ⟨(f3 b hb).1.2.2.2.1, (f3 b hb).1.2.1, (f3 b hb).1.2.2.2.2.1, (f3 b hb).1.2.2.2.2.2⟩
      obtain ⟨m, hn, _⟩ := I6.loc
      have hn' : s6.heap.Ns ce.locals m := hn
      have nC : H5 ce.locals = none := I6.free
      rw [cL] at hn' nC
      exact fin D s3.heap.objs.size s6 m H5 I7 qq hn' (I3.fpOk (Nat.le_refl _) nC)
    · subst hY
      refine thnF (TT.item (X.blk s3 H3 scope ce fp) rfl rfl rfl hc i [] s5 _ H5 (fun _ _ => False) I5 (stat I5 n5) st5 go) ?_
      rintro r s6 ⟨u, rfl, h6⟩
      refine thnF h6 ?_
      rintro _ s7 ⟨x, H7, I7, r7, y7, st7, n7⟩
      have I7' := I7.pinned (stat I7 n7) (TT.obj _ _ st7)
      refine thnF (pg.run _ s7 _ H7 x u _ I7' r7 (step x H7 y7)) ?_
      rintro _ s8 ⟨σ8, H8, I8, hw8, q8⟩
      refine thnF (pt.run _ s8 σ8 H8 _ I8 q8) ?_
      rintro b s9 ⟨H9, I9, q9⟩
      have back : ∀ {s' : Shared} {H' : Hp}, L2.Inv (X.blk s3 H3 scope ce fp) ([] ++ pinsAt fp s7.heap) σ8 H' s' → Nx H' → ∃ m, m < n ∧ ∃ i H', L2.Inv (X.blk s3 H3 scope ce fp) [] (wipe σ (own.map (·.2))) H' s' ∧ tn i s'.heap ∧ (∀ b ∈ fp, H' b = none) ∧ W i m H' := fun {s' H'} I' nx => by
        obtain ⟨m', hm, w'⟩ := hNx H' nx
        have pin' : ∀ b ∈ fp, ∀ o, s7.heap.get? b = some o → s'.heap.get? b = some o ∧ H' b = none := fun b hb o e =>
          let z := I'.pin (b, o) (List.mem_append_right _ (List.mem_append_right _ (mem_pinsAt hb e))); ⟨z.1, z.2.1⟩
        have hl : (wipe σ (own.map (·.2))).length = σ8.length := by rw [← hw8, wipe_length]
        refine ⟨m', hm, i + 1, H', (I'.unpinned (pins := [])).weak hl fun j v e => ?_, TT.keep _ _ _ st7 fun b hb o e => (pin' b hb o e).1, fun b hb => ?_, w'⟩
        · rw [← hw8] at e; exact (wipe_some e).1
        · obtain ⟨o, e, _⟩ := TT.obj _ _ st7 b hb; exact (pin' b hb o e).2
      cases b with
      | false => rw [if_neg Bool.false_ne_true] at q9 ⊢; exact back I9 q9
      | true =>
        rw [if_pos rfl] at q9 ⊢
        refine thnF (pk.run _ s9 σ8 H9 _ I9 q9) ?_
        rintro z s10 ⟨yk, H10, I10, r10, q10⟩
        refine thnF (pv.run _ s10 σ8 H10 _ I10 q10) ?_
        rintro z2 s11 ⟨yv, H11, I11, r11, ad, ead, T, io, nn, F, ks, xs, ys, es, ep, qv, hw, hF, gg, rq, fit, hz, kk⟩
        cases ead
        refine x_dset (X := X.blk s3 H3 scope ce fp) hu I11 hw hF gg rq r10 fit r11 hz fun s12 p => ?_
        obtain ⟨es', ep', a1, a2, I12⟩ := p.ex
        exact back I12 (kk es' ep' a1 a2)
  exact codeAny_compStart_dict loop (TT.self X.A 0 _ _ _ st4 loop)
theorem pe_dcX (hu : X.A.units + 60 < cLine) (hc : X.calm = true) (nd : X.N.Nodup) (hi : PI X tg iter wi) (bk : BlkOk X.N X.env.scope scope own) (hg : Blks X scope fun Y => PG Y tg g) (ht : Blks X scope fun Y => PTs Y ifs tt) (hk : Blks X scope fun Y => PE Y kx tk) (hv : Blks X scope fun Y => PE Y vx tv)
    (fs : ∀ x, foldedSetIterable iter X.env x = pure x := by intro _; rfl) : PE X (.DictComp kx vx [⟨tg, iter, ifs, 0⟩] scope pos) (tDcX X.K X.w wi g tt tk tv (own.map (·.2))) := by
  refine ⟨fun pins s σ H Q I h => ?_⟩
  rw [arm_eval_DictComp]
  refine dcx_core hu hc nd I hi bk hg ht hk hv fs h fun D C s' m H' I' q hn f => ⟨m, hn, fun h'' sb => ?_⟩
  obtain ⟨f0, f1, _, f3, f4, f5⟩ := f
  exact ⟨.ref D, H', I'.turned (t' := s'.toks) (fun b o hb e => (sb.2 b hb).trans e) f0 f1 f3 f4 f5, rfl, q⟩
end

/-! ### in the layer -/
def Src.cur : Src → Hh → Option (List Val)
  | .items vs, _ => some vs
  | .ref c, h => c h
def Src.le : Src → Nat → Prop
  | .items vs, i => i ≤ vs.length
  | .ref _, _ => True
theorem src_yld {T : Tb} {K : PySem.W.Frag} {io0 io : Nat → Addr} {n0 : Nat} {F0 F H : Hp} {h : Hh} {J : It} {s : Src} {i : Nat} {xs : List Val} (so : SrcOk T K io0 n0 F0 J s) (hle : s.le i) (sr : SR T K io h F H) (hn : n0 ≤ h.length) (he : ∀ k, k < n0 → io k = io0 k) (hF : ∀ b o, F0 b = some o → F b = some o) (e : s.cur h = some xs) : YldOk T K J i xs[i]? io h F H := by
  cases s with
  | items vs => cases e; exact so i io h F H sr hn he hF hle
  | ref c => exact so i io h F H xs sr hn he hF e
theorem src_le {s : Src} {h : Hh} {xs : List Val} {i : Nat} {v : Val} (e : s.cur h = some xs) (ev : xs[i]? = some v) : s.le (i + 1) := by
  cases s with
  | items vs => cases e; exact (List.getElem?_eq_some_iff.mp ev).1
  | ref c => exact trivial
/-- a thing at D that is nobody's yet -/
structure DInv (T : Tb) (K : PySem.W.Frag) (io1 : Nat → Addr) (n1 : Nat) (F1 H1 : Hp) (D : Addr) (io : Nat → Addr) (h : Hh) (F H : Hp) (ks vs : List Val) : Prop where
  sr : SR T K io h F H
  st : Step io1 n1 F1 H1 io h.length F H
  fd : F D = none
  nd : ∀ k, k < h.length → io k ≠ D
  ex : ∃ es ep xs ys, DGx T K io h.length F H D ks xs ys es ep ∧ VRs T K io h.length F vs ys
section
variable {T : Tb} {K : PySem.W.Frag} {io1 io io' : Nat → Addr} {n1 : Nat} {F1 H1 F H F' H' : Hp} {D : Addr} {h h' : Hh} {ks vs : List Val}
theorem DInv.go (c : DInv T K io1 n1 F1 H1 D io h F H ks vs) (st : Step io h.length F H io' h'.length F' H') (sr : SR T K io' h' F' H') : DInv T K io1 n1 F1 H1 D io' h' F' H' ks vs := by
  obtain ⟨es, ep, xs, ys, g, ru⟩ := c.ex
  have e := st.frame D _ g.at_ c.nd
  refine ⟨sr, c.st.trans c.sr st, ?_, fun k hk z => ?_, es, ep, xs, ys, ⟨e, g.ok, g.en, g.rk.step st⟩, ru.step st⟩
  · cases q : F' D with
    | none => rfl
    | some o =>
      exfalso
      rcases st.fresh D o q with z | z | ⟨y, z⟩
      · rw [c.fd] at z; cases z
      · rw [g.at_] at z; cases z
      · subst z
        have := sr.sub D _ q
        rw [e] at this; unfold DO at this; cases this
  · by_cases hk' : k < h.length
    · exact c.nd k hk' ((st.eq k hk').symm.trans z)
    · have := st.new k (by omega) hk
      rw [z, g.at_] at this; cases this
theorem DInv.upd (hD1 : H1 D = none) (c : DInv T K io1 n1 F1 H1 D io h F H ks vs) {es' : Array DictEntry} {ep' : Nat} {ks' vs' : List Val} {xs' ys' : List V} (ok : KeysOk ks') (en : Ents T.w es'.toList ks' xs' ys') (rk : VRs T K io h.length F ks' xs') (ru : VRs T K io h.length F vs' ys') :
    DInv T K io1 n1 F1 H1 D io h F (L2.upd H D (DO D es' ep')) ks' vs' := by
  obtain ⟨es, ep, xs, ys, g, _⟩ := c.ex
  refine ⟨⟨fun b o e => ?_, c.sr.dis, c.sr.inj, fun k o e => ?_⟩, ⟨c.st.le, c.st.eq, c.st.phi, fun b o e hb => ?_, c.st.new, c.st.fresh⟩, c.fd, c.nd, es', ep', xs', ys', ⟨upd_same, ok, en, rk⟩, ru⟩
  · rw [upd_ne (fun z => by rw [z, c.fd] at e; cases e)]; exact c.sr.sub b o e
  · have hk : k < h.length := (List.getElem?_eq_some_iff.mp e).1
    have r := c.sr.obj k o e
    cases o with
    | lst vs => obtain ⟨zs, e1, r⟩ := r; exact ⟨zs, by rw [upd_ne (c.nd k hk)]; exact e1, r⟩
    | dct ks vs => obtain ⟨es, ep, zs, us, e1, r⟩ := r; exact ⟨es, ep, zs, us, by rw [upd_ne (c.nd k hk)]; exact e1, r⟩
    | ins cc vs =>
      obtain ⟨dx, zs, e1, d, r, l⟩ := r
      exact ⟨dx, zs, by rw [upd_ne (c.nd k hk)]; exact e1, by rw [upd_ne (fun z => by rw [z, g.at_] at d; unfold DO at d; cases d)]; exact d, r, l⟩
  · rw [upd_ne (ne_of_none e hD1)]; exact c.st.frame b o e hb
end
/-- the comprehension, from turn i on -/
def dcRun (c : Hh → Option (List Val)) (g : Gx) (t k v : Ex) (sg : Sg) : Nat → Nat → List Val → List Val → Hh → Option (List Val × List Val × Hh)
  | 0, _, _, _, _ => none
  | m + 1, i, ks, vs, h => match c h with
    | some xs => (match xs[i]? with
      | none => some (ks, vs, h)
      | some x => match g x sg h with
        | .ok sg1 h1 => (match t sg1 h1 with
          | .ok (.bl true) h2 => (match k sg1 h2 with
            | .ok kv h3 => (match v sg1 h3 with
              | .ok vv h4 => if (fitK ks kv && decide (ks.length < 1000000)) = true then dcRun c g t k v sg m (i + 1) (putKs ks ks kv kv) (putVs ks vs kv vv) h4 else none
              | _ => none)
            | _ => none)
          | .ok (.bl false) h2 => dcRun c g t k v sg m (i + 1) ks vs h2
          | _ => none)
        | .bad => none)
    | none => none
def xDCompF (own : List Nat) (fi : Ix) (g : Gx) (t k v : Ex) : Ex := fun sg h => match fi sg h with
  | .ok s h1 => (match dcRun s.cur g t k v (wipeG sg own) 1000000 0 [] [] h1 with
    | some (ks, vs, h2) => .ok (.dct ks vs) h2
    | none => .bad)
  | .exc c fs h1 => .exc c fs h1
  | .bad => .bad
section
variable {T : Tb} {X : Cx} {W : WX} {kx vx tg iter : Expr} {ifs : List Expr} {scope : Scope} {pos : Pos} {fi : Ix} {g : Gx} {t fk fv : Ex} {ws : List Nat}
theorem dcF_imp (own : List (Str × Nat)) (hT : T.w = X.w) (hws : ∀ j, j ∈ ws → j ∈ own.map (·.2)) : ∀ σ H Q, tE T X.K W (xDCompF (own.map (·.2)) fi g t fk fv) σ H Q → tDcX X.K X.w (tI T X.K W fi) (tGw T X.K ws g) (tB1 T X.K Wno t) (tE T X.K Wno fk) (tE T X.K Wno fv) (own.map (·.2)) σ H Q := by
  rintro σ H Q ⟨io, h, F, sg, sr, rs, w⟩
  refine ⟨io, h, F, sg, sr, rs, ?_⟩
  unfold xDCompF at w
  cases e : fi sg h with
  | bad => rw [e] at w; exact w
  | exc c fs h1 => rw [e] at w; exact w
  | ok s h1 =>
    rw [e] at w
    intro io1 F1 H1 J st1 sr1 so D hD
    dsimp only at w
    have w := Wants.rebase w st1 sr1
    have rs1 := wipeG_ok (rs.step st1) (own.map (·.2))
    have c0 : DInv T X.K io1 h1.length F1 H1 D io1 h1 F1 (upd H1 D (DO D #[] 0)) [] [] := ⟨sr1.garb hD _, sr1.garbStep hD _, sr1.none_of hD, (fun k hk z => by obtain ⟨u, hu'⟩ := sr1.there hk; rw [z, hD] at hu'; cases hu'), #[], 0, [], [], ⟨upd_same, keys0, True.intro, .nil⟩, .nil⟩
    refine ⟨fun i m H2 => ∃ io2 h2 F2 ks vs, s.le i ∧ DInv T X.K io1 h1.length F1 H1 D io2 h2 F2 H2 ks vs ∧ RSt T X.K io2 h2.length F2 (wipeG sg (own.map (·.2))) (wipe σ (own.map (·.2))) ∧ (match dcRun s.cur g t fk fv (wipeG sg (own.map (·.2))) m i ks vs h2 with
        | some (ks, vs, h2) => Wants T X.K io1 h1.length F1 H1 (fun c d H' => W c d σ H') Q (.ok (.dct ks vs) h2)
        | none => False), ⟨1000000, io1, h1, F1, [], [], ?_, c0, rs1.step c0.st, ?_⟩, ?_⟩
    · cases s with
      | items vs => exact Nat.zero_le _
      | ref c => exact trivial
    · cases ed : dcRun s.cur g t fk fv (wipeG sg (own.map (·.2))) 1000000 0 [] [] h1 with
      | none => rw [ed] at w; exact w
      | some p => obtain ⟨a, b, c⟩ := p; rw [ed] at w; exact w
    rintro i m H2 ⟨io2, h2, F2, ks, vs, hle, c2, rs2, w2⟩
    cases m with
    | zero => exact w2.elim
    | succ m =>
      unfold dcRun at w2
      cases ec : s.cur h2 with
      | none => rw [ec] at w2; exact w2.elim
      | some xs =>
        rw [ec] at w2
        have y := src_yld so hle c2.sr c2.st.le c2.st.eq c2.st.phi ec
        dsimp only at w2
        cases ev : xs[i]? with
        | none =>
          rw [ev] at w2 y
          refine .inl ⟨y, ?_⟩
          obtain ⟨es, ep, zs, us, gg, ru⟩ := c2.ex
          obtain ⟨s1, s2, mn⟩ := CInv.froze hD c2.st c2.sr gg.at_ c2.fd c2.nd
          exact w2 _ _ _ _ s1 s2 (.dct upd_same gg.ok gg.en (gg.rk.mono (Nat.le_refl _) (fun _ _ => rfl) mn) (ru.mono (Nat.le_refl _) (fun _ _ => rfl) mn))
        | some x =>
          have hle1 := src_le ec ev
          rw [ev] at w2 y
          dsimp only at w2
          refine .inr ⟨y.1, fun H3 => ∃ io2 h2 F2 ks vs, s.le (i + 1) ∧ DInv T X.K io1 h1.length F1 H1 D io2 h2 F2 H3 ks vs ∧ RSt T X.K io2 h2.length F2 (wipeG sg (own.map (·.2))) (wipe σ (own.map (·.2))) ∧ (match dcRun s.cur g t fk fv (wipeG sg (own.map (·.2))) m (i + 1) ks vs h2 with
            | some (ks, vs, h2) => Wants T X.K io1 h1.length F1 H1 (fun c d H' => W c d σ H') Q (.ok (.dct ks vs) h2)
            | none => False), fun H' n' => ⟨m, Nat.lt_succ_self _, n'⟩, fun xx H' hy => ?_⟩
          obtain ⟨F3, st3, sr3, vr3⟩ := y.2 xx H' hy
          have c3 := c2.go st3 sr3
          refine ⟨io2, h2, F3, wipeG sg (own.map (·.2)), x, sr3, rs2.step st3, vr3, ?_⟩
          cases eg : g x (wipeG sg (own.map (·.2))) h2 with
          | bad => rw [eg] at w2; exact w2.elim
          | ok sg1 h3 =>
            rw [eg] at w2
            intro io4 F4 H4 σ4 st4 sr4 rs4 hj hl
            have c4 := c3.go st4 sr4
            refine ⟨wipe_eq hws hj hl, io4, h3, F4, sg1, sr4, rs4, ?_⟩
            dsimp only at w2
            cases et : t sg1 h3 with
            | bad => rw [et] at w2; exact w2.elim
            | exc a b c => rw [et] at w2; exact w2.elim
            | ok tv h4 =>
              rw [et] at w2
              cases tv with
              | bl b =>
                intro io5 F5 H5 st5 sr5
                have c5 := c4.go st5 sr5
                have rs5 := ((rs2.step st3).step st4).step st5
                cases b with
                | false =>
                  rw [if_neg Bool.false_ne_true]
                  exact ⟨io5, h4, F5, ks, vs, hle1, c5, rs5, w2⟩
                | true =>
                  rw [if_pos rfl]
                  refine ⟨io5, h4, F5, sg1, sr5, rs4.step st5, ?_⟩
                  dsimp only at w2
                  cases ek : fk sg1 h4 with
                  | bad => rw [ek] at w2; exact w2.elim
                  | exc a b c => rw [ek] at w2; exact w2.elim
                  | ok kv h5 =>
                    rw [ek] at w2
                    intro io6 F6 H6 kx6 st6 sr6 vk6
                    have c6 := c5.go st6 sr6
                    refine ⟨io6, h5, F6, sg1, sr6, (rs4.step st5).step st6, ?_⟩
                    dsimp only at w2
                    cases evv : fv sg1 h5 with
                    | bad => rw [evv] at w2; exact w2.elim
                    | exc a b c => rw [evv] at w2; exact w2.elim
                    | ok vv h6 =>
                      rw [evv] at w2
                      intro io7 F7 H7 vx7 st7 sr7 vv7
                      have c7 := c6.go st7 sr7
                      dsimp only at w2
                      by_cases hcc : (fitK ks kv && decide (ks.length < 1000000)) = true
                      · rw [if_pos hcc] at w2
                        rw [Bool.and_eq_true] at hcc
                        obtain ⟨es, ep, zs, us, gg, ru⟩ := c7.ex
                        have hl := Ents.len gg.en
                        have hz : es.size < sizeLine := by
                          have := of_decide_eq_true hcc.2
                          simp at hl
                          rw [sizeLine_eq]; omega
                        have vk7 := vk6.step st7
                        refine ⟨D, rfl, T, io7, h6.length, F7, ks, zs, us, es, ep, kv, hT, sr7.sub, gg, vk7, hcc.1, hz, fun es' ep' q1 q2 => ?_⟩
                        have c8 := c7.upd (ep' := ep') hD (gg.ok.put hcc.1) q1 (putKs_rel gg.rk vk7) (putVs_rel ru vv7)
                        exact ⟨io7, h6, F7, _, _, hle1, c8, (rs5.step st6).step st7, w2⟩
                      · rw [if_neg hcc] at w2; exact w2.elim
              | _ => exact w2.elim
theorem je_dcF (own : List (Str × Nat)) (hT : T.w = X.w) (hu : X.A.units + 64 < cLine) (hc : X.calm = true) (nd : X.N.Nodup) (hi : JI T X W tg iter fi) (bk : BlkOk X.N X.env.scope scope own) (hws : ∀ j, j ∈ ws → j ∈ own.map (·.2))
    (hg : Blks X scope fun Y => JGw T Y ws tg g) (ht : Blks X scope fun Y => JTs T Y Wno ifs t) (hk : Blks X scope fun Y => JE T Y Wno kx fk) (hv : Blks X scope fun Y => JE T Y Wno vx fv) (fs : ∀ x, foldedSetIterable iter X.env x = pure x := by intro _; rfl) :
    JE T X W (.DictComp kx vx [⟨tg, iter, ifs, 0⟩] scope pos) (xDCompF (own.map (·.2)) fi g t fk fv) := by
  exact pe_imp (pe_dcX (g := tGw T X.K ws g) (tt := tB1 T X.K Wno t) (tk := tE T X.K Wno fk) (tv := tE T X.K Wno fv) (by omega) hc nd hi bk hg ht hk hv fs) (dcF_imp own hT hws)
end
end Py

namespace Py
open PySem PySem.Spec PyProof.Rows L2

/-! ### lists and tuples as sources of zip and enumerate -/
def SqK (K : PySem.W.Frag) (b : Bool) (H : Hp) (l : Addr) (xs : List V) : Prop := match b with
  | true => SqT K H l xs
  | false => SqL K H l xs
def ItK (b : Bool) (h : Heap) (it l : Addr) (i : Nat) : Prop := match b with
  | true => h.IsTupleIter it l i
  | false => h.IsListIter it l i
def CtK (b : Bool) (h : Heap) (l : Addr) (items : Array Value) : Prop := match b with
  | true => h.IsTuple l items
  | false => h.IsList l items
def obK (b : Bool) (l : Addr) : PySem.Obj := match b with
  | true => { cls := .type "tuple_iterator", data := .fields #[.ref l, .int 0 0] }
  | false => { cls := .type "list_iterator", data := .fields #[.ref l, .int 0 0] }
theorem drK {prog : Program} {w : World} {A : Around} (hh : A.handled = none) (b : Bool) (it l : Addr) (hne : l ≠ it) (items : Array Value) :
    Draws prog w A it [it, l] items.size (fun i v => items[i]? = some v) (fun i h => ItK b h it l i ∧ CtK b h l items) := by
  cases b with
  | true => exact Draws.tuple hh it l hne items
  | false => exact Draws.list hh it l hne items
theorem beK (b : Bool) (l : Addr) (items : Array Value) : Begins (.ref l) (obK b l) (fun h => CtK b h l items) := by
  cases b with
  | true => exact begins_tuple l items
  | false => exact begins_list l items
theorem itK_at {b : Bool} {h h' : Heap} {it l : Addr} {i : Nat} (x : ItK b h it l i) (k : ∀ o, h.get? it = some o → h'.get? it = some o) : ItK b h' it l i := by
  cases b with
  | true => exact Heap.IsTupleIter.at x k
  | false => exact Heap.IsListIter.at x k
theorem itK_obj {b : Bool} {h : Heap} {it l : Addr} {i : Nat} (x : ItK b h it l i) : ∃ o, h.get? it = some o ∧ ∀ v, o.data ≠ .cell v := by
  cases b with
  | true => obtain ⟨o, e, _, d⟩ := x; exact ⟨o, e, fun v q => by rw [d] at q; cases q⟩
  | false => obtain ⟨o, e, _, d⟩ := x; exact ⟨o, e, fun v q => by rw [d] at q; cases q⟩
theorem itK_0 {b : Bool} {h : Heap} {it l : Addr} (e : h.get? it = some (obK b l)) : ItK b h it l 0 := by
  cases b with
  | true => exact ⟨_, e, rfl, rfl⟩
  | false => exact ⟨_, e, rfl, rfl⟩
section
variable {X : Cx} {pins : List (Addr × PySem.Obj)} {σ : L2.St} {H : Hp} {s : Shared} {b : Bool} {l : Addr} {xs ys : List V}
theorem sqK_ct (I : L2.Inv X pins σ H s) (h : SqK X.K b H l xs) : ∃ its : List Value, Vals xs its ∧ CtK b s.heap l its.toArray ∧ l < s.heap.objs.size := by
  cases b with
  | true =>
    obtain ⟨its, r, p, _⟩ := I.tuple h
    exact ⟨its, r, p, p.lt⟩
  | false =>
    obtain ⟨its, r, p, _⟩ := I.list h
    exact ⟨its, r, p.isList, p.lt⟩
theorem sqK_inj (I : L2.Inv X pins σ H s) (h : SqK X.K b H l xs) (h' : SqK X.K b H l ys) : xs = ys := by
  cases b with
  | true => exact I.tuple_inj h h'
  | false => exact I.list_inj h h'
end
theorem neK {b : Bool} {h : Heap} {it l : Addr} {i : Nat} {items : Array Value} (x : ItK b h it l i) (c : CtK b h l items) : l ≠ it := fun e => by
  cases b with
  | true =>
    obtain ⟨o1, e1, k1, _⟩ := x
    obtain ⟨o2, e2, k2, _⟩ := (c : h.IsTuple l items)
    rw [e, e1] at e2; cases e2; rw [k1] at k2
    injection k2 with k; exact absurd k (by decide)
  | false =>
    obtain ⟨o1, e1, k1, _⟩ := x
    obtain ⟨o2, e2, k2, _⟩ := (c : h.IsList l items)
    rw [e, e1] at e2; cases e2; rw [k1] at k2
    injection k2 with k; exact absurd k (by decide)
/-! ### zip of two, of three -/
def ItZ2 (K : PySem.W.Frag) (b1 b2 : Bool) (l1 l2 : Addr) : It where
  go := fun i H => ∃ xs ys, SqK K b1 H l1 xs ∧ SqK K b2 H l2 ys ∧ i < xs.length ∧ i < ys.length
  yld := fun i H v H' => ∃ T x y, v = .ref T ∧ H T = none ∧ H' = upd H T (.tup [x, y]) ∧ (∀ xs, SqK K b1 H l1 xs → xs[i]? = some x) ∧ ∀ ys, SqK K b2 H l2 ys → ys[i]? = some y
  stop := fun i H => ∃ xs ys, SqK K b1 H l1 xs ∧ SqK K b2 H l2 ys ∧ i ≤ xs.length ∧ i ≤ ys.length ∧ (i = xs.length ∨ i = ys.length)
def ItZ3 (K : PySem.W.Frag) (b1 b2 b3 : Bool) (l1 l2 l3 : Addr) : It where
  go := fun i H => ∃ xs ys zs, SqK K b1 H l1 xs ∧ SqK K b2 H l2 ys ∧ SqK K b3 H l3 zs ∧ i < xs.length ∧ i < ys.length ∧ i < zs.length
  yld := fun i H v H' => ∃ T x y z, v = .ref T ∧ H T = none ∧ H' = upd H T (.tup [x, y, z]) ∧ (∀ xs, SqK K b1 H l1 xs → xs[i]? = some x) ∧ (∀ ys, SqK K b2 H l2 ys → ys[i]? = some y) ∧ ∀ zs, SqK K b3 H l3 zs → zs[i]? = some z
  stop := fun i H => ∃ xs ys zs, SqK K b1 H l1 xs ∧ SqK K b2 H l2 ys ∧ SqK K b3 H l3 zs ∧ i ≤ xs.length ∧ i ≤ ys.length ∧ i ≤ zs.length ∧ (i = xs.length ∨ i = ys.length ∨ i = zs.length)
theorem vget {xs : List V} {its : List Value} {i : Nat} {x : Value} (r : Vals xs its) (e : its.toArray[i]? = some x) : ∃ y, xs[i]? = some y ∧ RelV y x := by
  have e' : its[i]? = some x := by simpa using e
  have hi : i < xs.length := by rw [r.length]; exact (List.getElem?_eq_some_iff.mp e').1
  obtain ⟨u, hu, ru⟩ := r.get (List.getElem?_eq_getElem hi)
  rw [e'] at hu; cases hu
  exact ⟨_, List.getElem?_eq_getElem hi, ru⟩
section
variable {P : Program} {w : World} {K : PySem.W.Frag} {elts : List Expr} {kk : Nat} {tpos : Pos}
theorem turn_z2 {b1 b2 : Bool} {l1 l2 z TI TO i1 i2 : Addr} (S : ZipSep2 z TI TO i1 i2 [i1, l1] [i2, l2]) :
    Turn P w K (.Tuple elts kk tpos) (ItZ2 K b1 b2 l1 l2) [z, TI, TO, i1, i2] z (fun i h => IsZip h z TI TO .none ∧ IsTupOf2 h TI (.ref i1) (.ref i2) ∧ (∃ a1 a2, IsTupOf2 h TO a1 a2) ∧ ItK b1 h i1 l1 i ∧ ItK b2 h i2 l2 i) where
  mem := by simp
  obj := fun i h ⟨hz, hTI, ⟨a1, a2, hTO⟩, h1, h2⟩ c hc => by
    simp only [List.mem_cons, List.not_mem_nil, or_false] at hc
    rcases hc with rfl | rfl | rfl | rfl | rfl
    · exact ⟨_, hz, fun v q => nomatch q⟩
    · exact ⟨_, hTI, fun v q => nomatch q⟩
    · exact ⟨_, hTO, fun v q => nomatch q⟩
    · exact itK_obj h1
    · exact itK_obj h2
  keep := fun i h h' ⟨hz, hTI, ⟨a1, a2, hTO⟩, h1, h2⟩ k => ⟨k z (by simp) _ hz, k TI (by simp) _ hTI, ⟨a1, a2, k TO (by simp) _ hTO⟩, itK_at h1 fun o q => k i1 (by simp) o q, itK_at h2 fun o q => k i2 (by simp) o q⟩
  item := by
    intro X eP ew eK hc i pins s σ H E I hf ⟨hz, hTI, ⟨a1, a2, hTO⟩, h1, h2⟩ ⟨xs, ys, q1, q2, g1, g2⟩
    subst eP ew eK
    have hh : X.A.in1.handled = none := I.ok.hd hc
    obtain ⟨its1, r1, c1, _⟩ := sqK_ct I q1
    obtain ⟨its2, r2, c2, _⟩ := sqK_ct I q2
    have zlt : z < s.heap.objs.size := Heap.lt_size hz
    have n1 := neK h1 c1
    have n2 := neK h2 c2
    refine wpAny_pyNext_zipD2_item S (drK hh b1 i1 l1 n1 its1.toArray) (drK hh b2 i2 l2 n2 its2.toArray) hz hTI hTO ⟨h1, c1⟩ ⟨h2, c2⟩ (by rw [List.size_toArray, ← r1.length]; exact g1) (by rw [List.size_toArray, ← r2.length]; exact g2) fun x1 x2 h' tk p1 p2 z' TO' st1 st2 hT hsz hk => ?_
    refine ⟨_, rfl, wpAny_letOwnedTupleGo_zip (s := { s with heap := h', toks := tk }) z' fun h'' z'' sb => ?_⟩
    obtain ⟨y1, e1, ry1⟩ := vget r1 p1
    obtain ⟨y2, e2, ry2⟩ := vget r2 p2
    have hT2 : h''.get? s.heap.objs.size = some { cls := .type "tuple", data := .seq #[x1, x2] } := (sb.2 _ (Nat.ne_of_gt zlt)).trans hT
    have new : ObjOk X.prog X.w (upd H s.heap.objs.size (.tup [y1, y2])) h'' s.heap.objs.size (.tup [y1, y2]) := ⟨by show 2 ≤ sizeLine; decide, [x1, x2], .cons ry1 (.cons ry2 .nil), ⟨_, hT2, rfl, _, rfl⟩⟩
    have I1 : L2.Inv X pins σ (upd H s.heap.objs.size (.tup [y1, y2])) { s with heap := h'', toks := tk } :=
      I.turnedNew (t' := tk) (ch := [z, TI, TO, i1, i2]) (fun c o hb q => (sb.2 c (fun q' => hb (by simp [q']))).trans (hk c o (fun q' => hb (by simp [q'])) (fun q' => hb (by simp [q'])) (fun q' => hb (by simp [q'])) (fun q' => hb (by simp [q'])) q)) hf (Nat.le_refl _) new
    refine ⟨.ref s.heap.objs.size, _, I1, rfl, ⟨_, y1, y2, rfl, I.hok.fresh (Nat.le_refl _), rfl, fun l hl => by rw [sqK_inj I hl q1]; exact e1, fun l hl => by rw [sqK_inj I hl q2]; exact e2⟩, ⟨z'', ?_, ⟨x1, x2, ?_⟩, ?_, ?_⟩, fun c hcm => ?_⟩
    · exact (sb.2 _ S.TIz).trans (hk _ _ S.TIz S.TITO S.TIi1 S.TIi2 hTI)
    · exact (sb.2 _ S.TOz).trans TO'
    · exact itK_at st1.1 fun o q => (sb.2 _ S.zi1.symm).trans q
    · exact itK_at st2.1 fun o q => (sb.2 _ S.zi2.symm).trans q
    · rw [upd_ne (Nat.ne_of_lt ?_)]
      · exact (hf c hcm).1
      · simp only [List.mem_cons, List.not_mem_nil, or_false] at hcm
        rcases hcm with rfl | rfl | rfl | rfl | rfl
        · exact zlt
        · exact Heap.lt_size hTI
        · exact Heap.lt_size hTO
        · obtain ⟨o, eo, _⟩ := itK_obj h1; exact Heap.lt_size eo
        · obtain ⟨o, eo, _⟩ := itK_obj h2; exact Heap.lt_size eo
  done := by
    intro X eP ew eK hc i pins s σ H E I hf ⟨hz, hTI, ⟨a1, a2, hTO⟩, h1, h2⟩ ⟨xs, ys, q1, q2, g1, g2, g3⟩
    subst eP ew eK
    have hh : X.A.in1.handled = none := I.ok.hd hc
    obtain ⟨its1, r1, c1, _⟩ := sqK_ct I q1
    obtain ⟨its2, r2, c2, _⟩ := sqK_ct I q2
    have n1 := neK h1 c1
    have n2 := neK h2 c2
    have l1' := r1.length
    have l2' := r2.length
    refine wpAny_pyNext_zipD2_end S (drK hh b1 i1 l1 n1 its1.toArray) (drK hh b2 i2 l2 n2 its2.toArray) hz hTI hTO ⟨h1, c1⟩ ⟨h2, c2⟩ (by rw [List.size_toArray]; omega) (by rw [List.size_toArray]; omega) (by rw [List.size_toArray, List.size_toArray]; omega) fun h' tk hk => ⟨rfl, ?_⟩
    exact I.turnedL (t' := tk) (ch := [z, TI, TO, i1, i2]) (fun c o hb q => hk c o (fun q' => hb (by simp [q'])) (fun q' => hb (by simp [q'])) (fun q' => hb (by simp [q'])) (fun q' => hb (by simp [q'])) q) hf
  self := fun A i s Q E st h => wpAny_pyIter_zip st.1 h
theorem turn_z3 {b1 b2 b3 : Bool} {l1 l2 l3 z TI TO i1 i2 i3 : Addr} (S : ZipSep3 z TI TO i1 i2 i3 [i1, l1] [i2, l2] [i3, l3]) :
    Turn P w K (.Tuple elts kk tpos) (ItZ3 K b1 b2 b3 l1 l2 l3) [z, TI, TO, i1, i2, i3] z (fun i h => IsZip h z TI TO .none ∧ IsTupOf3 h TI (.ref i1) (.ref i2) (.ref i3) ∧ (∃ a1 a2 a3, IsTupOf3 h TO a1 a2 a3) ∧ ItK b1 h i1 l1 i ∧ ItK b2 h i2 l2 i ∧ ItK b3 h i3 l3 i) where
  mem := by simp
  obj := fun i h ⟨hz, hTI, ⟨a1, a2, a3, hTO⟩, h1, h2, h3⟩ c hc => by
    simp only [List.mem_cons, List.not_mem_nil, or_false] at hc
    rcases hc with rfl | rfl | rfl | rfl | rfl | rfl
    · exact ⟨_, hz, fun v q => nomatch q⟩
    · exact ⟨_, hTI, fun v q => nomatch q⟩
    · exact ⟨_, hTO, fun v q => nomatch q⟩
    · exact itK_obj h1
    · exact itK_obj h2
    · exact itK_obj h3
  keep := fun i h h' ⟨hz, hTI, ⟨a1, a2, a3, hTO⟩, h1, h2, h3⟩ k => ⟨k z (by simp) _ hz, k TI (by simp) _ hTI, ⟨a1, a2, a3, k TO (by simp) _ hTO⟩, itK_at h1 fun o q => k i1 (by simp) o q, itK_at h2 fun o q => k i2 (by simp) o q, itK_at h3 fun o q => k i3 (by simp) o q⟩
  item := by
    intro X eP ew eK hc i pins s σ H E I hf ⟨hz, hTI, ⟨a1, a2, a3, hTO⟩, h1, h2, h3⟩ ⟨xs, ys, zs, q1, q2, q3, g1, g2, g4⟩
    subst eP ew eK
    have hh : X.A.in1.handled = none := I.ok.hd hc
    obtain ⟨its1, r1, c1, _⟩ := sqK_ct I q1
    obtain ⟨its2, r2, c2, _⟩ := sqK_ct I q2
    obtain ⟨its3, r3, c3, _⟩ := sqK_ct I q3
    have zlt : z < s.heap.objs.size := Heap.lt_size hz
    have n1 := neK h1 c1
    have n2 := neK h2 c2
    have n3 := neK h3 c3
    refine wpAny_pyNext_zipD3_item S (drK hh b1 i1 l1 n1 its1.toArray) (drK hh b2 i2 l2 n2 its2.toArray) (drK hh b3 i3 l3 n3 its3.toArray) hz hTI hTO ⟨h1, c1⟩ ⟨h2, c2⟩ ⟨h3, c3⟩ (by rw [List.size_toArray, ← r1.length]; exact g1) (by rw [List.size_toArray, ← r2.length]; exact g2) (by rw [List.size_toArray, ← r3.length]; exact g4) fun x1 x2 x3 h' tk p1 p2 p3 z' TO' st1 st2 st3 hT hsz hk => ?_
    refine ⟨_, rfl, wpAny_letOwnedTupleGo_zip (s := { s with heap := h', toks := tk }) z' fun h'' z'' sb => ?_⟩
    obtain ⟨y1, e1, ry1⟩ := vget r1 p1
    obtain ⟨y2, e2, ry2⟩ := vget r2 p2
    obtain ⟨y3, e3, ry3⟩ := vget r3 p3
    have hT2 : h''.get? s.heap.objs.size = some { cls := .type "tuple", data := .seq #[x1, x2, x3] } := (sb.2 _ (Nat.ne_of_gt zlt)).trans hT
    have new : ObjOk X.prog X.w (upd H s.heap.objs.size (.tup [y1, y2, y3])) h'' s.heap.objs.size (.tup [y1, y2, y3]) := ⟨by show 3 ≤ sizeLine; decide, [x1, x2, x3], .cons ry1 (.cons ry2 (.cons ry3 .nil)), ⟨_, hT2, rfl, _, rfl⟩⟩
    have I1 : L2.Inv X pins σ (upd H s.heap.objs.size (.tup [y1, y2, y3])) { s with heap := h'', toks := tk } :=
      I.turnedNew (t' := tk) (ch := [z, TI, TO, i1, i2, i3]) (fun c o hb q => (sb.2 c (fun q' => hb (by simp [q']))).trans (hk c o (fun q' => hb (by simp [q'])) (fun q' => hb (by simp [q'])) (fun q' => hb (by simp [q'])) (fun q' => hb (by simp [q'])) (fun q' => hb (by simp [q'])) q)) hf (Nat.le_refl _) new
    refine ⟨.ref s.heap.objs.size, _, I1, rfl, ⟨_, y1, y2, y3, rfl, I.hok.fresh (Nat.le_refl _), rfl, fun l hl => by rw [sqK_inj I hl q1]; exact e1, fun l hl => by rw [sqK_inj I hl q2]; exact e2, fun l hl => by rw [sqK_inj I hl q3]; exact e3⟩, ⟨z'', ?_, ⟨x1, x2, x3, ?_⟩, ?_, ?_, ?_⟩, fun c hcm => ?_⟩
    · exact (sb.2 _ S.TIz).trans (hk _ _ S.TIz S.TITO S.TIi1 S.TIi2 S.TIi3 hTI)
    · exact (sb.2 _ S.TOz).trans TO'
    · exact itK_at st1.1 fun o q => (sb.2 _ S.zi1.symm).trans q
    · exact itK_at st2.1 fun o q => (sb.2 _ S.zi2.symm).trans q
    · exact itK_at st3.1 fun o q => (sb.2 _ S.zi3.symm).trans q
    · rw [upd_ne (Nat.ne_of_lt ?_)]
      · exact (hf c hcm).1
      · simp only [List.mem_cons, List.not_mem_nil, or_false] at hcm
        rcases hcm with rfl | rfl | rfl | rfl | rfl | rfl
        · exact zlt
        · exact Heap.lt_size hTI
        · exact Heap.lt_size hTO
        · obtain ⟨o, eo, _⟩ := itK_obj h1; exact Heap.lt_size eo
        · obtain ⟨o, eo, _⟩ := itK_obj h2; exact Heap.lt_size eo
        · obtain ⟨o, eo, _⟩ := itK_obj h3; exact Heap.lt_size eo
  done := by
    intro X eP ew eK hc i pins s σ H E I hf ⟨hz, hTI, ⟨a1, a2, a3, hTO⟩, h1, h2, h3⟩ ⟨xs, ys, zs, q1, q2, q3, g1, g2, g4, g3⟩
    subst eP ew eK
    have hh : X.A.in1.handled = none := I.ok.hd hc
    obtain ⟨its1, r1, c1, _⟩ := sqK_ct I q1
    obtain ⟨its2, r2, c2, _⟩ := sqK_ct I q2
    obtain ⟨its3, r3, c3, _⟩ := sqK_ct I q3
    have n1 := neK h1 c1
    have n2 := neK h2 c2
    have n3 := neK h3 c3
    have l1' := r1.length
    have l2' := r2.length
    have l3' := r3.length
    refine wpAny_pyNext_zipD3_end S (drK hh b1 i1 l1 n1 its1.toArray) (drK hh b2 i2 l2 n2 its2.toArray) (drK hh b3 i3 l3 n3 its3.toArray) hz hTI hTO ⟨h1, c1⟩ ⟨h2, c2⟩ ⟨h3, c3⟩ (by rw [List.size_toArray]; omega) (by rw [List.size_toArray]; omega) (by rw [List.size_toArray]; omega) (by rw [List.size_toArray, List.size_toArray, List.size_toArray]; omega) fun h' tk hk => ⟨rfl, ?_⟩
    exact I.turnedL (t' := tk) (ch := [z, TI, TO, i1, i2, i3]) (fun c o hb q => hk c o (fun q' => hb (by simp [q'])) (fun q' => hb (by simp [q'])) (fun q' => hb (by simp [q'])) (fun q' => hb (by simp [q'])) (fun q' => hb (by simp [q'])) q) hf
  self := fun A i s Q E st h => wpAny_pyIter_zip st.1 h
/-! ### enumerate -/
end
def ItN (K : PySem.W.Frag) (b : Bool) (l : Addr) : It where
  go := fun i H => ∃ xs, SqK K b H l xs ∧ i < xs.length
  yld := fun i H v H' => ∃ T x, v = .ref T ∧ H T = none ∧ H' = upd H T (.tup [.int (i : Nat), x]) ∧ ∀ xs, SqK K b H l xs → xs[i]? = some x
  stop := fun i H => ∃ xs, SqK K b H l xs ∧ i = xs.length
section
variable {P : Program} {w : World} {K : PySem.W.Frag} {elts : List Expr} {kk : Nat} {tpos : Pos}
theorem turn_n {b : Bool} {l e it : Addr} (hei : e ≠ it) (hel : e ≠ l) :
    Turn P w K (.Tuple elts kk tpos) (ItN K b l) [e, it] e (fun i h => (∃ old, IsEnum h e it i old) ∧ ItK b h it l i) where
  mem := by simp
  obj := fun i h ⟨⟨old, he⟩, h1⟩ c hc => by
    simp only [List.mem_cons, List.not_mem_nil, or_false] at hc
    rcases hc with rfl | rfl
    · exact ⟨_, he, fun v q => nomatch q⟩
    · exact itK_obj h1
  keep := fun i h h' ⟨⟨old, he⟩, h1⟩ k => ⟨⟨old, k e (by simp) _ he⟩, itK_at h1 fun o q => k it (by simp) o q⟩
  item := by
    intro X eP ew eK hc i pins s σ H E I hf ⟨⟨old, he⟩, h1⟩ ⟨xs, q1, g1⟩
    subst eP ew eK
    have hh : X.A.in1.handled = none := I.ok.hd hc
    obtain ⟨its1, r1, c1, _⟩ := sqK_ct I q1
    have elt : e < s.heap.objs.size := Heap.lt_size he
    refine wpAny_pyNext_enum_itemD (drK hh b it l (neK h1 c1) its1.toArray) he ⟨h1, c1⟩ (by rw [List.size_toArray, ← r1.length]; exact g1) hei (by simp [hei, hel]) fun x h' tk p1 eo st1 hT hsz hk => ?_
    refine ⟨_, rfl, wpAny_letOwnedTupleGo_enum (s := { s with heap := h', toks := tk + 1 }) eo fun h'' he'' sb => ?_⟩
    obtain ⟨y, e1, ry⟩ := vget r1 p1
    have hT2 : h''.get? s.heap.objs.size = some { cls := .type "tuple", data := .seq #[.int i tk, x] } := (sb.2 _ (Nat.ne_of_gt elt)).trans hT
    have new : ObjOk X.prog X.w (upd H s.heap.objs.size (.tup [.int (i : Nat), y])) h'' s.heap.objs.size (.tup [.int (i : Nat), y]) := ⟨by show 2 ≤ sizeLine; decide, [.int i tk, x], .cons ⟨_, rfl⟩ (.cons ry .nil), ⟨_, hT2, rfl, _, rfl⟩⟩
    have I1 : L2.Inv X pins σ (upd H s.heap.objs.size (.tup [.int (i : Nat), y])) { s with heap := h'', toks := tk + 1 } :=
      I.turnedNew (t' := tk + 1) (ch := [e, it]) (fun c o hb q => (sb.2 c (fun q' => hb (by simp [q']))).trans (hk c o (fun q' => hb (by simp [q'])) (fun q' => hb (by simp [q'])) q)) hf (Nat.le_refl _) new
    refine ⟨.ref s.heap.objs.size, _, I1, rfl, ⟨_, y, rfl, I.hok.fresh (Nat.le_refl _), rfl, fun l hl => by rw [sqK_inj I hl q1]; exact e1⟩, ⟨⟨x, by simpa using he''⟩, itK_at st1.1 fun o q => (sb.2 _ hei.symm).trans q⟩, fun c hcm => ?_⟩
    rw [upd_ne (Nat.ne_of_lt ?_)]
    · exact (hf c hcm).1
    · simp only [List.mem_cons, List.not_mem_nil, or_false] at hcm
      rcases hcm with rfl | rfl
      · exact elt
      · obtain ⟨o, eo, _⟩ := itK_obj h1; exact Heap.lt_size eo
  done := by
    intro X eP ew eK hc i pins s σ H E I hf ⟨⟨old, he⟩, h1⟩ ⟨xs, q1, g1⟩
    subst eP ew eK
    have hh : X.A.in1.handled = none := I.ok.hd hc
    obtain ⟨its1, r1, c1, _⟩ := sqK_ct I q1
    obtain ⟨f0, f1, _, f3, f4, f5⟩ := hf it (by simp)
    have sz : its1.toArray.size = i := by rw [List.size_toArray, ← r1.length, g1]
    refine wpAny_pyNext_enum_endD (drK hh b it l (neK h1 c1) its1.toArray) he (by rw [sz]; exact ⟨h1, c1⟩) fun h' eb => ⟨rfl, I.turned (t' := s.toks) (fun c o hb q => eb c o hb q) f0 f1 f3 f4 f5⟩
  self := fun A i s Q E ⟨⟨_, he⟩, _⟩ h => wpAny_pyIter_enum he h
end
end Py

namespace Py
open PySem PySem.Spec PyProof.Rows L2
def iZ2 (K : PySem.W.Frag) (ta : TA) : TI := fun σ H R => ta σ H fun vs H1 => ∃ b1 b2 l1 l2 xs ys, vs = [.ref l1, .ref l2] ∧ SqK K b1 H1 l1 xs ∧ SqK K b2 H1 l2 ys ∧ R (ItZ2 K b1 b2 l1 l2) H1
def iZ3 (K : PySem.W.Frag) (ta : TA) : TI := fun σ H R => ta σ H fun vs H1 => ∃ b1 b2 b3 l1 l2 l3 xs ys zs, vs = [.ref l1, .ref l2, .ref l3] ∧ SqK K b1 H1 l1 xs ∧ SqK K b2 H1 l2 ys ∧ SqK K b3 H1 l3 zs ∧ R (ItZ3 K b1 b2 b3 l1 l2 l3) H1
def iN1 (K : PySem.W.Frag) (ta : TA) : TI := fun σ H R => ta σ H fun vs H1 => ∃ b l xs, vs = [.ref l] ∧ SqK K b H1 l xs ∧ R (ItN K b l) H1
theorem meets_enumB {v : Value} {o : PySem.Obj} {Hh : Heap → Prop} (B : Begins v o Hh) :
    Meets (Builtin.«enumerate.__new__» ⟨[.type "enumerate", v], []⟩) (fun _ R s => Hh s.heap ∧
      R (.ok (.ret (.ref (s.heap.push o).objs.size))) { s with heap := (s.heap.push o).push { cls := .type "enumerate", data := .fields #[.none, .bool false, .ref s.heap.objs.size, rawInt 0, .none, .none] } }) :=
  .of_wp fun prog w A R s h => by
    obtain ⟨hp, g, d, tk, os⟩ := s
    obtain ⟨h1, h⟩ := h
    have hsub := sub_enumerate
    have q1 : ∀ {A' : Around} {E : Value → Shared → Prop} {Q : Value → Shared → Prop}, Q (.ref hp.objs.size) ⟨hp.push o, g, d, tk, os⟩ → wpAny (model prog w) A' (pyIter v) Q E ⟨hp, g, d, tk, os⟩ := fun q => B.iter prog w _ _ ⟨hp, g, d, tk, os⟩ _ h1 q
    wp_walk using q1
    refine wpAny_stack_any fun st => wpAny_pure ?_
    split
    · rename_i c _ _ _ _ _
      cases (c == Value.type "enumerate") <;> (wp_walk using q1; exact ⟨_, rfl, h⟩)
    · wp_walk using q1
      exact ⟨_, rfl, h⟩
theorem enumB {prog : Program} {w : World} {A : Around} {E : Value → Shared → Prop} {s : Shared} {v : Value} {o : PySem.Obj} {Hh : Heap → Prop} {Q : Value → Shared → Prop} (B : Begins v o Hh) (h1 : Hh s.heap)
    (h : ∀ h', IsEnum h' (s.heap.objs.size + 1) s.heap.objs.size 0 .none → h'.get? s.heap.objs.size = some o → (∀ b o, s.heap.get? b = some o → h'.get? b = some o) → Q (.ref (s.heap.objs.size + 1)) { s with heap := h' }) :
    wpAny (model prog w) A (call (.type "enumerate") [v]) Q E s := by
  refine callType_new PySem.F.called_enumerate (by decide) (PySem.F.typeCall_enumerate_1 _) (PySem.F.newCall_enumerate_1 _) (fun obj => PySem.F.args_object_init_2 obj _) PySem.F.entry_enumerate_new (meets_enumB B) ⟨h1, ?_⟩
  have hz : (s.heap.push o).objs.size = s.heap.objs.size + 1 := Heap.size_push ..
  show _ ∧ _
  rw [hz]
  have he := Heap.get?_push_size (s.heap.push o) (o := { cls := .type "enumerate", data := .fields #[.none, .bool false, .ref s.heap.objs.size, rawInt 0, .none, .none] }) rfl
  rw [hz] at he
  exact ⟨⟨_, he, rfl⟩, h _ he (Heap.get?_push_of_some _ (Heap.get?_push_size _ B.free)) fun b o x => Heap.get?_push_of_some _ (Heap.get?_push_of_some _ x)⟩
section
variable {X : Cx} {e e2 e3 : Expr} {ta : TA} {p pos tpos : Pos} {elts : List Expr} {kk : Nat}
theorem fresh_fp {pins : List (Addr × PySem.Obj)} {σ : L2.St} {H : Hp} {s : Shared} {N : Nat} (I : L2.Inv X pins σ H s) (hN : N = s.heap.objs.size) {l : List Addr} (hl : ∀ b ∈ l, N ≤ b) : ∀ b ∈ l, FpOk X pins H b := fun b hb => I.fpOk (hN ▸ hl b hb) (I.hok.fresh (hN ▸ hl b hb))
theorem pi_z2 (hg : Gl X "zip") (hm : X.mg "zip" = none) (ha : PA X [e, e2] ta) (hs : starEach [e, e2] X.env = (false, eval e X.env) :: starEach [e2] X.env := by rfl) (hpl : (backTo pos (starEach [e2] X.env)).any (·.1) = false := by rfl) :
    PI X (.Tuple elts kk tpos) (.Call (.Name "zip" p) [e, e2] [] pos) (iZ2 X.K ta) := by
  refine ⟨fun pins s σ H R I h => Call_ (ld_blt I hg hm PyProof.Rows.boot_zip (PyProof.Rows.callWith_type1 (thn (ha.run pos pins s σ H _ I h) ?_) hs hpl))⟩
  rintro us s1 ⟨vs, H1, I1, r1, b1, b2, l1, l2, xs, ys, rfl, q1, q2, q⟩
  match us, r1 with
  | [u1, u2], .cons ra (.cons rb .nil) =>
    cases (show u1 = Value.ref l1 from ra)
    cases (show u2 = Value.ref l2 from rb)
    obtain ⟨its1, v1, c1, lt1⟩ := sqK_ct I1 q1
    obtain ⟨its2, v2, c2, lt2⟩ := sqK_ct I1 q2
    refine zip_begins2 (beK b1 l1 its1.toArray) (beK b2 l2 its2.toArray) c1 c2 fun h' hz hTI hTO h1 h2 hsz hk => wpAny_pyIter_zip hz ?_
    refine ⟨_, [s1.heap.objs.size + 4, s1.heap.objs.size + 2, s1.heap.objs.size + 3, s1.heap.objs.size, s1.heap.objs.size + 1], _, _, H1, rfl, I1.kept (t' := s1.toks) hk, turn_z2 (zip_sep2 (fp1 := [l1]) (fp2 := [l2]) (by simpa using lt1) (by simpa using lt2)), ⟨hz, hTI, ⟨_, _, hTO⟩, itK_0 h1, itK_0 h2⟩, fresh_fp I1 rfl fun b hb => ?_, q⟩
    simp only [List.mem_cons, List.not_mem_nil, or_false] at hb
    rcases hb with rfl | rfl | rfl | rfl | rfl <;> omega
theorem pi_z3 (hg : Gl X "zip") (hm : X.mg "zip" = none) (ha : PA X [e, e2, e3] ta) (hs : starEach [e, e2, e3] X.env = (false, eval e X.env) :: starEach [e2, e3] X.env := by rfl) (hpl : (backTo pos (starEach [e2, e3] X.env)).any (·.1) = false := by rfl) :
    PI X (.Tuple elts kk tpos) (.Call (.Name "zip" p) [e, e2, e3] [] pos) (iZ3 X.K ta) := by
  refine ⟨fun pins s σ H R I h => Call_ (ld_blt I hg hm PyProof.Rows.boot_zip (PyProof.Rows.callWith_type1 (thn (ha.run pos pins s σ H _ I h) ?_) hs hpl))⟩
  rintro us s1 ⟨vs, H1, I1, r1, b1, b2, b3, l1, l2, l3, xs, ys, zs, rfl, q1, q2, q3, q⟩
  match us, r1 with
  | [u1, u2, u3], .cons ra (.cons rb (.cons rc .nil)) =>
    cases (show u1 = Value.ref l1 from ra)
    cases (show u2 = Value.ref l2 from rb)
    cases (show u3 = Value.ref l3 from rc)
    obtain ⟨its1, v1, c1, lt1⟩ := sqK_ct I1 q1
    obtain ⟨its2, v2, c2, lt2⟩ := sqK_ct I1 q2
    obtain ⟨its3, v3, c3, lt3⟩ := sqK_ct I1 q3
    refine zip_begins3 (beK b1 l1 its1.toArray) (beK b2 l2 its2.toArray) (beK b3 l3 its3.toArray) c1 c2 c3 fun h' hz hTI hTO h1 h2 h3 hsz hk => wpAny_pyIter_zip hz ?_
    refine ⟨_, [s1.heap.objs.size + 5, s1.heap.objs.size + 3, s1.heap.objs.size + 4, s1.heap.objs.size, s1.heap.objs.size + 1, s1.heap.objs.size + 2], _, _, H1, rfl, I1.kept (t' := s1.toks) hk, turn_z3 (zip_sep3 (fp1 := [l1]) (fp2 := [l2]) (fp3 := [l3]) (by simpa using lt1) (by simpa using lt2) (by simpa using lt3)), ⟨hz, hTI, ⟨_, _, _, hTO⟩, itK_0 h1, itK_0 h2, itK_0 h3⟩, fresh_fp I1 rfl fun b hb => ?_, q⟩
    simp only [List.mem_cons, List.not_mem_nil, or_false] at hb
    rcases hb with rfl | rfl | rfl | rfl | rfl | rfl <;> omega
theorem pi_n1 (hg : Gl X "enumerate") (hm : X.mg "enumerate" = none) (ha : PA X [e] ta) (hs : starEach [e] X.env = [(false, eval e X.env)] := by rfl) : PI X (.Tuple elts kk tpos) (.Call (.Name "enumerate" p) [e] [] pos) (iN1 X.K ta) := by
  refine ⟨fun pins s σ H R I h => Call_ (ld_blt I hg hm boot_enumerate (PyProof.Rows.callWith_type1 (thn (ha.run pos pins s σ H _ I h) ?_) hs rfl))⟩
  rintro us s1 ⟨vs, H1, I1, r1, b, l, xs, rfl, q1, q⟩
  match us, r1 with
  | [u1], .cons ra .nil =>
    cases (show u1 = Value.ref l from ra)
    obtain ⟨its1, v1, c1, lt1⟩ := sqK_ct I1 q1
    refine enumB (beK b l its1.toArray) c1 fun h' he h1 hk => wpAny_pyIter_enum he ?_
    refine ⟨_, [s1.heap.objs.size + 1, s1.heap.objs.size], _, _, H1, rfl, I1.kept (t' := s1.toks) hk, turn_n (Nat.succ_ne_self _) (Nat.ne_of_gt (Nat.lt_succ_of_lt lt1)), ⟨⟨_, he⟩, itK_0 h1⟩, fresh_fp I1 rfl fun b hb => ?_, q⟩
    simp only [List.mem_cons, List.not_mem_nil, or_false] at hb
    rcases hb with rfl | rfl <;> omega
end
/-! ### in the layer: sequences that never change -/
def seqF : Val → Option (Bool × List Val)
  | .tup vs => some (true, vs)
  | .lst vs => some (false, vs)
  | _ => none
theorem sqK_mono {K : PySem.W.Frag} {b : Bool} {F F' : Hp} {l : Addr} {xs : List V} (hF : ∀ c o, F c = some o → F' c = some o) (h : SqK K b F l xs) : SqK K b F' l xs := by
  cases b with
  | true => exact sqT_mono hF h
  | false => exact sqL_mono hF h
theorem seqF_ok {T : Tb} {K : PySem.W.Frag} {io : Nat → Addr} {n : Nat} {F : Hp} {v : Val} {x : V} {b : Bool} {vs : List Val} (r : VR T K io n F v x) (e : seqF v = some (b, vs)) : ∃ l xs, x = .ref l ∧ SqK K b F l xs ∧ VRs T K io n F vs xs := by
  cases r with
  | tup q r => cases e; exact ⟨_, _, rfl, q, r⟩
  | lst q r => cases e; exact ⟨_, _, rfl, q, r⟩
  | _ => cases e
def zip3 : List Val → List Val → List Val → List Val
  | a :: as, b :: bs, c :: cs => .tup [a, b, c] :: zip3 as bs cs
  | _, _, _ => []
theorem zip3_get : ∀ {as bs cs : List Val} {i : Nat}, (zip3 as bs cs)[i]? = (match as[i]?, bs[i]?, cs[i]? with
    | some a, some b, some c => some (.tup [a, b, c])
    | _, _, _ => none)
  | [], _, _, i => by simp [zip3]
  | _ :: _, [], _, i => by
    cases i <;> simp [zip3]
  | _ :: _, _ :: _, [], i => by
    cases i with
    | zero => simp [zip3]
    | succ i => simp [zip3]
  | a :: as, b :: bs, c :: cs, 0 => by simp [zip3]
  | a :: as, b :: bs, c :: cs, i + 1 => by simpa [zip3] using zip3_get (as := as) (bs := bs) (cs := cs) (i := i)
theorem zip3_len : ∀ {as bs cs : List Val}, (zip3 as bs cs).length = min (min as.length bs.length) cs.length
  | [], _, _ => by simp [zip3]
  | _ :: _, [], _ => by simp [zip3]
  | _ :: _, _ :: _, [] => by simp [zip3]
  | a :: as, b :: bs, c :: cs => by simp [zip3, zip3_len (as := as)]
def enumF : Nat → List Val → List Val
  | _, [] => []
  | i, v :: vs => .tup [.int i, v] :: enumF (i + 1) vs
theorem enumF_get : ∀ {vs : List Val} {k i : Nat}, (enumF k vs)[i]? = (vs[i]?).map fun v => .tup [.int ((k + i : Nat) : Int), v]
  | [], k, i => by simp [enumF]
  | v :: vs, k, 0 => by simp [enumF]
  | v :: vs, k, i + 1 => by
    have := enumF_get (vs := vs) (k := k + 1) (i := i)
    simp only [enumF, List.getElem?_cons_succ, this]
    rw [show k + 1 + i = k + (i + 1) by omega]
theorem enumF_len : ∀ {vs : List Val} {k : Nat}, (enumF k vs).length = vs.length
  | [], _ => rfl
  | v :: vs, k => by simp [enumF, enumF_len (vs := vs)]
section
variable {T : Tb} {X : Cx} {W : WX} {e e2 e3 : Expr} {fl : Lx} {p pos tpos : Pos} {elts : List Expr} {kk : Nat}
def xIZ2 (l : Lx) : Ix := fun sg h => match l sg h with
  | .ok [u, v] h1 => (match seqF u, seqF v with
    | some (_, xs), some (_, ys) => .ok (.items (prs xs ys)) h1
    | _, _ => .bad)
  | .ok _ _ => .bad
  | .exc c fs h1 => .exc c fs h1
  | .bad => .bad
def xIZ3 (l : Lx) : Ix := fun sg h => match l sg h with
  | .ok [u, v, w] h1 => (match seqF u, seqF v, seqF w with
    | some (_, xs), some (_, ys), some (_, zs) => .ok (.items (zip3 xs ys zs)) h1
    | _, _, _ => .bad)
  | .ok _ _ => .bad
  | .exc c fs h1 => .exc c fs h1
  | .bad => .bad
def xIN (l : Lx) : Ix := fun sg h => match l sg h with
  | .ok [u] h1 => (match seqF u with
    | some (_, xs) => .ok (.items (enumF 0 xs)) h1
    | _ => .bad)
  | .ok _ _ => .bad
  | .exc c fs h1 => .exc c fs h1
  | .bad => .bad
theorem get_some {α : Type} {l : List α} {i : Nat} (h : i < l.length) : ∃ a, l[i]? = some a := ⟨l[i], List.getElem?_eq_getElem h⟩
theorem VRs.at {K : PySem.W.Frag} {io : Nat → Addr} {n : Nat} {F : Hp} {vs : List Val} {xs : List V} {i : Nat} {v : Val} {x : V} (r : VRs T K io n F vs xs) (ev : vs[i]? = some v) (ex : xs[i]? = some x) : VR T K io n F v x := by
  obtain ⟨y, e, q⟩ := r.get ev
  rw [ex] at e; cases e; exact q
theorem ji_zip2 (hm : X.mg "zip" = none) (ha : JA T X W [e, e2] fl) (hg : Gl X "zip" := by rfl) (hs : starEach [e, e2] X.env = (false, eval e X.env) :: starEach [e2] X.env := by rfl) (hpl : (backTo pos (starEach [e2] X.env)).any (·.1) = false := by rfl) :
    JI T X W (.Tuple elts kk tpos) (.Call (.Name "zip" p) [e, e2] [] pos) (xIZ2 fl) := by
  refine pi_imp (pi_z2 hg hm ha hs hpl) fun σ H R ⟨io, h, F, sg, sr, rs, w⟩ => ⟨io, h, F, sg, sr, rs, ?_⟩
  unfold xIZ2 at w
  cases ef : fl sg h with
  | bad => rw [ef] at w; exact w
  | exc c fs h1 => rw [ef] at w; exact w
  | ok vs h1 =>
    rw [ef] at w
    intro io1 F1 H1 zs st1 sr1 vr
    match vs, vr, w with
    | [u, v], .cons ru (.cons rv .nil), w =>
      dsimp only at w
      cases eu : seqF u with
      | none => rw [eu] at w; exact w.elim
      | some pu =>
        cases ev : seqF v with
        | none => rw [eu, ev] at w; exact w.elim
        | some pv =>
          obtain ⟨b1, xs⟩ := pu
          obtain ⟨b2, ys⟩ := pv
          rw [eu, ev] at w
          obtain ⟨l1, x1, rfl, s1, r1⟩ := seqF_ok ru eu
          obtain ⟨l2, x2, rfl, s2, r2⟩ := seqF_ok rv ev
          refine ⟨b1, b2, l1, l2, x1, x2, rfl, sqK_mono sr1.sub s1, sqK_mono sr1.sub s2, w io1 F1 H1 _ st1 sr1 fun i io2 h2 F2 H2 sr2 hn he hF hi => ?_⟩
          have t1 : SqK X.K b1 H2 l1 x1 := sqK_mono sr2.sub (sqK_mono hF s1)
          have t2 : SqK X.K b2 H2 l2 x2 := sqK_mono sr2.sub (sqK_mono hF s2)
          have e1 := r1.length
          have e2 := r2.length
          have hlen : (prs xs ys).length = min xs.length ys.length := by unfold prs; simp
          by_cases hlt : i < (prs xs ys).length
          · obtain ⟨a, ea⟩ := get_some (l := xs) (i := i) (by omega)
            obtain ⟨c, ec⟩ := get_some (l := ys) (i := i) (by omega)
            have ep : (prs xs ys)[i]? = some (.tup [a, c]) := by unfold prs; rw [List.getElem?_zipWith, ea, ec]
            rw [ep]
            refine ⟨⟨x1, x2, t1, t2, by omega, by omega⟩, fun z H' ⟨A, x, y, ez, hA, eH, f1, f2⟩ => ?_⟩
            subst ez eH
            have va := (r1.mono hn he hF).at ea (f1 _ t1)
            have vc := (r2.mono hn he hF).at ec (f2 _ t2)
            exact ⟨_, sr2.allocStep hA _, sr2.alloc hA _, .tup (.inl (.inl upd_same)) ((VRs.cons va (.cons vc .nil)).step (sr2.allocStep hA (.tup [x, y])))⟩
          · rw [List.getElem?_eq_none (by omega)]
            exact ⟨x1, x2, t1, t2, by omega, by omega, by omega⟩
    | [], _, w => exact w.elim
    | [_], _, w => exact w.elim
    | _ :: _ :: _ :: _, _, w => exact w.elim
theorem ji_zip3 (hm : X.mg "zip" = none) (ha : JA T X W [e, e2, e3] fl) (hg : Gl X "zip" := by rfl) (hs : starEach [e, e2, e3] X.env = (false, eval e X.env) :: starEach [e2, e3] X.env := by rfl) (hpl : (backTo pos (starEach [e2, e3] X.env)).any (·.1) = false := by rfl) :
    JI T X W (.Tuple elts kk tpos) (.Call (.Name "zip" p) [e, e2, e3] [] pos) (xIZ3 fl) := by
  refine pi_imp (pi_z3 hg hm ha hs hpl) fun σ H R ⟨io, h, F, sg, sr, rs, w⟩ => ⟨io, h, F, sg, sr, rs, ?_⟩
  unfold xIZ3 at w
  cases ef : fl sg h with
  | bad => rw [ef] at w; exact w
  | exc c fs h1 => rw [ef] at w; exact w
  | ok vs h1 =>
    rw [ef] at w
    intro io1 F1 H1 zs st1 sr1 vr
    match vs, vr, w with
    | [u, v, q], .cons ru (.cons rv (.cons rq .nil)), w =>
      dsimp only at w
      cases eu : seqF u with
      | none => rw [eu] at w; exact w.elim
      | some pu =>
        cases ev : seqF v with
        | none => rw [eu, ev] at w; exact w.elim
        | some pv =>
          cases eq : seqF q with
          | none => rw [eu, ev, eq] at w; exact w.elim
          | some pq =>
            obtain ⟨b1, xs⟩ := pu
            obtain ⟨b2, ys⟩ := pv
            obtain ⟨b3, us⟩ := pq
            rw [eu, ev, eq] at w
            obtain ⟨l1, x1, rfl, s1, r1⟩ := seqF_ok ru eu
            obtain ⟨l2, x2, rfl, s2, r2⟩ := seqF_ok rv ev
            obtain ⟨l3, x3, rfl, s3, r3⟩ := seqF_ok rq eq
            refine ⟨b1, b2, b3, l1, l2, l3, x1, x2, x3, rfl, sqK_mono sr1.sub s1, sqK_mono sr1.sub s2, sqK_mono sr1.sub s3, w io1 F1 H1 _ st1 sr1 fun i io2 h2 F2 H2 sr2 hn he hF hi => ?_⟩
            have t1 : SqK X.K b1 H2 l1 x1 := sqK_mono sr2.sub (sqK_mono hF s1)
            have t2 : SqK X.K b2 H2 l2 x2 := sqK_mono sr2.sub (sqK_mono hF s2)
            have t3 : SqK X.K b3 H2 l3 x3 := sqK_mono sr2.sub (sqK_mono hF s3)
            have e1 := r1.length
            have e2 := r2.length
            have e3 := r3.length
            have hlen := zip3_len (as := xs) (bs := ys) (cs := us)
            by_cases hlt : i < (zip3 xs ys us).length
            · obtain ⟨a, ea⟩ := get_some (l := xs) (i := i) (by omega)
              obtain ⟨c, ec⟩ := get_some (l := ys) (i := i) (by omega)
              obtain ⟨d, ed⟩ := get_some (l := us) (i := i) (by omega)
              have ep : (zip3 xs ys us)[i]? = some (.tup [a, c, d]) := by rw [zip3_get, ea, ec, ed]
              rw [ep]
              refine ⟨⟨x1, x2, x3, t1, t2, t3, by omega, by omega, by omega⟩, fun z H' ⟨A, x, y, z', ez, hA, eH, f1, f2, f3⟩ => ?_⟩
              subst ez eH
              have va := (r1.mono hn he hF).at ea (f1 _ t1)
              have vc := (r2.mono hn he hF).at ec (f2 _ t2)
              have vd := (r3.mono hn he hF).at ed (f3 _ t3)
              exact ⟨_, sr2.allocStep hA _, sr2.alloc hA _, .tup (.inl (.inl upd_same)) ((VRs.cons va (.cons vc (.cons vd .nil))).step (sr2.allocStep hA (.tup [x, y, z'])))⟩
            · rw [List.getElem?_eq_none (by omega)]
              exact ⟨x1, x2, x3, t1, t2, t3, by omega, by omega, by omega, by omega⟩
    | [], _, w => exact w.elim
    | [_], _, w => exact w.elim
    | [_, _], _, w => exact w.elim
    | _ :: _ :: _ :: _ :: _, _, w => exact w.elim
theorem ji_enum (hm : X.mg "enumerate" = none) (ha : JA T X W [e] fl) (hg : Gl X "enumerate" := by rfl) (hs : starEach [e] X.env = [(false, eval e X.env)] := by rfl) : JI T X W (.Tuple elts kk tpos) (.Call (.Name "enumerate" p) [e] [] pos) (xIN fl) := by
  refine pi_imp (pi_n1 hg hm ha hs) fun σ H R ⟨io, h, F, sg, sr, rs, w⟩ => ⟨io, h, F, sg, sr, rs, ?_⟩
  unfold xIN at w
  cases ef : fl sg h with
  | bad => rw [ef] at w; exact w
  | exc c fs h1 => rw [ef] at w; exact w
  | ok vs h1 =>
    rw [ef] at w
    intro io1 F1 H1 zs st1 sr1 vr
    match vs, vr, w with
    | [u], .cons ru .nil, w =>
      dsimp only at w
      cases eu : seqF u with
      | none => rw [eu] at w; exact w.elim
      | some pu =>
        obtain ⟨b1, xs⟩ := pu
        rw [eu] at w
        obtain ⟨l1, x1, rfl, s1, r1⟩ := seqF_ok ru eu
        refine ⟨b1, l1, x1, rfl, sqK_mono sr1.sub s1, w io1 F1 H1 _ st1 sr1 fun i io2 h2 F2 H2 sr2 hn he hF hi => ?_⟩
        have t1 : SqK X.K b1 H2 l1 x1 := sqK_mono sr2.sub (sqK_mono hF s1)
        have e1 := r1.length
        rw [enumF_len] at hi
        by_cases hlt : i < xs.length
        · obtain ⟨a, ea⟩ := get_some hlt
          have ep : (enumF 0 xs)[i]? = some (.tup [.int (i : Int), a]) := by rw [enumF_get, ea]; simp
          rw [ep]
          refine ⟨⟨x1, t1, by omega⟩, fun z H' ⟨A, x, ez, hA, eH, f1⟩ => ?_⟩
          subst ez eH
          have va := (r1.mono hn he hF).at ea (f1 _ t1)
          exact ⟨_, sr2.allocStep hA _, sr2.alloc hA _, .tup (.inl (.inl upd_same)) ((VRs.cons (.int _) (.cons va .nil)).step (sr2.allocStep hA (.tup [.int (i : Nat), x])))⟩
        · rw [List.getElem?_eq_none (by rw [enumF_len]; omega)]
          exact ⟨x1, t1, by omega⟩
    | [], _, w => exact w.elim
    | _ :: _ :: _, _, w => exact w.elim
end
end Py

namespace Py
open PySem PySem.Spec PyProof.Rows L2
/-! ### calls with keywords -/
def atL {α : Type} : List α → Nat → List α
  | [], _ => []
  | a :: _, 0 => [a]
  | _ :: l, n + 1 => atL l n
def pickL {α : Type} : List Nat → List α → List α
  | [], _ => []
  | i :: is, l => atL l i ++ pickL is l
theorem Vals.atL : ∀ {xs : List V} {us : List Value} (i : Nat), Vals xs us → Vals (atL xs i) (atL us i)
  | _, _, _, .nil => .nil
  | _, _, 0, .cons r _ => .cons r .nil
  | _, _, i + 1, .cons _ t => Vals.atL i t
theorem Vals.pick {xs : List V} {us : List Value} (r : Vals xs us) : ∀ pk : List Nat, Vals (pickL pk xs) (pickL pk us)
  | [] => .nil
  | i :: is => (Vals.atL i r).append (Vals.pick r is)
section
variable {T : Tb} {K : PySem.W.Frag} {io : Nat → Addr} {n : Nat} {F : Hp}
theorem VRs.atL : ∀ {xs : List Val} {us : List V} (i : Nat), VRs T K io n F xs us → VRs T K io n F (Py.atL xs i) (Py.atL us i)
  | _, _, _, .nil => .nil
  | _, _, 0, .cons r _ => .cons r .nil
  | _, _, i + 1, .cons _ t => VRs.atL i t
theorem VRs.pick {xs : List Val} {us : List V} (r : VRs T K io n F xs us) : ∀ pk : List Nat, VRs T K io n F (pickL pk xs) (pickL pk us)
  | [] => .nil
  | i :: is => (VRs.atL i r).append (VRs.pick r is)
end
/-- how a call with np positional values and the keywords ks binds -/
def KB (K : PySem.W.Frag) (fd : FuncData) (ps : List Str) (np : Nat) (ks : List Str) (pk : List Nat) (ds : List Value) : Prop :=
  ∀ (s : Shared) (us ws : List Value), K.In s.heap → us.length = np → ws.length = ks.length → BindsTo s fd ⟨us, ks.zip ws⟩ (ps.zip (pickL pk (us ++ (ws ++ ds))))
def CalleeK (T : Tb) (P : Program) (w : World) (K : PySem.W.Frag) (mg : Str → Option Value) (base : Heap) (k : Nat) (a : Addr) (ps : List Str) (f : Fx) (np : Nat) (ks : List Str) (pk : List Nat) (dvs : List V) : Prop :=
  ∃ fd ds, FnG P w K mg base (CX P w) k a fd ps (spF T K f) ∧ PySem.W.keepIn K (.ref a) = true ∧ Vals dvs ds ∧ KB K fd ps np ks pk ds
abbrev CalleeKX (T : Tb) (X : Cx) (k : Nat) (a : Addr) (ps : List Str) (f : Fx) (np : Nat) (ks : List Str) (pk : List Nat) (dvs : List V) : Prop := CalleeK T X.prog X.w X.K X.mg X.base k a ps f np ks pk dvs
section
variable {K : PySem.W.Frag} {x qual : Str} {params : Arguments} {body : List Stmt} {scope : Scope} {dvs : List V} {kws : List (Str × V)} {f : Addr} {fd : FuncData} {ps : List Str}
/-- with positional defaults -/
theorem kb_some (F : FunD K x qual params body scope dvs kws f fd) (np : Nat) (ks : List Str) (pk : List Nat) (hd : dvs ≠ [])
    (h : ∀ (A : Addr) (kV doc pm : Value) (an : Option Addr) (cdv ct : Value) (us ws its : List Value), us.length = np → ws.length = ks.length → its.length = dvs.length →
      ∃ q, bindArgs (PySem.W.fnOf x qual params body scope (.ref A) kV doc pm an cdv ct) ⟨us, ks.zip ws⟩ = seqItems? (.ref A) >>= q ∧ q (some its.toArray) = pure (ps.zip (pickL pk (us ++ (ws ++ its))))) : ∃ ds, Vals dvs ds ∧ KB K fd ps np ks pk ds := by
  obtain ⟨_, _, _, kV, doc, pm, an, cdv, ct, _, rfl, _, _, hD, _⟩ := F.ex
  rcases hD with ⟨e, _⟩ | ⟨_, A, o, its, _, rfl, lA, oA, rA⟩
  · exact (hd e).elim
  · refine ⟨its, rA, fun s us ws KI l1 l2 => L2.BindsTo.of_looks fun M => ?_⟩
    obtain ⟨q, e1, e2⟩ := h A kV doc pm an cdv ct us ws its l1 l2 rA.length.symm
    exact e1 ▸ looks_items KI lA oA (.of_pure e2)
/-- all parameters are given -/
theorem kb_all (F : FunD K x qual params body scope [] kws f fd) (np : Nat) (ks : List Str) (pk : List Nat)
    (h : ∀ (kV doc pm : Value) (an : Option Addr) (cdv ct : Value) (us ws : List Value), us.length = np → ws.length = ks.length →
      bindArgs (PySem.W.fnOf x qual params body scope .none kV doc pm an cdv ct) ⟨us, ks.zip ws⟩ = pure (ps.zip (pickL pk (us ++ (ws ++ []))))) : KB K fd ps np ks pk [] := by
  obtain ⟨_, _, _, kV, doc, pm, an, cdv, ct, _, rfl, _, _, hD, _⟩ := F.ex
  rcases hD with ⟨_, rfl⟩ | ⟨e, _⟩
  · exact fun s us ws _ l1 l2 => .of_eq (h kV doc pm an cdv ct us ws l1 l2)
  · exact (e rfl).elim
end
abbrev JK (T : Tb) (X : Cx) (W : WX) (kws : List Keyword) (f : Lx) : Prop := PK X kws (tL T X.K W f)
theorem pk_imp {X : Cx} {kws : List Keyword} {t t' : TA} (h : PK X kws t) (i : ∀ σ H Q, t' σ H Q → t σ H Q) : PK X kws t' := ⟨fun pos pins s σ H Q I q => h.run pos pins s σ H Q I (i σ H Q q)⟩
section
variable {T : Tb} {X : Cx} {W : WX} {e : Expr} {fe : Ex} {fr : Lx} {kws : List Keyword} {nm : Option Str} {kpos : Pos}
theorem jk_nil : JK T X W [] xNil := pk_imp pk_nil fun σ H Q ⟨io, h, F, sg, sr, rs, w⟩ => w io F H _ .refl sr .nil
theorem jk_cons (ha : JE T X W e fe) (hr : JK T X W kws fr) : JK T X W (⟨nm, e, kpos⟩ :: kws) (xCons fe fr) := by
  refine pk_imp (pk_cons ha hr) fun σ H Q ⟨io, h, F, sg, sr, rs, w⟩ => ⟨io, h, F, sg, sr, rs, WantsL.ofBind w fun v h1 io1 F1 H1 x st sr1 vr w1 => ⟨io1, h1, F1, sg, sr1, rs.step st, WantsL.bindL w1 fun vs h2 io2 F2 H2 xs st2 sr2 vrs w2 => ?_⟩⟩
  exact w2 io2 F2 H2 _ .refl sr2 (.cons (vr.step st2) vrs)
end
def xCallK (T : Nat → List Str) (f : Fx) (np nk : Nat) (pk : List Nat) (dfl : List Val) (l lk : Lx) : Ex := fun sg h => (l sg h).bind fun as h1 => (lk sg h1).bind fun ks h2 => if as.length = np ∧ ks.length = nk then callQ T f (pickL pk (as ++ (ks ++ dfl))) h2 else .bad
def xMakeK (T : Nat → List Str) (c : Nat) (f : Fx) (np nk : Nat) (pk : List Nat) (dfl : List Val) (l lk : Lx) : Ex := fun sg h => (l sg h).bind fun as h1 => (lk sg h1).bind fun ks h2 => if as.length = np ∧ ks.length = nk then makeQ T c f (pickL pk (as ++ (ks ++ dfl))) h2 else .bad
def tKw (n m : Nat) (t tk : TA) (R : L2.St → List V → List V → Hp → VK → Prop) : TE := fun σ H Q => t σ H fun vs H1 => tk σ H1 fun zs H2 => vs.length = n ∧ zs.length = m ∧ R σ vs zs H2 Q
section
variable {T : Tb} {X : Cx} {W : WX} {k np : Nat} {a : Addr} {fd : FuncData} {ps ks : List Str} {sp : Sp} {pk : List Nat} {dvs : List V} {ds : List Value} {x : Str} {p pos : Pos} {e : Expr} {es : List Expr} {kws : List Keyword} {f : Fx} {l lk : Lx} {t tk : TA} {E : L2.St → XK} {CXq : CXT}
theorem run_fnGK {pins : List (Addr × PySem.Obj)} {σ : L2.St} {H : Hp} {s : Shared} {Q : VK} {us ws : List Value} {vs zs : List V} (G : FnG X.prog X.w X.K X.mg X.base CXq k a fd ps sp) (hr : RoomG k X.A) (hb : KB X.K fd ps np ks pk ds) (hd : Vals dvs ds) (hx : PassesAt CXq X σ (E σ))
    (I : L2.Inv X pins σ H s) (r : Vals vs us) (rz : Vals zs ws) (l1 : vs.length = np) (l2 : zs.length = ks.length) (h : sp (pickL pk (vs ++ (zs ++ dvs))) H Q (E σ)) : wpAny (model X.prog X.w) X.A (call (.ref a) us (ks.zip ws)) (EP X pins σ Q) X.xe s := by
  have both := Py.Vals.pick (r.append (rz.append hd)) pk
  have ran := G.run X.A X.stack s H ⟨us, ks.zip ws⟩ _ _ Q (E σ) hr I.env0 (hb s us ws I.kIn (by rw [← r.length]; exact l1) (by rw [← rz.length]; exact l2)) both h
  refine wpAny_call (codeAny_mono ran fun res s' hres => ?_)
  match res, hres with
  | .ok (.ret u), z => exact I.after z
  | .error er, z => exact hx pins H s er s' I z
  | .ok .next, z => exact False.elim z
  | .ok .brk, z => exact False.elim z
  | .ok .cont, z => exact False.elim z
theorem run_makeGK {C : Addr} {pins : List (Addr × PySem.Obj)} {σ : L2.St} {H : Hp} {s : Shared} {Q : VK} {us ws : List Value} {vs zs : List V} {Eσ : XK} (M : Mk X.K C a) (G : FnG X.prog X.w X.K X.mg X.base CXq k a fd ps sp) (hr : RoomG (k + 1) X.A) (hb : KB X.K fd ps (np + 1) ks pk ds) (hd : Vals dvs ds)
    (hx : PassesAt CXq X σ Eσ) (I : L2.Inv X pins σ H s) (r : Vals vs us) (rz : Vals zs ws) (l1 : vs.length = np) (l2 : zs.length = ks.length)
    (h : ∀ y dy, H y = none → H dy = none → dy ≠ y → sp (pickL pk ((.ref y :: vs) ++ (zs ++ dvs))) (upd (upd H dy (.own y)) y (.ins C dy [])) (fun v H2 => v = .non ∧ Q (.ref y) H2) Eσ) :
    wpAny (model X.prog X.w) X.A (call (.ref C) us (ks.zip ws)) (EP X pins σ Q) X.xe s := by
  have f0 : H s.heap.objs.size = none := I.hok.fresh (Nat.le_refl _)
  have f1 : H (s.heap.objs.size + 1) = none := I.hok.fresh (Nat.le_succ _)
  have hq := h _ _ f1 f0 (Nat.ne_of_lt (Nat.lt_succ_self _))
  have I2 : L2.Inv X pins σ _ _ := L2.Inv.made (C := C) I
  have r1 : Vals (V.ref (s.heap.objs.size + 1) :: vs) (Value.ref (s.heap.objs.size + 1) :: us) := Paired.cons rfl r
  have hl : (Value.ref (s.heap.objs.size + 1) :: us).length = np + 1 := by rw [List.length_cons, ← r.length, l1]
  have ran := G.run _ X.stack _ _ ⟨Value.ref (s.heap.objs.size + 1) :: us, ks.zip ws⟩ _ _ _ Eσ (hr.make C us (ks.zip ws)) (I2.env0.make C us (ks.zip ws)) (hb _ _ ws I2.kIn hl (by rw [← rz.length]; exact l2)) (Py.Vals.pick (L2.Vals.append r1 (L2.Vals.append rz hd)) pk) hq
  refine wpAny_call (make_map (f := a) I.kIn M.makes M.init (beq_iff_eq.mp M.fn) (codeAny_mono ran ?_))
  intro rs s' hq'
  match rs, hq' with
  | .error er, hq' => exact hx pins _ _ er s' I2 hq'
  | .ok (.ret u), hq' =>
    obtain ⟨v, H', I3, rv, ev, q3⟩ := I2.after hq'
    rw [ev] at rv
    exact ⟨rv, ⟨V.ref (s.heap.objs.size + 1), H', I3, rfl, q3⟩⟩
  | .ok .next, hq' => exact False.elim hq'
  | .ok .brk, hq' => exact False.elim hq'
  | .ok .cont, hq' => exact False.elim hq'
/-- any global callable whose run with given values is known -/
theorem pe_kw {n : Nat} {R : L2.St → List V → List V → Hp → VK → Prop} {c : Addr} (hg : Gl X x) (hm : X.mg x = some (.ref c)) (kp : PySem.W.keepIn X.K (.ref c) = true)
    (run : ∀ (pins : List (Addr × PySem.Obj)) (σ : L2.St) (H H0 : Hp) (s : Shared) (Q : VK) (us ws : List Value) (vs zs : List V), L2.Inv X pins σ H s → Vals vs us → Vals zs ws → vs.length = n → zs.length = ks.length → R σ vs zs H Q → wpAny (model X.prog X.w) X.A (call (.ref c) us (ks.zip ws)) (EP X pins σ Q) X.xe s)
    (ha : PA X (e :: es) t) (hkw : PK X kws tk) (hall : (backToKw pos (keywordEach kws X.env)).all (·.1.isSome) = true) (hks : (backToKw pos (keywordEach kws X.env)).filterMap (·.1) = ks)
    (hdb : (x == ("__debug__" : Str)) = false) (he : starEach (e :: es) X.env = (false, eval e X.env) :: starEach es X.env)
    (hpl : ((backTo pos (starEach (e :: es) X.env)).any (·.1) || (backToKw pos (keywordEach kws X.env)).any (·.1.isNone)) = false) :
    PE X (.Call (.Name x p) (e :: es) kws pos) (tKw n ks.length t tk R) :=
  ⟨fun pins s σ H Q I h => wpAny_Call_Name_kw (ld_glob I hg hm (PySem.W.callWith_KW (h₀ := X.base) I.ok.mod.kin kp hall
    (thn (ha.run pos pins s σ H _ I h) fun us s1 ⟨vs, H1, I1, r, q⟩ => thn (hkw.run pos pins s1 σ H1 _ I1 q) fun ws s2 ⟨zs, H2, I2, rz, l1, l2, q2⟩ => ⟨I2.kIn, by rw [hks]; exact run pins σ H2 H2 s2 Q us ws vs zs I2 r rz l1 l2 q2⟩) hpl he) hdb)⟩
theorem pe_kw0 {R : L2.St → List V → List V → Hp → VK → Prop} {c : Addr} (hg : Gl X x) (hm : X.mg x = some (.ref c)) (kp : PySem.W.keepIn X.K (.ref c) = true)
    (run : ∀ (pins : List (Addr × PySem.Obj)) (σ : L2.St) (H H0 : Hp) (s : Shared) (Q : VK) (us ws : List Value) (vs zs : List V), L2.Inv X pins σ H s → Vals vs us → Vals zs ws → vs.length = 0 → zs.length = ks.length → R σ vs zs H Q → wpAny (model X.prog X.w) X.A (call (.ref c) us (ks.zip ws)) (EP X pins σ Q) X.xe s)
    (hkw : PK X kws tk) (hall : (backToKw pos (keywordEach kws X.env)).all (·.1.isSome) = true) (hks : (backToKw pos (keywordEach kws X.env)).filterMap (·.1) = ks)
    (hdb : (x == ("__debug__" : Str)) = false)
    (hpl : ((backTo pos (starEach [] X.env)).any (·.1) || (backToKw pos (keywordEach kws X.env)).any (·.1.isNone)) = false) :
    PE X (.Call (.Name x p) [] kws pos) (tKw 0 ks.length tNil tk R) :=
  ⟨fun pins s σ H Q I h => wpAny_Call_Name_kw (ld_glob I hg hm (PySem.W.callWith_KW0 (h₀ := X.base) I.ok.mod.kin kp hall
    (thn (hkw.run pos pins s σ H _ I h) fun ws s2 ⟨zs, H2, I2, rz, l1, l2, q2⟩ => ⟨I2.kIn, by rw [hks]; exact run pins σ H2 H2 s2 Q [] ws [] zs I2 .nil rz l1 l2 q2⟩) hpl) hdb)⟩
theorem ifAnd {C : Prop} [Decidable C] {K : PySem.W.Frag} {io : Nat → Addr} {n : Nat} {F H : Hp} {V1 : XK} {Q : VK} {r : Res} (w : Wants T K io n F H V1 Q (if C then r else .bad)) : C ∧ Wants T K io n F H V1 Q r := by
  by_cases hc : C
  · rw [if_pos hc] at w; exact ⟨hc, w⟩
  · rw [if_neg hc] at w; exact w.elim
theorem jk_P {dfl : List Val} (C : CalleeKX T X k a ps f np ks pk dvs) (hr : RoomG k X.A) (hm : X.mg x = some (.ref a)) (hD : Dfl T X.K dfl dvs) (tk : Takes X W) (ha : JA T X W (e :: es) l) (hkw : JK T X W kws lk)
    (hall : (backToKw pos (keywordEach kws X.env)).all (·.1.isSome) = true := by rfl) (hks : (backToKw pos (keywordEach kws X.env)).filterMap (·.1) = ks := by rfl)
    (hg : Gl X x := by rfl) (hdb : (x == ("__debug__" : Str)) = false := by decide) (he : starEach (e :: es) X.env = (false, eval e X.env) :: starEach es X.env := by rfl)
    (hpl : ((backTo pos (starEach (e :: es) X.env)).any (·.1) || (backToKw pos (keywordEach kws X.env)).any (·.1.isNone)) = false := by rfl) :
    JE T X W (.Call (.Name x p) (e :: es) kws pos) (xCallK T.fn f np ks.length pk dfl l lk) := by
  obtain ⟨fd, ds, G, kp, hv, hb⟩ := C
  refine pe_imp (pe_kw (R := fun σ vs zs H Q => spF T X.K f (pickL pk (vs ++ (zs ++ dvs))) H Q (fun c d H => W c d σ H)) hg hm kp (fun pins σ' H H0 s Q us ws vs zs I r rz l1 l2 q => run_fnGK (E := fun σ c d H => W c d σ H) G hr hb hv (passAt tk _) I r rz l1 l2 q) ha hkw hall hks hdb he hpl) fun σ H Q ⟨io, h, F, sg, sr, rs, w⟩ =>
    ⟨io, h, F, sg, sr, rs, Wants.bindOfL w fun vs h1 io1 F1 H1 xs st sr1 vr w1 => ⟨io1, h1, F1, sg, sr1, rs.step st, Wants.bindOfL w1 fun zs h2 io2 F2 H2 ys st2 sr2 vz w2 => ?_⟩⟩
  obtain ⟨⟨c1, c2⟩, w3⟩ := ifAnd w2
  exact ⟨by rw [← vr.length]; exact c1, by rw [← vz.length]; exact c2, callQ_ok sr2 (((vr.step st2).append (vz.append (hD _ _ _))).pick pk) w3⟩
theorem jk_P0 {dfl : List Val} (C : CalleeKX T X k a ps f 0 ks pk dvs) (hr : RoomG k X.A) (hm : X.mg x = some (.ref a)) (hD : Dfl T X.K dfl dvs) (tk : Takes X W) (hkw : JK T X W kws lk)
    (hall : (backToKw pos (keywordEach kws X.env)).all (·.1.isSome) = true := by rfl) (hks : (backToKw pos (keywordEach kws X.env)).filterMap (·.1) = ks := by rfl)
    (hg : Gl X x := by rfl) (hdb : (x == ("__debug__" : Str)) = false := by decide)
    (hpl : ((backTo pos (starEach [] X.env)).any (·.1) || (backToKw pos (keywordEach kws X.env)).any (·.1.isNone)) = false := by rfl) :
    JE T X W (.Call (.Name x p) [] kws pos) (xCallK T.fn f 0 ks.length pk dfl xNil lk) := by
  obtain ⟨fd, ds, G, kp, hv, hb⟩ := C
  refine pe_imp (pe_kw0 (R := fun σ vs zs H Q => spF T X.K f (pickL pk (vs ++ (zs ++ dvs))) H Q (fun c d H => W c d σ H)) hg hm kp (fun pins σ' H H0 s Q us ws vs zs I r rz l1 l2 q => run_fnGK (E := fun σ c d H => W c d σ H) G hr hb hv (passAt tk _) I r rz l1 l2 q) hkw hall hks hdb hpl) fun σ H Q ⟨io, h, F, sg, sr, rs, w⟩ =>
    ⟨io, h, F, sg, sr, rs, Wants.bindOfL w fun zs h2 io2 F2 H2 ys st2 sr2 vz w2 => ?_⟩
  obtain ⟨⟨c1, c2⟩, w3⟩ := ifAnd w2
  exact ⟨rfl, by rw [← vz.length]; exact c2, callQ_ok sr2 ((VRs.append .nil (vz.append (hD _ _ _))).pick pk) w3⟩
theorem pick_self {α : Type} {a : α} {pk : List Nat} {l : List α} : pickL (0 :: pk.map (· + 1)) (a :: l) = a :: pickL pk l := by
  have h : ∀ is : List Nat, pickL (is.map (· + 1)) (a :: l) = pickL is l := fun is => by
    induction is with
    | nil => rfl
    | cons i is ih => simp only [List.map_cons, pickL, ih]; rfl
  simp only [pickL, h]; rfl
theorem jk_K {dfl : List Val} {c : Nat} (hf : ∀ as h v h', f h as = .ok v h' → v = .non) (M : Mk X.K (He.ga X.K (T.cn c)) a) (C : CalleeKX T X k a ps f (np + 1) ks (0 :: pk.map (· + 1)) dvs) (hr : RoomG (k + 1) X.A) (hm : X.mg x = some (.ref (He.ga X.K (T.cn c)))) (hD : Dfl T X.K dfl dvs) (tk : Takes X W) (ha : JA T X W (e :: es) l) (hkw : JK T X W kws lk)
    (hall : (backToKw pos (keywordEach kws X.env)).all (·.1.isSome) = true := by rfl) (hks : (backToKw pos (keywordEach kws X.env)).filterMap (·.1) = ks := by rfl)
    (hg : Gl X x := by rfl) (hdb : (x == ("__debug__" : Str)) = false := by decide) (he : starEach (e :: es) X.env = (false, eval e X.env) :: starEach es X.env := by rfl)
    (hpl : ((backTo pos (starEach (e :: es) X.env)).any (·.1) || (backToKw pos (keywordEach kws X.env)).any (·.1.isNone)) = false := by rfl) :
    JE T X W (.Call (.Name x p) (e :: es) kws pos) (xMakeK T.fn c f np ks.length pk dfl l lk) := by
  obtain ⟨fd, ds, G, kp, hv, hb⟩ := C
  refine pe_imp (pe_kw (R := fun σ vs zs H Q => spMk T X.K c (spF T X.K f) (pickL pk (vs ++ (zs ++ dvs))) H Q (fun c d H => W c d σ H)) hg hm M.kp (fun pins σ' H H0 s Q us ws vs zs I r rz l1 l2 q => run_makeGK M G hr hb hv (passAt tk _) I r rz l1 l2 fun y dy e1 e2 e3 => ?_) ha hkw hall hks hdb he hpl) fun σ H Q ⟨io, h, F, sg, sr, rs, w⟩ =>
    ⟨io, h, F, sg, sr, rs, Wants.bindOfL w fun vs h1 io1 F1 H1 xs st sr1 vr w1 => ⟨io1, h1, F1, sg, sr1, rs.step st, Wants.bindOfL w1 fun zs h2 io2 F2 H2 ys st2 sr2 vz w2 => ?_⟩⟩
  · rw [List.cons_append, pick_self]; exact q y dy e1 e2 e3
  · obtain ⟨⟨c1, c2⟩, w3⟩ := ifAnd w2
    exact ⟨by rw [← vr.length]; exact c1, by rw [← vz.length]; exact c2, makeQ_ok (c := c) hf sr2 (((vr.step st2).append (vz.append (hD _ _ _))).pick pk) w3⟩
theorem jk_K0 {dfl : List Val} {c : Nat} (hf : ∀ as h v h', f h as = .ok v h' → v = .non) (M : Mk X.K (He.ga X.K (T.cn c)) a) (C : CalleeKX T X k a ps f 1 ks (0 :: pk.map (· + 1)) dvs) (hr : RoomG (k + 1) X.A) (hm : X.mg x = some (.ref (He.ga X.K (T.cn c)))) (hD : Dfl T X.K dfl dvs) (tk : Takes X W) (hkw : JK T X W kws lk)
    (hall : (backToKw pos (keywordEach kws X.env)).all (·.1.isSome) = true := by rfl) (hks : (backToKw pos (keywordEach kws X.env)).filterMap (·.1) = ks := by rfl)
    (hg : Gl X x := by rfl) (hdb : (x == ("__debug__" : Str)) = false := by decide)
    (hpl : ((backTo pos (starEach [] X.env)).any (·.1) || (backToKw pos (keywordEach kws X.env)).any (·.1.isNone)) = false := by rfl) :
    JE T X W (.Call (.Name x p) [] kws pos) (xMakeK T.fn c f 0 ks.length pk dfl xNil lk) := by
  obtain ⟨fd, ds, G, kp, hv, hb⟩ := C
  refine pe_imp (pe_kw0 (R := fun σ vs zs H Q => spMk T X.K c (spF T X.K f) (pickL pk (vs ++ (zs ++ dvs))) H Q (fun c d H => W c d σ H)) hg hm M.kp (fun pins σ' H H0 s Q us ws vs zs I r rz l1 l2 q => run_makeGK (np := 0) M G hr hb hv (passAt tk _) I r rz l1 l2 fun y dy e1 e2 e3 => ?_) hkw hall hks hdb hpl) fun σ H Q ⟨io, h, F, sg, sr, rs, w⟩ =>
    ⟨io, h, F, sg, sr, rs, Wants.bindOfL w fun zs h2 io2 F2 H2 ys st2 sr2 vz w2 => ?_⟩
  · rw [List.cons_append, pick_self]; exact q y dy e1 e2 e3
  · obtain ⟨⟨c1, c2⟩, w3⟩ := ifAnd w2
    exact ⟨rfl, by rw [← vz.length]; exact c2, makeQ_ok (c := c) hf sr2 ((VRs.append .nil (vz.append (hD _ _ _))).pick pk) w3⟩
end
end Py

namespace Py
open PySem PySem.Spec PyProof.Rows L2
/-! ### a method of an object that may still be in the making -/
def callD (T : Nat → List Str) (f : Fx) (ov : Val) (as : List Val) (h : Hh) : Res := match ov with
  | .ref _ => f h (ov :: as)
  | _ => callQ T f (ov :: as) h
theorem callD_ok {T : Tb} {K : PySem.W.Frag} {io : Nat → Addr} {F H : Hp} {h : Hh} {W : XK} {Q : VK} {f : Fx} {ov : Val} {as : List Val} {x : V} {vs : List V} (sr : SR T K io h F H) (r0 : VR T K io h.length F ov x) (r : VRs T K io h.length F as vs) (w : Wants T K io h.length F H W Q (callD T.fn f ov as h)) : spF T K f (x :: vs) H Q W := by
  unfold callD at w
  split at w
  · exact callA_ok sr (.cons r0 r) w
  · exact callQ_ok sr (.cons r0 r) w
def xMethD (T : Nat → List Str) (c : Nat) (f : Fx) (dfl : List Val) (o : Ex) (l : Lx) : Ex := fun sg h => (o sg h).bind fun ov h1 => if isA c h1 ov = true then (l sg h1).bind fun as h2 => callD T f ov (as ++ dfl) h2 else .bad
section
variable {T : Tb} {X : Cx} {W : WX} {e o : Expr} {es : List Expr} {fo : Ex} {fl : Lx} {pos apos : Pos} {ps : List Str} {k : Nat} {f : Fx} {m : Str} {c : Nat} {a : Addr} {dvs : List V} {dfl : List Val}
theorem jc_D {pl : Sem Bool} (ho : JE T X W o fo) (cf : Cf T X.K c) (hm : Meth X.K (He.ga X.K (T.cn c)) m a) (hmf : m ∉ T.fn c) (C : CalleeX T X k a ps f dvs) (hr : RoomG k X.A) (hD : Dfl T X.K dfl dvs) (tk : Takes X W) (ha : JA T X W (e :: es) fl)
    (hst : starEach (e :: es) X.env = (false, eval e X.env) :: starEach es X.env := by rfl) (hpl : (backTo pos (starEach es X.env)).any (·.1) = false := by rfl)
    (ht : eval (.Call (.Attribute o m apos) (e :: es) [] pos) X.env = (eval o X.env >>= fun ov => standAt apos.atName >>= fun _ => holding [ov] (getMethod ov m pl) >>= fun p => callWith pos p.1 p.2 (backTo pos (starEach (e :: es) X.env)) (backToKw pos (keywordEach [] X.env))) := by rfl) :
    JE T X W (.Call (.Attribute o m apos) (e :: es) [] pos) (xMethD T.fn c f dfl fo fl) := by
  obtain ⟨fd, ds, G, kp, hv, hb⟩ := C
  refine pe_imp (pe_methS (E := fun σ c d H => W c d σ H) (sp := spF T X.K f) ho cf.cls hm G hr hb hv (fun σ => passAt tk σ) ha hst hpl ht) fun σ H Q ⟨io, h, F, sg, sr, rs, w⟩ => ⟨io, h, F, sg, sr, rs, Wants.bind w fun ov h1 io1 F1 H1 x st sr1 vr w1 => ?_⟩
  obtain ⟨hi, w2⟩ := ifAnd w1
  obtain ⟨a, dx, fs, ex, ea, l⟩ := isA_ok sr1 vr hi m hmf
  exact ⟨a, dx, fs, ex, ea, l, io1, h1, F1, sg, sr1, rs.step st, Wants.bindOfL w2 fun vs h2 io2 F2 H2 xs st2 sr2 vrs w3 => callD_ok sr2 (vr.step st2) (vrs.append (hD _ _ _)) w3⟩
theorem jc_D0 {pl : Sem Bool} (ho : JE T X W o fo) (cf : Cf T X.K c) (hm : Meth X.K (He.ga X.K (T.cn c)) m a) (hmf : m ∉ T.fn c) (C : CalleeX T X k a ps f dvs) (hr : RoomG k X.A) (hD : Dfl T X.K dfl dvs) (tk : Takes X W)
    (ht : eval (.Call (.Attribute o m apos) [] [] pos) X.env = (eval o X.env >>= fun ov => standAt apos.atName >>= fun _ => holding [ov] (getMethod ov m pl) >>= fun p => callWith pos p.1 p.2 (backTo pos (starEach [] X.env)) (backToKw pos (keywordEach [] X.env))) := by rfl) :
    JE T X W (.Call (.Attribute o m apos) [] [] pos) (xMethD T.fn c f dfl fo xNil) := by
  obtain ⟨fd, ds, G, kp, hv, hb⟩ := C
  refine pe_imp (pe_methS0 (E := fun σ c d H => W c d σ H) (sp := spF T X.K f) ho cf.cls hm G hr hb hv (fun σ => passAt tk σ) ht) fun σ H Q ⟨io, h, F, sg, sr, rs, w⟩ => ⟨io, h, F, sg, sr, rs, Wants.bind w fun ov h1 io1 F1 H1 x st sr1 vr w1 => ?_⟩
  obtain ⟨hi, w2⟩ := ifAnd w1
  obtain ⟨a, dx, fs, ex, ea, l⟩ := isA_ok sr1 vr hi m hmf
  exact ⟨a, dx, fs, ex, ea, l, callD_ok sr1 vr (hD _ _ _) w2⟩
/-! ### a def as a value, and the call of a local that holds one -/
theorem je_glo (g : Nat) {x : Str} {p : Pos} (hm : X.mg x = some (.ref (He.ga X.K (T.gn g)))) (hg : Gl X x := by rfl) (hdb : (x == ("__debug__" : Str)) = false := by decide) : JE T X W (.Name x p) (xC (.glo g)) :=
  pe_imp (pe_glob (v := .ref (He.ga X.K (T.gn g))) hg hm rfl hdb) fun σ H Q ⟨io, h, F, sg, sr, rs, w⟩ => w io F H _ .refl sr (.glo g)
abbrev FTab := List (Nat × Fx)
def FTabOk (T : Tb) (X : Cx) (tb : FTab) : Prop := ∀ g f, tb.lookup g = some f → ∃ k ps, CalleeX T X k (He.ga X.K (T.gn g)) ps f [] ∧ RoomG k X.A
theorem ft_nil : FTabOk T X [] := fun g f e => by cases e
theorem ft_cons {g : Nat} {tb : FTab} (C : CalleeX T X k (He.ga X.K (T.gn g)) ps f []) (hr : RoomG k X.A) (h : FTabOk T X tb) : FTabOk T X ((g, f) :: tb) := fun g' f' e => by
  by_cases hg : g' = g
  · subst hg
    rw [List.lookup_cons, beq_self_eq_true] at e
    cases e
    exact ⟨k, ps, C, hr⟩
  · rw [List.lookup_cons, beq_false_of_ne hg] at e
    exact h g' f' e
def xCallV (T : Nat → List Str) (i : Nat) (tb : FTab) (l : Lx) : Ex := fun sg h => match sg[i]? with
  | some (some (.glo g)) => (match tb.lookup g with
    | some f => (l sg h).bind fun as h1 => callQ T f as h1
    | none => .bad)
  | _ => .bad
theorem jc_V (i : Nat) {x : Str} {tb : FTab} {p : Pos} (C : FTabOk T X tb) (tk : Takes X W)
    (ha : JA T X W (e :: es) fl) (hN : X.N[i]? = some x := by rfl) (hvis : Vis X.env.scope x := by first | exact .inl rfl | exact .inr (.inl rfl) | exact .inr (.inr rfl)) (hdb : (x == ("__debug__" : Str)) = false := by decide) (hcd : (x == ("__classdict__" : Str)) = false := by decide)
    (he : starEach (e :: es) X.env = (false, eval e X.env) :: starEach es X.env := by rfl) (hpl : (backTo pos (starEach es X.env)).any (·.1) = false := by rfl) : JE T X W (.Call (.Name x p) (e :: es) [] pos) (xCallV T.fn i tb fl) := by
  refine ⟨fun pins s σ H Q I ⟨io, h, F, sg, sr, rs, w⟩ => ?_⟩
  unfold xCallV at w
  split at w
  · rename_i g es0
    split at w
    · rename_i f ef
      obtain ⟨k, ps, C1, hr⟩ := C g f ef
      obtain ⟨fd, ds, G, kp, hv, hb⟩ := C1
      obtain ⟨y, ey, vy⟩ := rs.at_ i _ es0
      cases vy
      refine wpAny_Call_Name_kw (thn ((pe_var (pos := p) hN hvis hdb hcd).run pins s σ H (fun v H1 => v = .ref (He.ga X.K (T.gn g)) ∧ H1 = H) I ⟨_, ey, rfl, rfl⟩) fun u s1 ⟨v, H1, I1, r1, e1, e2⟩ => ?_)
      subst e1 e2
      cases (show u = Value.ref (He.ga X.K (T.gn g)) from r1)
      refine PySem.W.callWith_K (h₀ := X.base) I.ok.mod.kin kp (thn (ha.run pos pins s1 σ _ (fun vs H2 => spF T X.K f (vs ++ []) H2 Q (fun c d H => W c d σ H)) I1 ⟨io, h, F, sg, sr, rs, Wants.bindOfL w fun vs h1 io1 F1 H2 xs st sr1 vrs w1 => ?_⟩) fun us s2 ⟨vs, H2, I2, r, q⟩ => ⟨I2.kIn, run_fnG (E := fun σ c d H => W c d σ H) G hr hb hv (passAt tk σ) I2 r q⟩) he hpl
      rw [List.append_nil]
      exact callQ_ok sr1 vrs w1
    · exact w.elim
  · exact w.elim
end
/-! ### is, is not of bools -/
def gIsB (n : Bool) : G2 := fun _ v u => match v, u with
  | .bl a, .bl b => some (.bl (n != decide (a = b)))
  | _, _ => none
section
variable {T : Tb} {K : PySem.W.Frag} {X : Cx} {W : WX} {e : Expr} {fe : Ex} {pos : Pos}
theorem lift_isB : Lift2 T K rIsB (gIsB false) := by
  intro io h F H v u x y z Q sr vr ur e q
  unfold gIsB at e
  split at e
  · cases e; cases vr; cases ur
    exact ⟨_, _, rfl, rfl, q F H _ .refl sr (by rw [Bool.false_bne]; exact .bl _)⟩
  · cases e
theorem lift_notB : Lift2 T K rNotB (gIsB true) := by
  intro io h F H v u x y z Q sr vr ur e q
  unfold gIsB at e
  split at e
  · cases e; cases vr; cases ur
    exact ⟨_, _, rfl, rfl, q F H _ .refl sr (by rw [Bool.true_bne]; exact .bl _)⟩
  · cases e
/-! ### xs[::-1] of a list -/
def xRev (e : Ex) : Ex := fun sg h => (e sg h).bind fun v h1 => match lstOf h1 v with
  | some vs => .ok (.lst vs.reverse) h1
  | none => .bad
theorem VRs.reverse {io : Nat → Addr} {n : Nat} {F : Hp} : ∀ {vs : List Val} {xs : List V}, VRs T K io n F vs xs → VRs T K io n F vs.reverse xs.reverse
  | _, _, .nil => .nil
  | _, _, .cons a t => by rw [List.reverse_cons, List.reverse_cons]; exact (VRs.reverse t).append (.cons a .nil)
theorem je_revF {k : Nat} {p1 p2 p3 : Pos} (he : JE T X W e fe) : JE T X W (.Subscript e (.Slice none none (some (.UnaryOp .USub (.Constant (.int 1) k p1) p2)) p3) pos) (xRev fe) := by
  refine pe_imp (pe_revL he) fun σ H Q ⟨io, h, F, sg, sr, rs, w⟩ => ⟨io, h, F, sg, sr, rs, Wants.bind w fun v h1 io1 F1 H1 x st sr1 vr w1 => ?_⟩
  cases el : lstOf h1 v with
  | none => rw [el] at w1; exact w1.elim
  | some vs =>
    rw [el] at w1
    obtain ⟨a, xs, rfl, sq, r2⟩ := lstOf_ok sr1 vr el
    exact ⟨a, xs, rfl, sq, fun p hp => w1 io1 _ _ _ (sr1.allocStep hp _) (sr1.alloc hp _) (.lst (.inl (.inl upd_same)) (r2.reverse.step (sr1.allocStep hp (.lst xs.reverse))))⟩
end
end Py

namespace Py
open PySem PySem.Spec PyProof.Rows L2
/-! ### lists of texts, lists of ints -/
def strOf : Val → Option (List Nat)
  | .str s => some s
  | _ => none
def intOf : Val → Option Int
  | .int i => some i
  | _ => none
section
variable {T : Tb} {K : PySem.W.Frag} {io : Nat → Addr} {n : Nat} {F : Hp}
theorem strs_ok : ∀ {vs : List Val} {xs : List V} {ss : List (List Nat)}, VRs T K io n F vs xs → vs.mapM strOf = some ss → xs = (ss.map fun s => (⟨s.toArray⟩ : Str)).map V.str
  | [], _, ss, .nil, e => by simp at e; subst e; rfl
  | v :: vs, _, ss, .cons r t, e => by
    rw [List.mapM_cons] at e
    cases q : strOf v with
    | none => rw [q] at e; simp at e
    | some s =>
      rw [q] at e
      cases q2 : vs.mapM strOf with
      | none => rw [q2] at e; simp at e
      | some us =>
        rw [q2] at e
        simp at e
        subst e
        cases v <;> first | cases q | skip
        cases r
        rw [strs_ok t q2]
        rfl
theorem ints_ok : ∀ {vs : List Val} {xs : List V} {ss : List Int}, VRs T K io n F vs xs → vs.mapM intOf = some ss → xs = ss.map V.int
  | [], _, ss, .nil, e => by simp at e; subst e; rfl
  | v :: vs, _, ss, .cons r t, e => by
    rw [List.mapM_cons] at e
    cases q : intOf v with
    | none => rw [q] at e; simp at e
    | some s =>
      rw [q] at e
      cases q2 : vs.mapM intOf with
      | none => rw [q2] at e; simp at e
      | some us =>
        rw [q2] at e
        simp at e
        subst e
        cases v <;> first | cases q | skip
        cases r
        rw [ints_ok t q2]
        rfl
theorem VRs.ofStrs : ∀ ss : List (List Nat), VRs T K io n F (ss.map .str) ((ss.map fun s => (⟨s.toArray⟩ : Str)).map V.str)
  | [] => .nil
  | s :: ss => .cons (.str s) (VRs.ofStrs ss)
end
/-! ### tuple.index of a text -/
def idxS (z : List Nat) : List (List Nat) → Option Nat
  | [] => none
  | s :: ss => if s = z then some 0 else (idxS z ss).map (· + 1)
theorem idxS_ok {z : List Nat} : ∀ {ss : List (List Nat)} {j : Nat}, idxS z ss = some j → ss[j]? = some z ∧ ∀ m, m < j → ss[m]? ≠ some z
  | [], _, e => by cases e
  | s :: ss, j, e => by
    unfold idxS at e
    split at e
    · rename_i h
      cases e
      exact ⟨by rw [h]; rfl, fun m hm => absurd hm (Nat.not_lt_zero _)⟩
    · rename_i h
      obtain ⟨i, e1, rfl⟩ := map_some e
      obtain ⟨p1, p2⟩ := idxS_ok e1
      refine ⟨by simpa using p1, fun m hm => ?_⟩
      cases m with
      | zero => simpa using h
      | succ m => simpa using p2 m (by omega)
theorem arr_inj {a b : List Nat} (h : (⟨a.toArray⟩ : Str) = ⟨b.toArray⟩) : a = b := by
  have := congrArg (fun s : Str => s.cps.toList) h
  simpa using this
def gTIdx : GM := fun h v vs => match v, vs with
  | .tup us, [.str z] => (match us.mapM strOf with
    | some ss => (idxS z ss).map fun (j : Nat) => (Val.int (Int.ofNat j), h)
    | none => none)
  | _, _ => none
theorem lift_tidx {T : Tb} {K : PySem.W.Frag} : LiftM T K (fun x xs H Q => ∃ p, ∃ ys : List Str, ∃ z j, x = .ref p ∧ xs = [.str z] ∧ SqT K H p (ys.map V.str) ∧ ys[j]? = some z ∧ (∀ m, m < j → ys[m]? ≠ some z) ∧ Q (.int (j : Nat)) H) gTIdx := by
  intro io h F H v x vs xs z h' Q sr vr rr e q
  unfold gTIdx at e
  split at e
  · rename_i us zs
    cases em : us.mapM strOf with
    | none => rw [em] at e; cases e
    | some ss =>
      rw [em] at e
      obtain ⟨j, e1, e2⟩ := map_some e
      cases e2
      obtain ⟨p1, p2⟩ := idxS_ok e1
      cases vr with
      | tup sq r2 =>
        cases rr with
        | cons r3 t3 =>
          cases t3
          cases r3
          rw [strs_ok r2 em] at sq
          refine ⟨_, _, _, j, rfl, rfl, sqT_mono sr.sub sq, ?_, fun m hm hq => ?_, q io F H _ .refl sr (.int _)⟩
          · rw [List.getElem?_map, p1]; rfl
          · rw [List.getElem?_map] at hq
            cases q3 : ss[m]? with
            | none => rw [q3] at hq; cases hq
            | some w =>
              rw [q3] at hq
              exact p2 m hm (by rw [q3, arr_inj (Option.some.inj hq)])
  · cases e
/-! ### sum, max, min of a list of ints -/
def gSum : GC := fun h vs => match vs with
  | [v] => (match lstOf h v with
    | some ys => (ys.mapM intOf).map fun ns => (.int ns.sum, h)
    | none => none)
  | _ => none
section
variable {T : Tb} {K : PySem.W.Frag}
theorem lift_sum : LiftC T K (rSum K) gSum := by
  intro io h F H vs xs z h' Q sr rr e q
  unfold gSum at e
  split at e
  · rename_i v
    cases rr with
    | @cons _ x _ _ r t =>
      cases t
      cases el : lstOf h v with
      | none => rw [el] at e; cases e
      | some ys =>
        rw [el] at e
        obtain ⟨ns, e1, e2⟩ := map_some e
        cases e2
        obtain ⟨a, xs, rfl, sq, r2⟩ := lstOf_ok sr r el
        rw [ints_ok r2 e1] at sq
        exact ⟨a, ns, rfl, sq, q io F H _ .refl sr (.int _)⟩
  · cases e
def bigI : Int → List Int → Int
  | m, [] => m
  | m, i :: l => bigI (if m < i then i else m) l
def litI : Int → List Int → Int
  | m, [] => m
  | m, i :: l => litI (if i < m then i else m) l
theorem bigI_mem : ∀ (l : List Int) (m : Int), bigI m l ∈ m :: l ∧ ∀ y ∈ m :: l, y ≤ bigI m l
  | [], m => by simp [bigI]
  | i :: l, m => by
    obtain ⟨p1, p2⟩ := bigI_mem l (if m < i then i else m)
    unfold bigI
    refine ⟨?_, fun y hy => ?_⟩
    · rcases List.mem_cons.mp p1 with z | z
      · rw [z]; split <;> simp
      · exact List.mem_cons_of_mem _ (List.mem_cons_of_mem _ z)
    · have p3 := p2 _ (List.mem_cons_self)
      rcases List.mem_cons.mp hy with rfl | z
      · refine Int.le_trans ?_ p3; split <;> omega
      · rcases List.mem_cons.mp z with rfl | z
        · refine Int.le_trans ?_ p3; split <;> omega
        · exact p2 y (List.mem_cons_of_mem _ z)
theorem litI_mem : ∀ (l : List Int) (m : Int), litI m l ∈ m :: l ∧ ∀ y ∈ m :: l, litI m l ≤ y
  | [], m => by simp [litI]
  | i :: l, m => by
    obtain ⟨p1, p2⟩ := litI_mem l (if i < m then i else m)
    unfold litI
    refine ⟨?_, fun y hy => ?_⟩
    · rcases List.mem_cons.mp p1 with z | z
      · rw [z]; split <;> simp
      · exact List.mem_cons_of_mem _ (List.mem_cons_of_mem _ z)
    · have p3 := p2 _ (List.mem_cons_self)
      rcases List.mem_cons.mp hy with rfl | z
      · refine Int.le_trans p3 ?_; split <;> omega
      · rcases List.mem_cons.mp z with rfl | z
        · refine Int.le_trans p3 ?_; split <;> omega
        · exact p2 y (List.mem_cons_of_mem _ z)
def gExt (f : Int → List Int → Int) : GC := fun h vs => match vs with
  | [v] => (match lstOf h v with
    | some ys => (match ys.mapM intOf with
      | some (i :: l) => some (.int (f i l), h)
      | _ => none)
    | none => none)
  | _ => none
theorem gExt_ok {f : Int → List Int → Int} {io : Nat → Addr} {h h' : Hh} {F H : Hp} {vs : List Val} {xs : List V} {z : Val} (sr : SR T K io h F H) (rr : VRs T K io h.length F vs xs) (e : gExt f h vs = some (z, h')) : ∃ a i l, xs = [V.ref a] ∧ SqL K H a ((i :: l).map V.int) ∧ z = .int (f i l) ∧ h' = h := by
  unfold gExt at e
  split at e
  · rename_i v
    cases rr with
    | @cons _ x _ _ r t =>
      cases t
      split at e
      · rename_i ys el
        split at e
        · rename_i i l e1
          cases e
          obtain ⟨a, xs, rfl, sq, r2⟩ := lstOf_ok sr r el
          rw [ints_ok r2 e1] at sq
          exact ⟨a, i, l, rfl, sq, rfl, rfl⟩
        · cases e
      · cases e
  · cases e
theorem lift_max1 : LiftC T K (rMax K) (gExt bigI) := by
  intro io h F H vs xs z h' Q sr rr e q
  obtain ⟨a, i, l, rfl, sq, rfl, rfl⟩ := gExt_ok sr rr e
  obtain ⟨b1, b2⟩ := bigI_mem l i
  refine ⟨a, i :: l, rfl, sq, by simp, fun m h1 h2 => ?_⟩
  rw [Int.le_antisymm (b2 m h1) (h2 _ b1)]
  exact q io F H _ .refl sr (.int _)
theorem lift_min1 : LiftC T K (rMin K) (gExt litI) := by
  intro io h F H vs xs z h' Q sr rr e q
  obtain ⟨a, i, l, rfl, sq, rfl, rfl⟩ := gExt_ok sr rr e
  obtain ⟨b1, b2⟩ := litI_mem l i
  refine ⟨a, i :: l, rfl, sq, by simp, fun m h1 h2 => ?_⟩
  rw [Int.le_antisymm (h2 _ b1) (b2 m h1)]
  exact q io F H _ .refl sr (.int _)
end
/-! ### sorted of a list of texts -/
theorem cps_le_antisymm : ∀ a b : List Nat, ltCps a b = false → ltCps b a = false → a = b
  | [], [], _, _ => rfl
  | [], _ :: _, h, _ => by cases h
  | _ :: _, [], _, h => by cases h
  | a :: r, b :: t, h1, h2 => by
    simp only [ltCps, Bool.or_eq_false_iff, Bool.and_eq_false_iff, decide_eq_false_iff_not, beq_eq_false_iff_ne] at h1 h2
    have e : a = b := by omega
    subst e
    rw [cps_le_antisymm r t (h1.2.resolve_left fun z => z rfl) (h2.2.resolve_left fun z => z rfl)]
theorem cps_le_trans : ∀ a b c : List Nat, ltCps b a = false → ltCps c b = false → ltCps c a = false
  | [], b, c, h1, h2 => by
    cases c with
    | nil => rfl
    | cons c t => rfl
  | a :: r, [], c, h1, h2 => by cases h1
  | a :: r, b :: s, [], h1, h2 => by cases h2
  | a :: r, b :: s, c :: t, h1, h2 => by
    simp only [ltCps, Bool.or_eq_false_iff, Bool.and_eq_false_iff, decide_eq_false_iff_not, beq_eq_false_iff_ne] at h1 h2 ⊢
    refine ⟨by omega, ?_⟩
    by_cases e : c = a
    · subst e
      have e2 : b = c := by omega
      subst e2
      exact .inr (cps_le_trans r s t (h1.2.resolve_left fun z => z rfl) (h2.2.resolve_left fun z => z rfl))
    · exact .inl e
def insS (x : List Nat) : List (List Nat) → List (List Nat)
  | [] => [x]
  | y :: r => if ltCps y x = true then y :: insS x r else x :: y :: r
def srtS : List (List Nat) → List (List Nat)
  | [] => []
  | x :: r => insS x (srtS r)
theorem cps_total : ∀ a b : List Nat, ltCps a b = true → ltCps b a = false
  | [], [], h => by cases h
  | [], _ :: _, _ => rfl
  | _ :: _, [], h => by cases h
  | a :: r, b :: t, h => by
    simp only [ltCps, Bool.or_eq_true, Bool.and_eq_true, decide_eq_true_eq, beq_iff_eq] at h
    simp only [ltCps, Bool.or_eq_false_iff, Bool.and_eq_false_iff, decide_eq_false_iff_not, beq_eq_false_iff_ne]
    rcases h with h | ⟨rfl, h⟩
    · exact ⟨by omega, .inl (by omega)⟩
    · exact ⟨by omega, .inr (cps_total r t h)⟩
theorem insS_perm (x : List Nat) : ∀ l, (insS x l).Perm (x :: l)
  | [] => .refl _
  | y :: r => by
    unfold insS
    split
    · exact ((insS_perm x r).cons y).trans (.swap x y r)
    · exact .refl _
theorem srtS_perm : ∀ l, (srtS l).Perm l
  | [] => .refl _
  | x :: r => (insS_perm x _).trans ((srtS_perm r).cons x)
abbrev LeS (a b : List Nat) : Prop := ltCps b a = false
theorem insS_sorted (x : List Nat) : ∀ l, l.Pairwise LeS → (insS x l).Pairwise LeS
  | [], _ => by simp [insS]
  | y :: r, h => by
    obtain ⟨h1, h2⟩ := List.pairwise_cons.mp h
    unfold insS
    split
    · rename_i hz
      refine List.pairwise_cons.mpr ⟨fun z hz2 => ?_, insS_sorted x r h2⟩
      rcases List.mem_cons.mp ((insS_perm x r).mem_iff.mp hz2) with rfl | q
      · exact cps_total _ _ hz
      · exact h1 z q
    · rename_i hz
      have hz : ltCps y x = false := by simpa using hz
      refine List.pairwise_cons.mpr ⟨fun z hz2 => ?_, h⟩
      rcases List.mem_cons.mp hz2 with rfl | q
      · exact hz
      · exact cps_le_trans x y z hz (h1 z q)
theorem srtS_sorted : ∀ l, (srtS l).Pairwise LeS
  | [] => .nil
  | x :: r => insS_sorted x _ (srtS_sorted r)
theorem rising_pw : ∀ (r : List Str) (p : Str), risingS p r = true → (p :: r).Pairwise fun a b => LeS a.cps.toList b.cps.toList
  | [], p, _ => by simp
  | x :: r, p, h => by
    simp only [risingS, Bool.and_eq_true, Bool.not_eq_true'] at h
    have ih := rising_pw r x h.2
    obtain ⟨i1, i2⟩ := List.pairwise_cons.mp ih
    refine List.pairwise_cons.mpr ⟨fun z hz => ?_, ih⟩
    rcases List.mem_cons.mp hz with rfl | q
    · exact h.1
    · exact cps_le_trans _ _ _ h.1 (i1 z q)
theorem sortedS_eq {ss : List (List Nat)} {ys : List Str} (p : ys.Perm (ss.map fun s => (⟨s.toArray⟩ : Str))) (h : sortedS ys = true) : ys = (srtS ss).map fun s => (⟨s.toArray⟩ : Str) := by
  have pw : ys.Pairwise fun a b => LeS a.cps.toList b.cps.toList := by
    cases ys with
    | nil => exact .nil
    | cons y r => exact rising_pw r y h
  refine List.Perm.eq_of_pairwise (le := fun a b : Str => LeS a.cps.toList b.cps.toList) (fun a b _ _ h1 h2 => ?_) pw ?_ (p.trans ((srtS_perm ss).map _).symm)
  · have := cps_le_antisymm _ _ h2 h1
    cases a; cases b
    simp only [Str.mk.injEq]
    exact Array.toList_inj.mp this
  · rw [List.pairwise_map]
    exact (srtS_sorted ss).imp fun h => by simpa using h
def gSortS : GC := fun h vs => match vs with
  | [v] => (match lstOf h v with
    | some ys => (match ys.mapM strOf with
      | some ss => if ss.length < 64 then some (.lst ((srtS ss).map .str), h) else none
      | none => none)
    | none => none)
  | _ => none
theorem lift_sortS {T : Tb} {K : PySem.W.Frag} : LiftC T K (rSortedS K) gSortS := by
  intro io h F H vs xs z h' Q sr rr e q
  unfold gSortS at e
  split at e
  · rename_i v
    cases rr with
    | @cons _ x _ _ r t =>
      cases t
      split at e
      · rename_i ys el
        split at e
        · rename_i ss em
          split at e
          · rename_i hz
            cases e
            obtain ⟨a, xs, rfl, sq, r2⟩ := lstOf_ok sr r el
            rw [strs_ok r2 em] at sq
            refine ⟨a, _, rfl, sq, by simpa using hz, fun ws p hp hs hn => ?_⟩
            rw [sortedS_eq hp hs]
            exact q io _ _ _ (sr.allocStep hn _) (sr.alloc hn _) (.lst (.inl (.inl upd_same)) (VRs.ofStrs _))
          · cases e
        · cases e
      · cases e
  · cases e
/-! ### list(range(n)) -/
def xListRg1F (a : Ex) : Ex := fun sg h => (a sg h).bind fun u h1 => match u with
  | .int i => if okRg 0 i = true then .ok (.lst (rngL 0 i)) h1 else .bad
  | _ => .bad
theorem je_listRg1F {T : Tb} {X : Cx} {W : WX} {a : Expr} {fa : Ex} {p p2 pos pos2 : Pos} (hl : X.mg "list" = none) (hm : X.mg "range" = none) (hc : X.calm = true) (ha : JE T X W a fa) (hg : Gl X "list" := by rfl) (hg2 : Gl X "range" := by rfl) (na : starEach [a] X.env = (false, eval a X.env) :: starEach [] X.env := by rfl)
    (nc : starEach [.Call (.Name "range" p2) [a] [] pos2] X.env = (false, eval (.Call (.Name "range" p2) [a] [] pos2) X.env) :: starEach [] X.env := by rfl) :
    JE T X W (.Call (.Name "list" p) [.Call (.Name "range" p2) [a] [] pos2] [] pos) (xListRg1F fa) := by
  refine pe_imp (pe_listRg hc hg hl (prg_1 hg2 hm ha na) nc) fun σ H Q ⟨io, h, F, sg, sr, rs, w⟩ => ⟨io, h, F, sg, sr, rs, Wants.bind w fun u h1 io1 F1 H1 x st sr1 vr w1 => ?_⟩
  cases vr with
  | int i =>
    obtain ⟨hz, w2⟩ := ifAnd w1
    exact ⟨i, rfl, okRg_ok hz, fun q hq => w2 _ _ _ _ (sr1.allocStep hq _) (sr1.alloc hq _) (.lst (.inl (.inl upd_same)) (rngL_ok 0 _))⟩
  | _ => exact w1.elim
end Py

namespace Py
open PySem PySem.Spec PyProof.Rows L2
/-! ### an __init__ with loops -/
theorem nr_drop {e : Ex} : ∀ sg h, noRet (xDrop e sg h) = true := fun sg h => nr_res fun _ _ => rfl
theorem nr_resG {r : ResG} {k : Sg → Hh → ResS} (hk : ∀ v h, noRet (k v h) = true) : noRet (r.bindS k) = true := by
  cases r with
  | ok v h => exact hk v h
  | bad => rfl
theorem nr_asg {e : Ex} {g : Gx} : ∀ sg h, noRet (xAsg e g sg h) = true := fun sg h => nr_res fun _ _ => nr_resG fun _ _ => rfl
theorem nr_items {b : Val → Sg → Hh → ResS} (hb : ∀ v sg h, noRet (b v sg h) = true) : ∀ (vs : List Val) (sg : Sg) (h : Hh), noRet (forItems b vs sg h) = true
  | [], _, _ => rfl
  | v :: vs, sg, h => by
    unfold forItems
    have := hb v sg h
    cases q : b v sg h with
    | next sg1 h1 => exact nr_items hb vs sg1 h1
    | cont sg1 h1 => exact nr_items hb vs sg1 h1
    | brk sg1 h1 => rfl
    | ret v h1 => rw [q] at this; exact this
    | exc c fs sg1 h1 => rfl
    | bad => rfl
theorem nr_ref {b : Val → Sg → Hh → ResS} {c : Hh → Option (List Val)} (hb : ∀ v sg h, noRet (b v sg h) = true) : ∀ (m i : Nat) (sg : Sg) (h : Hh), noRet (forRef b c m i sg h) = true
  | 0, _, _, _ => rfl
  | m + 1, i, sg, h => by
    unfold forRef
    split
    · split
      · rfl
      · rename_i v _
        have := hb v sg h
        cases q : b v sg h with
        | next sg1 h1 => exact nr_ref hb m (i + 1) sg1 h1
        | cont sg1 h1 => exact nr_ref hb m (i + 1) sg1 h1
        | brk sg1 h1 => rfl
        | ret v h1 => rw [q] at this; exact this
        | exc c fs sg1 h1 => rfl
        | bad => rfl
    · rfl
theorem nr_for {fi : Ix} {g : Gx} {b : Sx} (hb : ∀ sg h, noRet (b sg h) = true) : ∀ sg h, noRet (xFor fi g b sg h) = true := fun sg h => by
  have hb2 : ∀ v sg h, noRet (bodyOf g b v sg h) = true := fun v sg h => nr_resG fun _ _ => hb _ _
  unfold xFor
  split
  · exact nr_items hb2 _ _ _
  · exact nr_ref hb2 _ _ _ _
  · rfl
  · rfl
end Py

namespace Py
open PySem PySem.Spec PyProof.Rows L2
/-! ### NAME.index(text), NAME a tuple of texts of the module -/
def xTIdx (v : Val) (l : Lx) : Ex := fun sg h => (l sg h).bind fun as h1 => .ofP (gTIdx h1 v as)
theorem je_tidx {T : Tb} {X : Cx} {W : WX} {x : Str} {v : Val} {e : Expr} {fl : Lx} {p apos cpos : Pos} (hm : X.mg x = some (.ref (He.ga X.K x))) (g : GK T X.K X.mg x v) (hd : TidxOk X.K x) (ha : JA T X W [e] fl) (hg : Gl X x := by rfl) (hdb : (x == ("__debug__" : Str)) = false := by decide)
    (hbase : attributeBase (.Name x p) "index" X.env (eval (.Name x p) X.env) = eval (.Name x p) X.env := by rfl)
    (hfew : ((backTo cpos (starEach [e] X.env)).all (fun x => !x.1) && (backToKw cpos (keywordEach [] X.env)).all (fun x => x.1.isSome)
      && decide (([e] : List Expr).length + ([] : List Keyword).length + (if ([] : List Keyword).isEmpty then 0 else 1) < 30)) = true := by rfl)
    (hline : (apos.endLine == cpos.line) = true := by rfl) (hs : starEach [e] X.env = (false, eval e X.env) :: starEach [] X.env := by rfl) (hplain : (backTo cpos (starEach [] X.env)).any (·.1) = false := by rfl) :
    JE T X W (.Call (.Attribute (.Name x p) "index" apos) [e] [] cpos) (xTIdx v fl) := by
  refine pe_imp (pe_bm PySem.F.plainAttrs_tuple PySem.F.slot_tuple_index PySem.F.type_tuple_index mt_tup_index (pe_glob (v := .ref (He.ga X.K x)) hg hm rfl hdb) ha hbase hfew hline hs hplain) fun σ H Q ⟨io, h, F, sg, sr, rs, w⟩ => ?_
  refine ⟨.inr (.inl ⟨rfl, hd⟩), io, h, F, sg, sr, rs, Wants.bindOfL w fun vs h2 io2 F2 H2 xs st2 sr2 vrs w2 => ?_⟩
  obtain ⟨z, h', e, w3⟩ := wants_ofP w2
  obtain ⟨u, y, e1, rel, vr⟩ := g
  rw [hm] at e1
  cases e1
  have ey : y = .ref (He.ga X.K x) := by
    cases y with
    | ref b => cases (show Value.ref (He.ga X.K x) = Value.ref b from rel); rfl
    | _ => first | (cases (show Value.ref (He.ga X.K x) = _ from rel)) | (obtain ⟨t, ht⟩ := (rel : ∃ t, Value.ref (He.ga X.K x) = _); cases ht)
  rw [ey] at vr
  exact lift_tidx io2 h2 F2 H2 v _ vs xs z h' Q sr2 (vr _ _ _) vrs e w3
end Py

namespace Py
open PySem PySem.Spec PyProof.Rows L2
/-! ### None in d, the keys of d being tuples -/
section
variable {prog : Program} {w : World} {A : Around} {E : Value → Shared → Prop} {s : Shared} {d : Addr} {xs : List (NestedKey × Addr × Value)}
theorem tell_none {stored : List Value} {Q : Bool → Shared → Prop} (hst : ∀ v ∈ stored, ∃ k' b, v = .ref b ∧ (nestedKind prog w).is s.heap k' b) (h : Q false s) : wpAny (model prog w) A (tableMayTell .none stored) Q E s := by
  unfold tableMayTell
  split
  · exact wpAny_pure h
  · have e : eqIsQuiet 8 Value.none = pure true := rfl
    rw [e]
    refine wpAny_bind (wpAny_pure ?_)
    simp only [Bool.not_true, Bool.false_eq_true, if_false]
    refine wpAny_bind (wpAny_forIn_list _ (fun rest r s' => s' = s ∧ r = (none, ()) ∧ ∀ v ∈ rest, ∃ k' b, v = .ref b ∧ (nestedKind prog w).is s.heap k' b) _ ?_ ?_ _ _ ⟨rfl, rfl, hst⟩)
    · rintro x rest r s' ⟨rfl, rfl, hr⟩
      obtain ⟨k', b, rfl, hb⟩ := hr x List.mem_cons_self
      refine wpAny_bind ((nestedKind prog w).quiet hb ?_)
      simp only [Bool.not_true, Bool.false_eq_true, if_false]
      exact wpAny_pure ⟨rfl, rfl, fun v hv => hr v (List.mem_cons_of_mem _ hv)⟩
    · rintro r s' ⟨rfl, rfl, _⟩
      exact wpAny_pure h
theorem eq_none {b : Addr} {k : NestedKey} {Q : Bool → Shared → Prop} (hu : A.units + 8 < cLine) (hk : (nestedKind prog w).is s.heap k b) (h : Q false s) : wpAny (model prog w) A (eqBool (.ref b) .none) Q E s := by
  obtain ⟨h1, h2⟩ := hk
  have hz : NestedKey.beq k .none = false := by
    cases h1
    rfl
  have e := eqAt_key k .none A s _ _ h1 .none (by have : min k.depth NestedKey.none.depth ≤ k.depth := Nat.min_le_left _ _; omega)
  rw [hz] at e
  exact e prog w E Q h
theorem find_none {o : PySem.Obj} {es : Array DictEntry} {ep : Nat} {hh : Int} {Q : Option Nat → Shared → Prop} (hu : A.units + 8 < cLine) (ho : s.heap.get? d = some o) (hd : o.data = .dict es ep) (he : es.toList = xs.map (entryOfKey (nestedKind prog w))) (his : ∀ x ∈ xs, (nestedKind prog w).is s.heap x.1 x.2.1)
    (h : Q none s) : wpAny (model prog w) A (dictFind d .none hh) Q E s := by
  have hmem : ∀ e ∈ es, ∃ k b, e.key = .ref b ∧ (nestedKind prog w).is s.heap k b := by
    intro e hin
    have : e ∈ xs.map (entryOfKey (nestedKind prog w)) := he ▸ Array.mem_toList_iff.mpr hin
    obtain ⟨x, hx, rfl⟩ := List.mem_map.mp this
    exact ⟨x.1, x.2.1, rfl, his x hx⟩
  have hat : ∀ (i : Nat) (e : DictEntry), es[i]? = some e → ∃ k b, e.key = .ref b ∧ (nestedKind prog w).is s.heap k b := fun i e hi => hmem e (Array.mem_of_getElem? hi)
  have hst : ∀ v ∈ (placesWithHash es.size (fun i => es[i]?.map (·.hash)) hh).filterMap (fun i => es[i]?.map (·.key)), ∃ k' b, v = .ref b ∧ (nestedKind prog w).is s.heap k' b := by
    intro v hv
    obtain ⟨i, _, hi⟩ := List.mem_filterMap.mp hv
    cases hei : es[i]? with
    | none => rw [hei] at hi; cases hi
    | some e =>
      rw [hei] at hi
      obtain rfl : e.key = v := by simpa using hi
      obtain ⟨k, b, e1, e2⟩ := hat i e hei
      exact ⟨k, b, e1, e2⟩
  unfold dictFind
  try with_reducible refine wpAny_holding ?_
  refine wpAny_bind (wpAny_dictEntries ho hd ?_)
  dsimp only
  by_cases hall : ((Value.none :: (placesWithHash es.size (fun i => es[i]?.map (·.hash)) hh).filterMap (fun i => es[i]?.map (·.key))).all carriedByValue) = true
  · rw [if_pos hall]
    refine wpAny_bind (wpAny_forIn_list _ (fun rest b s' => s' = s ∧ b = (none, ())) _ ?_ ?_ _ _ ⟨rfl, rfl⟩)
    · rintro x rest b s' ⟨rfl, rfl⟩
      cases hei : es[x]? with
      | none => exact wpAny_pure ⟨rfl, rfl⟩
      | some e =>
        obtain ⟨k, b, e1, e2⟩ := hat x e hei
        dsimp only
        by_cases hq : (e.hash == hh) = true
        · rw [if_pos hq]
          refine wpAny_bind (wpAny_dictEpoch ho hd (wpAny_bind ?_))
          rw [e1]
          refine eq_none hu e2 (wpAny_bind (wpAny_dictEpoch ho hd ?_))
          show wpAny _ _ (if (ep != ep) = true then _ else _) _ E _
          rw [if_neg (by simp)]
          simp only [Bool.false_eq_true, if_false]
          first
            | exact wpAny_bind (wpAny_rule (wpAny_pure ⟨rfl, rfl⟩))
            | exact wpAny_pure ⟨rfl, rfl⟩
        · rw [if_neg hq]
          exact wpAny_pure ⟨rfl, rfl⟩
    · rintro b s' ⟨rfl, rfl⟩
      exact wpAny_pure h
  · rw [if_neg hall]
    by_cases hone : (((placesWithHash es.size (fun i => es[i]?.map (·.hash)) hh).filterMap (fun i => es[i]?.map (·.key))) == [Value.none]) = true <;>
    (first | rw [if_pos hone] | rw [if_neg hone]) <;> (first | refine wpAny_bind (wpAny_pure ?_) | refine wpAny_bind (tell_none hst ?_)) <;> (
      rw [if_neg (by simp)]
      refine wpAny_bind (wpAny_forIn_list _ (fun rest b s' => s' = s ∧ b = (none, none)) _ ?_ ?_ _ _ ⟨rfl, rfl⟩)
      · rintro x rest b s' ⟨rfl, rfl⟩
        cases hei : es[x]? with
        | none => exact wpAny_pure ⟨rfl, rfl⟩
        | some e =>
          obtain ⟨k, b, e1, e2⟩ := hat x e hei
          dsimp only
          by_cases hq : (e.hash == hh) = true
          · rw [if_pos hq]
            refine wpAny_bind (wpAny_dictEpoch ho hd (wpAny_bind ?_))
            rw [e1]
            refine eq_none hu e2 (wpAny_bind (wpAny_dictEpoch ho hd ?_))
            show wpAny _ _ (if (ep != ep) = true then _ else _) _ E _
            rw [if_neg (by simp)]
            simp only [Bool.false_eq_true, if_false]
            refine wpAny_bind (wpAny_rule ?_)
            first | rw [if_neg (by simp)] | skip
            first
              | exact wpAny_pure ⟨rfl, rfl⟩
              | exact wpAny_bind (wpAny_pure (wpAny_pure ⟨rfl, rfl⟩))
          · rw [if_neg hq]
            exact wpAny_pure ⟨rfl, rfl⟩
      · rintro b s' ⟨rfl, rfl⟩
        exact wpAny_pure h)
theorem has_none {Q : Bool → Shared → Prop} (hu : A.in1.units + 8 < cLine) (hd : (d == sysModules) = false) (hm : s.heap.DictOfH (nestedKind prog w) d xs) (h : ∀ k, Q false { s with toks := k }) : wpAny (model prog w) A (contains (.ref d) .none) Q E s := by
  refine wpAny_contains_slot hm.typeIs F.slot_dict_contains ?_
  refine call_meetsIn F.slot_dict_contains hm.typeIs F.entry_dict_contains (F.args_dict_contains_2 _ _) (S := fun A' R s' => A' = A ∧ s' = s ∧ ∀ k, R (.ok (.ret (.bool false))) { s with toks := k }) (fun A' R s' hS => ?_) ⟨rfl, rfl, fun k => wpAny_truthy_bool (h k)⟩
  obtain ⟨rfl, rfl, hq⟩ := hS
  obtain ⟨o, es, ep, ho, _, hdd, he, his, hn⟩ := hm
  show wpAny _ _ (dictGet d .none >>= _) _ _ _
  refine wpAny_bind ?_
  unfold dictGet
  try with_reducible refine wpAny_holding ?_
  refine wpAny_bind (pyHash_key .none .none _ _ _ .none (by show A'.in1.units + 0 < cLine; omega) ?_)
  refine wpAny_bind (find_none (xs := xs) hu ho hdd he his ?_)
  refine wpAny_pure ?_
  show wpAny _ _ (Builtin.Dict.pendingKey? d .none >>= _) _ _ _
  exact wpAny_bind (wpAny_pendingKey_other hd (wpAny_pure (hq _)))
end
def rInN (K : PySem.W.Frag) (w : World) : R2 := fun x y H Q => x = .non ∧ ∃ (T : Tb) (io : Nat → Addr) (n : Nat) (F : Hp) (a : Addr) (ks : List Val) (xs ys : List V) (es : Array DictEntry) (ep : Nat),
  T.w = w ∧ (∀ b u, F b = some u → H b = some u) ∧ y = .ref a ∧ DGx T K io n F H a ks xs ys es ep ∧ (∀ k ∈ ks, KeyT k) ∧ Q (.bl false) H
theorem op_inN {X : Cx} (hu : X.A.units + 64 < cLine) : OpR X (compareOp .In) (rInN X.K X.w) := by
  intro pins s σ H x y v u Q I rx ry h
  obtain ⟨rfl, T, io, n, F, a, ks, xs, ys, es, ep, hw, hF, rfl, g, hk, qq⟩ := h
  cases (show v = Value.none from rx)
  cases (show u = Value.ref a from ry)
  obtain ⟨zs, z1, dd, hd, _⟩ := dgx_T I hw hF g hk
  show wpAny (model X.prog X.w) X.A (do return Value.bool (← contains (.ref a) .none)) (EP X pins σ Q) X.xe s
  exact wpAny_bind (has_none (by show X.A.units + 1 + 8 < cLine; omega) hd dd fun k => wpAny_pure ⟨.bl false, H, I.tok k, rfl, qq⟩)
def gInN : G2 := fun h v u => match v, dctOf h u with
  | .non, some (ks, _) => if ks.all isTupV = true then some (.bl false) else none
  | v, _ => gInX h v u
theorem op_inY {X : Cx} {k : Nat} (hr : RoomG k X.A) : OpR X (compareOp .In) (fun x y H Q => rInX X.K X.w x y H Q ∨ rInN X.K X.w x y H Q) := OpR.or (op_inX hr) (op_inN hr.units)
theorem keysT_of {ks : List Val} (h : KeysOk ks) (e : ks.all isTupV = true) : ∀ k ∈ ks, KeyT k := by
  rcases h.1 with z | z
  · exact z
  · intro k hk
    have := List.all_eq_true.mp e k hk
    rcases z k hk with ⟨i, rfl⟩ | ⟨s, rfl⟩ <;> cases this
theorem lift_inY {T : Tb} {K : PySem.W.Frag} {w : World} (hw : T.w = w) : Lift2 T K (fun x y H Q => rInX K w x y H Q ∨ rInN K w x y H Q) gInN := by
  intro io h F H v u x y z Q sr vr ur e q
  have other : gInX h v u = some z → rInX K w x y H Q ∨ rInN K w x y H Q := fun e => .inl (lift_inX hw io h F H v u x y z Q sr vr ur e q)
  by_cases hv : v = .non
  · subst hv
    unfold gInN at e
    cases ed : dctOf h u with
    | none => rw [ed] at e; exact other e
    | some p =>
      obtain ⟨ks, vs⟩ := p
      rw [ed] at e
      dsimp only at e
      split at e
      · rename_i ha
        cases e
        cases vr
        obtain ⟨a, xs, ys, es, ep, rfl, g, r2⟩ := dctOf_ok sr ur ed
        exact .inr ⟨rfl, T, io, h.length, F, a, ks, xs, ys, es, ep, hw, sr.sub, rfl, g, keysT_of g.ok ha, q F H _ .refl sr (.bl _)⟩
      · cases e
  · refine other ?_
    unfold gInN at e
    split at e
    · exact absurd rfl hv
    · exact e
end Py

namespace Py
open PySem PySem.Spec PyProof.Rows L2
/-! ### the box of three -/
def boxF : Fx := fnOf 2 4
 (xSeq (xSet 2 (xOp gAdd (xOp gMul (xC (.int 8087)) (xVar 1)) (xC (.int 61))))
 (xSeq (xIfS (xOp gLt (xVar 1) (xCB gLen (xCons (xVar 0) xNil)))
 (xSet 2 (xCB gAbs (xCons (xOp gIx (xVar 0) (xVar 1)) xNil)))
 (xIfS (xOp gGt (xCB gLen (xCons (xVar 0) xNil)) (xC (.int 0)))
 (xSet 2 (xOp gAdd (xVar 2) (xOp gMul (xOp gMod (xCB gInt1 (xCons (xCB gAbs (xCons (xOp gIx (xVar 0) (xOp gMod (xCB gInt1 (xCons (xVar 1) xNil)) (xCB gLen (xCons (xVar 0) xNil)))) xNil)) xNil)) (xC (.int 2147483629))) (xC (.int 53171)))))
 xSkip))
 (xSeq (xSet 3 (xOp gAdd (xOp gMod (xCB gInt1 (xCons (xOp gAdd (xOp gMul (xOp gMod (xCB gInt1 (xCons (xVar 2) xNil)) (xC (.int 2147483629))) (xC (.int 48271))) (xOp gMul (xC (.int 36343)) (xVar 1))) xNil)) (xC (.int 2147483629))) (xC (.int 1))))
 (xRet (xLst (xCons (xOp gIx (xLstF (xCons (xC (.int 0)) (xCons (xVar 2) xNil))) (xCB gInt1 (xCons (xOp gGe (xVar 2) (xOp gPow (xC (.int 10)) (xC (.int 18)))) xNil))) (xCons (xVar 3) (xCons (xC (.int 0)) xNil))))))))
def takeF : Fx := fnOf 2 4
 (xSeq (xIfS (xOp gGt (xOp gIx (xVar 0) (xC (.int 0))) (xC (.int 0)))
 (xSeq (xSet 2 (xOp gMod (xCB gInt1 (xCons (xOp gIx (xVar 0) (xC (.int 0))) xNil)) (xVar 1)))
 (xSeq (xAsg (xOp gFdiv (xOp gIx (xVar 0) (xC (.int 0))) (xVar 1)) (gSetIx (xVar 0) (xC (.int 0))))
 (xRet (xVar 2))))
 xSkip)
 (xSeq (xAsg (xOp gAdd (xOp gIx (xVar 0) (xC (.int 2))) (xC (.int 1))) (gSetIx (xVar 0) (xC (.int 2))))
 (xSeq (xSet 3 (xOp gMod (xCB gInt1 (xCons (xOp gMul (xOp gAdd (xOp gIx (xVar 0) (xC (.int 1))) (xOp gMul (xC (.int 100003)) (xOp gIx (xVar 0) (xC (.int 2))))) (xC (.int 40692))) xNil)) (xC (.int 2147483647))))
 (xSeq (xAsg (xOp gAdd (xOp gMod (xCB gInt1 (xCons (xOp gAdd (xOp gMul (xVar 3) (xC (.int 48271))) (xC (.int 8111))) xNil)) (xC (.int 2147483629))) (xC (.int 1))) (gSetIx (xVar 0) (xC (.int 1))))
 (xRet (xOp gMod (xCB gInt1 (xCons (xOp gFdiv (xOp gAdd (xOp gMul (xVar 3) (xC (.int 2147483647))) (xOp gIx (xVar 0) (xC (.int 1)))) (xC (.int 8191))) xNil)) (xVar 1)))))))
def tN (b c : Int) : Int := (b + 100003 * (c + 1)) * 40692 % 2147483647
def tA (a m : Int) : Int := if 0 < a then a / m else a
def tB (a b c : Int) : Int := if 0 < a then b else (tN b c * 48271 + 8111) % 2147483629 + 1
def tC (a c : Int) : Int := if 0 < a then c else c + 1
def tD (a b c m : Int) : Int := if 0 < a then a % m else (tN b c * 2147483647 + ((tN b c * 48271 + 8111) % 2147483629 + 1)) / 8191 % m
theorem tD_lo (a b c m : Int) (h0 : 0 < m) : 0 ≤ tD a b c m := by
  unfold tD; split
  · exact Int.emod_nonneg _ (by omega)
  · exact Int.emod_nonneg _ (by omega)
theorem tD_hi (a b c m : Int) (h0 : 0 < m) : tD a b c m < m := by
  unfold tD; split
  · exact Int.emod_lt_of_pos _ h0
  · exact Int.emod_lt_of_pos _ h0
theorem take_eq (a b c m : Int) (h0 : 0 < m) (h1 : m < 1073741824) : takeF [.lst [.int a, .int b, .int c]] [.ref 0, .int m] = .ok (.int (tD a b c m)) [.lst [.int (tA a m), .int (tB a b c), .int (tC a c)]] := by
  by_cases hb : 0 < a
  · simp [tA, tB, tC, tD, tN, takeF, fnOf, xSeq, xIfS, xOp, xVar, xC, xSet, xRet, xAsg, xCB, xCons, xNil, xSkip, Res.bind, Res.bindS, Res.bindL, ResL.bind, ResL.bindL, ResG.bindS, Res.testS, gIx, lstOf, atV, gI, gIc, Res.ofO, Res.ofP, gInt1, gSetIx, mutOf, okMul, hb, h0, h1]
  · simp [tA, tB, tC, tD, tN, takeF, fnOf, xSeq, xIfS, xOp, xVar, xC, xSet, xRet, xAsg, xCB, xCons, xNil, xSkip, Res.bind, Res.bindS, Res.bindL, ResL.bind, ResL.bindL, ResG.bindS, Res.testS, gIx, lstOf, atV, gI, gIc, Res.ofO, Res.ofP, gInt1, gSetIx, mutOf, okMul, hb, h0, h1]
theorem callB_take (T : Nat → List Str) (a b c m : Int) (h0 : 0 < m) (h1 : m < 1073741824) (k : Nat) (h : Hh) (hk : h[k]? = some (.lst [.int a, .int b, .int c])) : callB T takeF [.ref k, .int m] h = .ok (.int (tD a b c m)) (h.set k (.lst [.int (tA a m), .int (tB a b c), .int (tC a c)])) := by
  unfold callB
  simp only [hk]
  rw [if_pos (by rfl), take_eq a b c m h0 h1]
  rfl
/-- the box's last part -/
theorem box_end (l : List Val) (k z : Int) : ∃ a b, (xSeq (xSet 3 (xOp gAdd (xOp gMod (xCB gInt1 (xCons (xOp gAdd (xOp gMul (xOp gMod (xCB gInt1 (xCons (xVar 2) xNil)) (xC (.int 2147483629))) (xC (.int 48271))) (xOp gMul (xC (.int 36343)) (xVar 1))) xNil)) (xC (.int 2147483629))) (xC (.int 1))))
 (xRet (xLst (xCons (xOp gIx (xLstF (xCons (xC (.int 0)) (xCons (xVar 2) xNil))) (xCB gInt1 (xCons (xOp gGe (xVar 2) (xC (.int 1000000000000000000))) xNil))) (xCons (xVar 3) (xCons (xC (.int 0)) xNil)))))) [some (.lst l), some (.int k), some (.int z), none] [] = .ret (.ref 0) [.lst [.int a, .int b, .int 0]] := by
  by_cases hq : 1000000000000000000 ≤ z
  · refine ⟨z, ((z % 2147483629 * 48271 + 36343 * k) % 2147483629 + 1), ?_⟩
    simp [xSeq, xOp, xVar, xC, xSet, xRet, xCB, xCons, xNil, xLst, xLstF, Res.bind, Res.bindS, Res.bindL, ResL.bind, ResL.bindL, gIx, lstOf, atV, gI, gIc, Res.ofO, Res.ofP, gInt1, gLen, okMul, hq]
  · refine ⟨0, ((z % 2147483629 * 48271 + 36343 * k) % 2147483629 + 1), ?_⟩
    simp [xSeq, xOp, xVar, xC, xSet, xRet, xCB, xCons, xNil, xLst, xLstF, Res.bind, Res.bindS, Res.bindL, ResL.bind, ResL.bindL, gIx, lstOf, atV, gI, gIc, Res.ofO, Res.ofP, gInt1, gLen, okMul, hq]
theorem box_ok (ns : List Int) (k : Nat) : ∃ a b, boxF [] [.lst (ns.map Val.int), .int k] = .ok (.ref 0) [.lst [.int a, .int b, .int 0]] := by
  unfold boxF
  rw [pow18]
  have e1 : xSet 2 (xOp gAdd (xOp gMul (xC (.int 8087)) (xVar 1)) (xC (.int 61))) [some (.lst (ns.map Val.int)), some (.int k), none, none] [] = .next [some (.lst (ns.map Val.int)), some (.int k), some (.int (8087 * k + 61)), none] [] := by
    simp [xOp, xVar, xC, xSet, Res.bind, Res.bindS, gI, gIc, Res.ofO, okMul]
  by_cases hk : k < ns.length
  · obtain ⟨a, b, e⟩ := box_end (ns.map Val.int) k (if ns[k] < 0 then -ns[k] else ns[k])
    refine ⟨a, b, fnOf_r rfl ((xSeq_n e1).trans ((xSeq_n (sg1 := [some (.lst (ns.map Val.int)), some (.int k), some (.int (if ns[k] < 0 then -ns[k] else ns[k])), none]) (h1 := []) ?_).trans e))⟩
    simp [xIfS, xOp, xVar, xC, xSet, xCB, xCons, xNil, Res.bind, Res.bindS, Res.bindL, ResL.bind, ResL.bindL, Res.testS, gIx, lstOf, atV, gI, gIc, Res.ofO, Res.ofP, gLen, gAbs, hk]
  · by_cases hp : 0 < ns.length
    · have hj : k % ns.length < ns.length := Nat.mod_lt _ hp
      have hj' : ((k : Int) % (ns.length : Int)).toNat = k % ns.length := by rw [← Int.natCast_emod]; rfl
      have hj0 : 0 ≤ (k : Int) % (ns.length : Int) := Int.emod_nonneg _ (by omega)
      obtain ⟨a, b, e⟩ := box_end (ns.map Val.int) k (8087 * k + 61 + (if ns[k % ns.length] < 0 then -ns[k % ns.length] else ns[k % ns.length]) % 2147483629 * 53171)
      refine ⟨a, b, fnOf_r rfl ((xSeq_n e1).trans ((xSeq_n (sg1 := [some (.lst (ns.map Val.int)), some (.int k), some (.int (8087 * k + 61 + (if ns[k % ns.length] < 0 then -ns[k % ns.length] else ns[k % ns.length]) % 2147483629 * 53171)), none]) (h1 := []) ?_).trans e))⟩
      simp [xIfS, xOp, xVar, xC, xSet, xCB, xCons, xNil, Res.bind, Res.bindS, Res.bindL, ResL.bind, ResL.bindL, Res.testS, gIx, lstOf, atV, gI, gIc, gInt1, okMul, Res.ofO, Res.ofP, gLen, gAbs, hk, hp, hj, hj', hj0]
    · have hn : ns = [] := by
        cases ns with
        | nil => rfl
        | cons _ _ => simp at hp
      subst hn
      obtain ⟨a, b, e⟩ := box_end (([] : List Int).map Val.int) k (8087 * k + 61)
      refine ⟨a, b, fnOf_r rfl ((xSeq_n e1).trans ((xSeq_n (sg1 := [some (.lst (([] : List Int).map Val.int)), some (.int k), some (.int (8087 * k + 61)), none]) (h1 := []) ?_).trans e))⟩
      have c1 : xOp gLt (xVar 1) (xCB gLen (xCons (xVar 0) xNil)) [some (.lst []), some (.int (k : Int)), some (.int (8087 * k + 61)), none] [] = .ok (.bl false) [] := by
        have hz : decide ((k : Int) < 0) = false := decide_eq_false (by omega)
        show Res.ok (.bl (decide ((k : Int) < 0))) [] = _
        rw [hz]
      exact (xIfS_f c1).trans rfl
theorem callO_box (T : Nat → List Str) (ns : List Int) (k : Nat) (h : Hh) : ∃ a b, callO T boxF [.lst (ns.map Val.int), .int k] h = .ok (.ref h.length) (h ++ [.lst [.int a, .int b, .int 0]]) := by
  obtain ⟨a, b, e⟩ := box_ok ns k
  refine ⟨a, b, ?_⟩
  unfold callO
  rw [if_pos (by simp [pureVs, pureV, pureVs_ints]), e]
  rfl
end Py

namespace Py
open PySem PySem.Spec PyProof.Rows L2
section
variable {T : Tb} {X : Cx} {W : WX} {pos : Pos}
/-- x = [.. for .. for ..], kept as it is -/
theorem js_setLc2F (i : Nat) {y : Str} {py spos : Pos} {elt tg iter tg1 iter1 : Expr} {ifs ifs1 : List Expr} {scope : Scope} (own : List (Str × Nat)) {f0 fi : Ix} {g g1 : Gx} {t t1 el : Ex} {ws0 ws : List Nat} (hc : X.calm = true) (hN : X.N.Nodup) (hi : JI T X W tg iter f0) (ok : BlkOk X.N X.env.scope scope own) (hw0 : ∀ j, j ∈ ws0 → j ∈ own.map (·.2)) (hw : ∀ j, j ∈ ws → j ∈ own.map (·.2))
    (hg : Blks X scope fun Y => JGw T Y ws0 tg g) (ht : Blks X scope fun Y => JTs T Y Wno ifs t) (hi1 : Blks X scope fun Y => JI T Y Wno tg1 iter1 fi) (hg1 : Blks X scope fun Y => JGw T Y ws tg1 g1) (ht1 : Blks X scope fun Y => JTs T Y Wno ifs1 t1) (he : Blks X scope fun Y => JE T Y Wno elt el)
    (hy : X.N[i]? = some y := by rfl) (hyl : X.env.scope.names.lookup y = some .local := by rfl)
    (hsw : swapsWith (.ListComp elt [⟨tg, iter, ifs, 0⟩, ⟨tg1, iter1, ifs1, 0⟩] scope pos) (some (.Name y py)) spos.line X.env = pure true := by exact sw_true rfl rfl rfl (by decide +kernel))
    (hs : ∀ x, foldedSetIterable iter X.env x = pure x := by intro _; rfl) (hs1 : ∀ env x, foldedSetIterable iter1 env x = pure x := by intro _ _; rfl) :
    JS T X W (.Assign [.Name y py] (.ListComp elt [⟨tg, iter, ifs, 0⟩, ⟨tg1, iter1, ifs1, 0⟩] scope pos) spos) (xSet i (xComp2F (own.map (·.2)) f0 g t fi ws g1 t1 el)) := by
  refine ps_imp (ps_setLc2 hc hN hy hyl hsw hi ok hw hg ht hi1 hg1 ht1 he hs hs1) fun D σ H ⟨io, h, F, sg, sr, rs, w⟩ => comp2_core (K := X.K) hw0 sr rs ?_
  unfold xSet xComp2F at w
  cases e : xComp2L (own.map (·.2)) f0 g t fi ws g1 t1 el sg h with
  | bad => rw [e] at w; exact w
  | exc c fs h' => rw [e] at w; exact w.elim
  | ok acc h' =>
    rw [e] at w
    intro D io' F' H' xs hD st sr' hd va fd nd
    obtain ⟨s1, s2, mn⟩ := CInv.froze hD st sr' hd fd nd
    exact w _ _ H' _ s1 s2 ((rs.step s1).set i (.lst (SqL.of upd_same) (va.mono (Nat.le_refl _) (fun _ _ => rfl) mn)))
end
end Py

namespace Py
open PySem PySem.Spec PyProof.Rows L2
/-! ### str.replace of written texts: a token must be out -/
abbrev JET (T : Tb) (X : Cx) (W : WX) (e : Expr) (f : Ex) : Prop := PET X e (tE T X.K W f)
abbrev JST (T : Tb) (X : Cx) (W : WX) (st : Stmt) (f : Sx) : Prop := PST X st (tS T X.K W f)
abbrev JSsT (T : Tb) (X : Cx) (W : WX) (st : List Stmt) (f : Sx) : Prop := PSsT X st (tS T X.K W f)
section
variable {X : Cx} {t t' : TS} {te te' : TE} {st : Stmt} {ss : List Stmt} {e : Expr}
theorem pst_imp (h : PST X st t) (i : ∀ D σ H, t' D σ H → t D σ H) : PST X st t' := fun pins s σ H D k I q => h pins s σ H D k I (i D σ H q)
theorem psst_imp (h : PSsT X ss t) (i : ∀ D σ H, t' D σ H → t D σ H) : PSsT X ss t' := fun pins s σ H D k I q => h pins s σ H D k I (i D σ H q)
theorem pet_imp (h : PET X e te) (i : ∀ σ H Q, te' σ H Q → te σ H Q) : PET X e te' := fun pins s σ H Q k I q => h pins s σ H Q k I (i σ H Q q)
theorem thnT {α : Type} {M : Model} {A : Around} {E : Value → Shared → Prop} {s : Shared} {x : Sem α} {P Q : α → Shared → Prop} (h0 : 1 ≤ s.toks) (h : wpAny M A x P E s) (k : ∀ v s', 1 ≤ s'.toks → P v s' → Q v s') : wpAny M A x Q E s :=
  wpAny_mono (PySem.wpAny_toks h) (fun v s' q => k v s' (Nat.le_trans h0 q.1) q.2) fun _ _ z => z.2
/-- for, a token being out -/
theorem pst_forT {tg iter : Expr} {body : List Stmt} {wi : TI} {g : TG} {tb : TS} {pos : Pos} (hp : PassesOwn (model X.prog X.w) X.A X.env X.xe) (hc : X.calm = true) (hi : PI X tg iter wi) (hg : PG X tg g) (hb : PSsT X body tb)
    (hs : ∀ x, foldedSetIterable iter X.env x = pure x := by intro _; rfl) : PST X (.For tg iter body [] pos) (tFor wi g tb) := by
  intro pins s σ H D h0 I h
  refine wpAny_For (thnT h0 (hi.run pins s σ H _ I h) fun v s1 k1 h1 => thnT k1 h1 fun itv s2 k2 h2 => ?_) hs
  obtain ⟨it, fp, tn, J, H2, e, I2, T, st2, f2, Wm, ⟨m0, w0⟩, turn⟩ := h2
  subst e
  have stat : ∀ {H' : Hp}, (∀ b ∈ fp, H' b = none) → ∀ b ∈ fp, FpOk X pins H' b := fun hn b hb => ⟨hn b hb, (f2 b hb).2⟩
  refine codeAny_forLoop_any (fun n s' => 1 ≤ s'.toks ∧ ∃ i σ' H', Inv X pins σ' H' s' ∧ tn i s'.heap ∧ (∀ b ∈ fp, H' b = none) ∧ Wm i n σ' H') ?_ m0 ⟨k2, 0, σ, H2, I2, st2, fun b hb => (f2 b hb).1, w0⟩
  rintro n s3 ⟨k3, i, σ3, H3, I3, st3, fr3, w3⟩
  rcases turn i n σ3 H3 w3 with ⟨stop, qn⟩ | ⟨go, N, hN, step⟩
  · refine wpAny_passesOwn hp (thn (T.done X rfl rfl rfl hc i pins s3 σ3 H3 X.xe I3 (stat fr3) st3 stop) fun r s4 ⟨hr, I4⟩ => ?_)
    subst hr
    exact wpAny_execs_nil ⟨σ3, H3, I4, qn⟩
  · refine wpAny_passesOwn hp (thnT k3 (T.item X rfl rfl rfl hc i pins s3 σ3 H3 X.xe I3 (stat fr3) st3 go) fun r s4 k4 ⟨u, hr, h4⟩ => ?_)
    subst hr
    refine wpAny_passesOwn hp (thnT k4 h4 fun _ s5 k5 ⟨x, H5, I5, r5, y5, st5, fr5⟩ => ?_)
    have I5' := I5.pinned (stat fr5) (T.obj _ _ st5)
    refine wpAny_passesOwn hp (thnT k5 (hg.run _ s5 σ3 H5 x u _ I5' r5 (step x H5 y5)) fun _ s6 k6 ⟨σ6, H6, I6, q6⟩ => ?_)
    refine wpAny_passesOwn hp (thnT k6 (hb _ s6 σ6 H6 _ k6 I6 q6) fun f s7 k7 q7 => ?_)
    have again : ∀ {σ7 : L2.St} {H7 : Hp}, Inv X (pins ++ pinsAt fp s5.heap) σ7 H7 s7 → N σ7 H7 → ∃ m, m < n ∧ 1 ≤ s7.toks ∧ ∃ i σ' H', Inv X pins σ' H' s7 ∧ tn i s7.heap ∧ (∀ b ∈ fp, H' b = none) ∧ Wm i m σ' H' := fun {σ7 H7} I7 n7 => by
      obtain ⟨m', hm, w7⟩ := hN σ7 H7 n7
      have pinned : ∀ b ∈ fp, ∀ o, s5.heap.get? b = some o → s7.heap.get? b = some o ∧ H7 b = none := fun b hb o e => by
        have z := I7.pin (b, o) (List.mem_append_right _ (List.mem_append_right _ (mem_pinsAt hb e)))
        exact ⟨z.1, z.2.1⟩
      refine ⟨m', hm, k7, i + 1, σ7, H7, I7.unpinned, T.keep _ _ _ st5 fun b hb o e => (pinned b hb o e).1, fun b hb => ?_, w7⟩
      obtain ⟨o, e, d⟩ := T.obj _ _ st5 b hb
      exact (pinned b hb o e).2
    match f, q7 with
    | .next, ⟨σ7, H7, I7, n7⟩ => exact again I7 n7
    | .cont, ⟨σ7, H7, I7, n7⟩ => exact again I7 n7
    | .brk, ⟨σ7, H7, I7, q7⟩ => exact ⟨σ7, H7, I7.unpinned, q7⟩
    | .ret v, ⟨x7, σ7, H7, I7, r7, q7⟩ => exact ⟨x7, σ7, H7, I7.unpinned, r7, q7⟩
theorem pst_asgT {tg : Expr} {g : TG} {pos : Pos} (he : PET X e te) (hg : PG X tg g) (hs : swapsWithSole [tg] e pos.line X.env = pure false) (hw : swappedStores [tg] e X.env = pure none) (h1 : (assignEach [tg] X.env).map (·.2) = [assign tg X.env]) : PST X (.Assign [tg] e pos) (tAsg te g) := by
  intro pins s σ H D h0 I h
  refine wpAny_Assign_stores (thn (he pins s σ H _ h0 I h) ?_) hs hw
  rintro v s1 ⟨x, H1, I1, r1, q1⟩
  rw [h1]
  exact hg.run pins s1 σ H1 x v _ I1 r1 q1
theorem pet_bmT {ty id : String} {name : Str} {r : V → List V → Hp → VK → Prop} {o : Expr} {es : List Expr} {to : TE} {ta : TA} {apos cpos : Pos} (pa : PlainAttrs ty) (slot : Slot ty name id) (hty : typeOf (.builtin id) = pure (.type "method_descriptor")) (hm : MtR X id r) (ho : PET X o to) (ha : PA X (e :: es) ta)
    (hbase : attributeBase o name X.env (eval o X.env) = eval o X.env)
    (hfew : ((backTo cpos (starEach (e :: es) X.env)).all (fun x => !x.1) && (backToKw cpos (keywordEach [] X.env)).all (fun x => x.1.isSome) && decide ((e :: es).length + ([] : List Keyword).length + (if ([] : List Keyword).isEmpty then 0 else 1) < 30)) = true)
    (hline : (apos.endLine == cpos.line) = true) (hs : starEach (e :: es) X.env = (false, eval e X.env) :: starEach es X.env) (hplain : (backTo cpos (starEach es X.env)).any (·.1) = false) :
    PET X (.Call (.Attribute o name apos) (e :: es) [] cpos) (tBM X.K ty r to ta) := by
  intro pins s σ H Q h0 I h
  refine wpAny_Call_method_late hbase hfew hline rfl (thn (ho pins s σ H _ h0 I h) ?_)
  rintro v s1 ⟨x, H1, I1, r1, ty1, q1⟩
  obtain ⟨z1, z2⟩ := tyV_is I1 r1 ty1
  have hA := ha.run cpos pins s1 σ H1 _ I1 q1
  refine ⟨ty, id, pa, slot, hty, z1, z2, ?_⟩
  rw [hs] at hA ⊢
  exact Calls.callWith_builtin (by show (false || (backTo cpos (starEach es X.env)).any (·.1)) = false; rw [hplain] <;> rfl) (Calls.evalArgs_plain (thn hA fun us s2 ⟨vs, H2, I2, r2, q2⟩ => hm pins s2 σ H2 x vs v us Q I2 r1 r2 q2))
end
section
variable {T : Tb} {X : Cx} {W : WX} {st : Stmt} {rest : List Stmt} {e : Expr} {fe : Ex} {f g : Sx} {pos : Pos}
theorem jst_of (h : JS T X W st f) : JST T X W st f := PST.of h
theorem jsst_nil : JSsT T X W [] xSkip := PSsT.of jss_nil
theorem jsst_cons (h1 : JST T X W st f) (h2 : JSsT T X W rest g) : JSsT T X W (st :: rest) (xSeq f g) := by
  refine psst_imp (psst_cons h1 h2) fun D σ H ⟨io, h, F, sg, sr, rs, w⟩ => ⟨io, h, F, sg, sr, rs, ?_⟩
  unfold xSeq at w
  cases e : f sg h with
  | next sg1 h1 =>
    rw [e] at w
    exact fun io' F' H' σ' st sr' rs' => ⟨io', h1, F', sg1, sr', rs', WantsS.rebase w st sr'⟩
  | ret v h1 => rw [e] at w; exact w
  | brk v h1 => rw [e] at w; exact w
  | cont v h1 => rw [e] at w; exact w
  | exc c fs sg1 h1 => rw [e] at w; exact w
  | bad => rw [e] at w; exact w
theorem jsst_one (h1 : JST T X W st f) : JSsT T X W [st] f := fun pins s σ H D k I q => by
  refine wpAny_execs_cons (thn (h1 pins s σ H D k I q) fun fl s1 q1 => ?_)
  cases fl with
  | next => exact wpAny_execs_nil q1
  | ret v => exact q1
  | brk => exact q1
  | cont => exact q1
theorem jst_asg {tg : Expr} {g : Gx} (he : JET T X W e fe) (hg : JG T X tg g) (hs : swapsWithSole [tg] e pos.line X.env = pure false := by rfl) (hw : swappedStores [tg] e X.env = pure none := by rfl)
    (h1 : (assignEach [tg] X.env).map (·.2) = [assign tg X.env] := by rfl) : JST T X W (.Assign [tg] e pos) (xAsg fe g) := by
  refine pst_imp (pst_asgT he hg hs hw h1) fun D σ H ⟨io, h, F, sg, sr, rs, w⟩ => ⟨io, h, F, sg, sr, rs, WantsS.ofRes rs w fun v h1 io1 F1 H1 x st sr1 vr w1 => ⟨io1, h1, F1, sg, v, sr1, rs.step st, vr, ?_⟩⟩
  cases e : g v sg h1 with
  | ok sg2 h2 => rw [e] at w1; exact w1
  | bad => rw [e] at w1; exact w1
theorem jst_for {tg iter : Expr} {body : List Stmt} {fi : Ix} {g : Gx} {b : Sx} (hp : PassesOwn (model X.prog X.w) X.A X.env X.xe) (hc : X.calm = true) (hi : JI T X W tg iter fi) (hg : JG T X tg g) (hb : JSsT T X W body b)
    (hs : ∀ x, foldedSetIterable iter X.env x = pure x := by intro _; rfl) : JST T X W (.For tg iter body [] pos) (xFor fi g b) := by
  refine pst_imp (pst_forT hp hc hi hg hb hs) fun D σ H ⟨io, h, F, sg, sr, rs, w⟩ => ⟨io, h, F, sg, sr, rs, ?_⟩
  unfold xFor at w
  cases e : fi sg h with
  | bad => rw [e] at w; exact w
  | exc c fs h1 => rw [e] at w; exact fun io' F' H' d st sr xr => w io' F' H' σ d st sr (rs.step st) xr
  | ok s h1 =>
    rw [e] at w
    intro io1 F1 H1 J st1 sr1 so
    have rs1 := rs.step st1
    cases s with
    | items vs =>
      have w1 := WantsS.rebase w st1 sr1
      refine ⟨fun i m σ H => m = vs.length - i ∧ i ≤ vs.length ∧ ∃ io h F sg, SR T X.K io h F H ∧ RSt T X.K io h.length F sg σ ∧ h1.length ≤ h.length ∧ (∀ k, k < h1.length → io k = io1 k) ∧ (∀ b o, F1 b = some o → F b = some o) ∧ WantsS T X.K io h.length F H W D (forItems (bodyOf g b) (vs.drop i) sg h),
        ⟨vs.length, by simp, Nat.zero_le _, io1, h1, F1, sg, sr1, rs1, Nat.le_refl _, fun _ _ => rfl, fun _ _ e => e, by simpa using w1⟩, ?_⟩
      rintro i m σ2 H2 ⟨rfl, hi', io2, h2, F2, sg2, sr2, rs2, hn2, he2, hF2, w2⟩
      have y := so i io2 h2 F2 H2 sr2 hn2 he2 hF2 hi'
      by_cases hlt : i < vs.length
      · have ev : vs[i]? = some vs[i] := by simp [hlt]
        rw [ev] at y
        rw [List.drop_eq_getElem_cons hlt] at w2
        refine .inr ⟨y.1, fun σ3 H3 => ∃ io h F sg, SR T X.K io h F H3 ∧ RSt T X.K io h.length F sg σ3 ∧ h1.length ≤ h.length ∧ (∀ k, k < h1.length → io k = io1 k) ∧ (∀ b o, F1 b = some o → F b = some o) ∧ WantsS T X.K io h.length F H3 W D (forItems (bodyOf g b) (vs.drop (i + 1)) sg h),
          fun σ' H' n' => ⟨vs.length - (i + 1), by omega, rfl, hlt, n'⟩, turn_of sr2 rs2 y (fun sg3 h3 io3 F3 H3 σ3 eb st3 sr3 rs3 => ?_) (fun sg3 h3 eb => ?_) (fun r eb hr => ?_)⟩
        · unfold forItems at w2
          refine ⟨io3, h3, F3, sg3, sr3, rs3, Nat.le_trans hn2 st3.le, fun k hk => (st3.eq k (Nat.lt_of_lt_of_le hk hn2)).trans (he2 k hk), fun b o e => st3.phi b o (hF2 b o e), ?_⟩
          rcases eb with eb | eb
          · rw [eb] at w2; exact WantsS.rebase w2 st3 sr3
          · rw [eb] at w2; exact WantsS.rebase w2 st3 sr3
        · unfold forItems at w2; rw [eb] at w2; exact w2
        · unfold forItems at w2; rw [eb] at w2
          cases r with
          | next _ _ => exact hr.elim
          | cont _ _ => exact hr.elim
          | brk _ _ => exact hr.elim
          | ret v h3 => exact w2
          | exc c fs sg3 h3 => exact w2
          | bad => exact w2
      · have : i = vs.length := by omega
        subst this
        rw [List.getElem?_eq_none (Nat.le_refl _)] at y
        rw [List.drop_length] at w2
        exact .inl ⟨y, w2 io2 F2 H2 σ2 .refl sr2 rs2⟩
    | ref k =>
      have w1 := WantsS.rebase w st1 sr1
      refine ⟨fun i m σ H => ∃ io h F sg, SR T X.K io h F H ∧ RSt T X.K io h.length F sg σ ∧ h1.length ≤ h.length ∧ (∀ k, k < h1.length → io k = io1 k) ∧ (∀ b o, F1 b = some o → F b = some o) ∧ WantsS T X.K io h.length F H W D (forRef (bodyOf g b) k m i sg h),
        ⟨1000000, io1, h1, F1, sg, sr1, rs1, Nat.le_refl _, fun _ _ => rfl, fun _ _ e => e, w1⟩, ?_⟩
      rintro i m σ2 H2 ⟨io2, h2, F2, sg2, sr2, rs2, hn2, he2, hF2, w2⟩
      cases m with
      | zero => exact w2.elim
      | succ m =>
        unfold forRef at w2
        cases ek : k h2 with
        | none => rw [ek] at w2; exact w2.elim
        | some xs =>
          rw [ek] at w2
          · have y := so i io2 h2 F2 H2 xs sr2 hn2 he2 hF2 ek
            dsimp only at w2
            cases ev : xs[i]? with
            | none => rw [ev] at w2 y; exact .inl ⟨y, w2 io2 F2 H2 σ2 .refl sr2 rs2⟩
            | some v =>
              rw [ev] at w2 y
              dsimp only at w2
              refine .inr ⟨y.1, fun σ3 H3 => ∃ io h F sg, SR T X.K io h F H3 ∧ RSt T X.K io h.length F sg σ3 ∧ h1.length ≤ h.length ∧ (∀ k, k < h1.length → io k = io1 k) ∧ (∀ b o, F1 b = some o → F b = some o) ∧ WantsS T X.K io h.length F H3 W D (forRef (bodyOf g b) k m (i + 1) sg h),
                fun σ' H' n' => ⟨m, Nat.lt_succ_self _, n'⟩, turn_of sr2 rs2 y (fun sg3 h3 io3 F3 H3 σ3 eb st3 sr3 rs3 => ?_) (fun sg3 h3 eb => ?_) (fun r eb hr => ?_)⟩
              · refine ⟨io3, h3, F3, sg3, sr3, rs3, Nat.le_trans hn2 st3.le, fun k hk => (st3.eq k (Nat.lt_of_lt_of_le hk hn2)).trans (he2 k hk), fun b o e => st3.phi b o (hF2 b o e), ?_⟩
                rcases eb with eb | eb
                · rw [eb] at w2; exact WantsS.rebase w2 st3 sr3
                · rw [eb] at w2; exact WantsS.rebase w2 st3 sr3
              · rw [eb] at w2; exact w2
              · rw [eb] at w2
                cases r with
                | next _ _ => exact hr.elim
                | cont _ _ => exact hr.elim
                | brk _ _ => exact hr.elim
                | ret v h3 => exact w2
                | exc c fs sg3 h3 => exact w2
                | bad => exact w2
      /-! the things that are walked -/
def xRepl (y z : List Nat) (o : Ex) : Ex := fun sg h => (o sg h).bind fun v h1 => match v with
  | .str x => if x.length ≤ 1000 ∧ z.length ≤ 1000 then .ok (.str (unS (Txt.replace ⟨x.toArray⟩ ⟨y.toArray⟩ ⟨z.toArray⟩))) h1 else .bad
  | _ => .bad
end
section
variable {T : Tb} {X : Cx} {W : WX} {e o : Expr} {es : List Expr} {fe fo : Ex} {fl : Lx} {apos cpos pos : Pos}
theorem jet_repl (y z : List Nat) {y' z' : Str} {j k : Nat} {c0 c1 : Pos} (ho : JE T X W o fo) (ey : y' = ⟨y.toArray⟩ := by rfl) (ez : z' = ⟨z.toArray⟩ := by rfl) (hyz : (y' == z') = false := by decide)
    (hst : starEach [.Constant (.str y') j c0, .Constant (.str z') k c1] X.env = [(false, eval (.Constant (.str y') j c0) X.env), (false, eval (.Constant (.str z') k c1) X.env)] := by rfl)
    (hbase : attributeBase o "replace" X.env (eval o X.env) = eval o X.env := by rfl) (hline : (apos.endLine == pos.line) = true := by rfl) :
    JET T X W (.Call (.Attribute o "replace" apos) [.Constant (.str y') j c0, .Constant (.str z') k c1] [] pos) (xRepl y z fo) := by
  subst ey ez
  refine pet_imp (CwR.pet_replC ho hyz hst hbase hline) fun σ H Q ⟨io, h, F, sg, sr, rs, w⟩ => ⟨io, h, F, sg, sr, rs, Wants.bind w fun v h1 io1 F1 H1 x st sr1 vr w1 => ?_⟩
  cases vr with
  | str x =>
    obtain ⟨⟨h2, h3⟩, w2⟩ := ifAnd w1
    refine ⟨_, rfl, ?_, w2 io1 F1 H1 _ .refl sr1 (VR.unS _)⟩
    rw [str_len, str_len]
    have : (x.length + 1) * z.length ≤ 1001 * 1000 := Nat.mul_le_mul (by omega) h3
    omega
  | _ => exact w1.elim
theorem jet_bm {ty id : String} {name : Str} {r : V → List V → Hp → VK → Prop} {g : GM} (pa : PlainAttrs ty) (slot : Slot ty name id) (hty : typeOf (.builtin id) = pure (.type "method_descriptor")) (hm : MtR X id r) (hl : LiftM T X.K r g) (ho : JET T X W o fo) (ha : JA T X W (e :: es) fl)
    (hbase : attributeBase o name X.env (eval o X.env) = eval o X.env := by rfl)
    (hfew : ((backTo cpos (starEach (e :: es) X.env)).all (fun x => !x.1) && (backToKw cpos (keywordEach [] X.env)).all (fun x => x.1.isSome)
      && decide ((e :: es).length + ([] : List Keyword).length + (if ([] : List Keyword).isEmpty then 0 else 1) < 30)) = true := by rfl)
    (hline : (apos.endLine == cpos.line) = true := by rfl) (hs : starEach (e :: es) X.env = (false, eval e X.env) :: starEach es X.env := by rfl) (hplain : (backTo cpos (starEach es X.env)).any (·.1) = false := by rfl) :
    JET T X W (.Call (.Attribute o name apos) (e :: es) [] cpos) (xBM ty g fo fl) := by
  refine pet_imp (pet_bmT pa slot hty hm ho ha hbase hfew hline hs hplain) fun σ H Q ⟨io, h, F, sg, sr, rs, w⟩ => ⟨io, h, F, sg, sr, rs, Wants.bind w fun ov h1 io1 F1 H1 x st sr1 vr w1 => ?_⟩
  obtain ⟨ht, w1⟩ := ifAnd w1
  refine ⟨isTy_ok sr1 vr ht, io1, h1, F1, sg, sr1, rs.step st, Wants.bindOfL w1 fun vs h2 io2 F2 H2 xs st2 sr2 vrs w2 => ?_⟩
  obtain ⟨z, h', e, w3⟩ := wants_ofP w2
  exact hl io2 h2 F2 H2 ov x vs xs z h' Q sr2 (vr.step st2) vrs e w3
end
section
variable {P : Program} {w : World} {K : PySem.W.Frag} {mg : Str → Option Value} {base : Heap} {C : CXT} {k : Nat} {f : Addr} {x qual : Str} {params : Arguments} {body : List Stmt} {scope : Scope} {dvs : List V} {kws : List (Str × V)} {fd : FuncData} {N ps : List Str} {sp : Sp}
/-- the promise, a token being out as parameters are bound -/
theorem fnG_ofT (FD : FunD K x qual params body scope dvs kws f fd) (S : FnScope N ps scope) (hnc : ∀ y ∈ scope.names, y.2 ≠ .cell) (hps : 1 ≤ ps.length) (hlen : ∀ vs H Q E, sp vs H Q E → vs.length = ps.length)
    (hbd : ∀ (cdv : Value) (A : Around) (outer : List Env) (s : Shared) (H : Hp) (vs : List V) (Q : VK) (E : XK), RoomG k (A.deeper (envOfC qual scope s.heap.objs.size f cdv)) → sp vs H Q E →
      ∃ t, PSsT (cxOf C P w K mg base N qual scope f cdv A outer s H E) body t ∧ t { nx := fun _ H' => Q .non H', rt := Q } (start N vs) H) : FnG P w K mg base C (k + 1) f fd ps sp := by
  obtain ⟨oc, od, dV, kV, doc, pm, an, cdv, ct, osl, rfl, lk, hcd, _, _⟩ := FD.ex
  refine ⟨hlen, fun A outer s H args us vs Q E room e0 hbind rel hs => ?_⟩
  have many : vs.length = ps.length := hlen _ _ _ _ hs
  have manyU : us.length = ps.length := rel.length.symm.trans many
  have KI : K.In s.heap := e0.mod.kin.keeps fun b o z => (e0.bs b o z).1
  have nolim : s.heap.NoLimit := e0.mod.nolimit.keeps fun b o z => (e0.bs b o z).1
  have locals : ∀ y ∈ ps.zip us, scope.names.lookup y.1 = some .local := by
    rintro ⟨n, v⟩ hy
    exact (S.par n (List.of_mem_zip hy).1).elim id fun z => (hnc _ (PySem.mem_of_lookup z) rfl).elim
  refine codeAny_call_function room.rm.depth (KI _ _ lk) rfl S.co S.gen rfl (PySem.W.codeRec_of KI hcd) (hbind _ _ _ _ (wpAny_newFunctionEnv hnc locals (fun hn ns sb => ?_) S.kind))
  have pairs : (ps.zip us).length = ps.length := by simp [manyU]
  have noCells : cellsFrom (s.heap.objs.size + 1) scope.names [] = [] := cells_none _ _ _ hnc
  have kinds : ∀ y ∈ ps.zip us, (envOfC qual scope s.heap.objs.size f cdv).kindOf y.1 = some .local := fun y hy => by
    first
      | exact locals y hy
      | simpa [Env.kindOf, envOfC, newEnv, S.kind] using locals y hy
  have same : (bindL (envOfC qual scope s.heap.objs.size f cdv).kindOf (ps.zip us) fun _ => none) = fun z => (ps.zip us).reverse.lookup z := funext fun z => by
    rw [bindL_loc _ _ kinds z]
    cases (ps.zip us).reverse.lookup z <;> rfl
  have stays : ∀ b o, s.heap.get? b = some o → hn.get? b = some o := fun b o z => sb.extBut b o (Nat.ne_of_lt (Heap.lt_size z)) (Heap.get?_push_of_some _ z)
  have theEnv : newEnv scope s.heap.objs.size mainGlobals [] (qual ++ ".<locals>.") (some f) cdv none builtinsNs = envOfC qual scope s.heap.objs.size f cdv := by
    unfold envOfC
    rw [noCells] <;> rfl
  have within : InCallC s s.heap.objs.size (bindL (envOfC qual scope s.heap.objs.size f cdv).kindOf (ps.zip us) fun _ => none) (cellsFrom (s.heap.objs.size + 1) scope.names []) (bindC (envOfC qual scope s.heap.objs.size f cdv).kindOf (ps.zip us) fun _ => none)
      ({ s with heap := hn, toks := s.toks + (ps.zip us).length } : Shared) := by
    rw [same, noCells]
    exact ⟨⟨⟨_, _, rfl⟩, ns, stays, Nat.le_refl _⟩, fun n c z => absurd z (by simp), .nil, fun n c z => absurd z (by simp)⟩
  have out : 1 ≤ ({ s with heap := hn, toks := s.toks + (ps.zip us).length } : Shared).toks := by
    show 1 ≤ s.toks + (ps.zip us).length
    rw [pairs]; omega
  show Heap.NoLimit _ ∧ codeAny (model P w) A (.func body (newEnv scope s.heap.objs.size mainGlobals [] (qual ++ ".<locals>.") (some f) cdv none builtinsNs)) _ _
  rw [theEnv]
  generalize ({ s with heap := hn, toks := s.toks + (ps.zip us).length } : Shared) = s1 at within out ⊢
  refine ⟨nolim.keeps within.toInCall.keep, codeAny_func ?_⟩
  obtain ⟨t, rt, wt⟩ := hbd cdv A outer s H vs Q E (room.deeper _) hs
  have I0 : L2.Inv (cxOf C P w K mg base N qual scope f cdv A outer s H E) [] (start N vs) H s1 := inv_start S room.rm.hd e0 many rel within
  refine wpAny_mono (rt [] s1 _ H _ out I0 wt) (fun flow s2 h2 => ?_) fun _ _ z => z
  match flow, h2 with
  | .ret u, ⟨v, σ2, H2, J, rv, q⟩ => exact ⟨v, H2, J.os, J.bare, J.base, J.hok, rv, q⟩
  | .next, ⟨σ2, H2, J, q⟩ => exact ⟨V.non, H2, J.os, J.bare, J.base, J.hok, rfl, q⟩
  | .brk, ⟨_, _, _, q⟩ => exact False.elim q
  | .cont, ⟨_, _, _, q⟩ => exact False.elim q
theorem fn_okT {T : Tb} {fb : Sx} (FD : FunD K x qual params body scope dvs kws f fd) (S : FnScope N ps scope) (hnc : ∀ y ∈ scope.names, y.2 ≠ .cell) (hps : 1 ≤ ps.length)
    (hb : ∀ (cdv : Value) (A : Around) (outer : List Env) (s : Shared) (H : Hp) (E : XK), RoomG k (A.deeper (envOfC qual scope s.heap.objs.size f cdv)) →
      JSsT T (cxOf (CX P w) P w K mg base N qual scope f cdv A outer s H E) (fun c d _ H => E c d H) body fb) :
    FnG P w K mg base (CX P w) (k + 1) f fd ps (spF T K (fnOf ps.length N.length fb)) := by
  have len : ∀ vs H Q E, spF T K (fnOf ps.length N.length fb) vs H Q E → vs.length = ps.length := by
    rintro vs H Q E ⟨io, h, F, as, sr, vrs, w⟩
    unfold fnOf at w
    rw [← vrs.length]
    exact (ifAnd w).1
  refine fnG_ofT FD S hnc hps len ?_
  rintro cdv A outer s H vs Q E hr ⟨io, h, F, as, sr, vrs, w⟩
  refine ⟨_, hb cdv A outer s H E hr, ?_⟩
  unfold fnOf at w
  obtain ⟨hl, w⟩ := ifAnd w
  have e : L2.start N vs = vs.map some ++ List.replicate (N.length - ps.length) none := by unfold L2.start; rw [← vrs.length, hl]
  rw [e]
  refine ⟨io, h, F, _, sr, rst_start vrs _, ?_⟩
  cases q : fb (as.map some ++ List.replicate (N.length - ps.length) none) h with
  | next sg h1 => rw [q] at w; exact fun io' F' H' σ' st sr' rs' => w io' F' H' _ st sr' .non
  | ret v h1 => rw [q] at w; exact w
  | brk sg h1 => rw [q] at w; exact w.elim
  | cont sg h1 => rw [q] at w; exact w.elim
  | exc c fs sg h1 => rw [q] at w; exact fun io' F' H' σ' d st sr' rs' xr => w io' F' H' d st sr' xr
  | bad => rw [q] at w; exact w.elim
end
end Py

namespace Py
open PySem PySem.Spec PyProof.Rows L2
/-! ### a, b, .. = a list -/
def gTuL (n : Nat) (r : Gs) : Gx := fun v sg h => match lstOf h v with
  | some vs => if vs.length = n then r vs sg h else .bad
  | none => .bad
theorem jg_unl {T : Tb} {X : Cx} {pos : Pos} {tgs : List Expr} {k : Nat} {r : Gs} {n : Nat} (hc : X.calm = true) (h : JGs T X tgs r) (hn : (assignEach tgs X.env).length = n := by rfl) (hst : (assignEach tgs X.env).findIdx? (·.1) = none := by rfl) : JG T X (.Tuple tgs k pos) (gTuL n r) := by
  refine pg_imp (pg_unl hc h hn hst) fun x σ H Q ⟨io, hh, F, sg, v, sr, rs, vr, w⟩ => ?_
  have w0 : WantsG T X.K io hh.length F H Q (gTuL n r v sg hh) := w
  unfold gTuL at w0
  cases el : lstOf hh v with
  | none => rw [el] at w0; exact w0.elim
  | some vs =>
    rw [el] at w0
    have w' : WantsG T X.K io hh.length F H Q (if vs.length = n then r vs sg hh else .bad) := w0
    obtain ⟨a, xs, rfl, sq, r'⟩ := lstOf_ok sr vr el
    by_cases hl : vs.length = n
    · rw [if_pos hl] at w'
      exact ⟨a, xs, rfl, sq, by rw [← r'.length]; exact hl, io, hh, F, sg, vs, sr, rs, r', w'⟩
    · rw [if_neg hl] at w'; exact w'.elim
end Py

namespace Py
open PySem PySem.Spec PyProof.Rows L2
/-! ### while -/
def whileN (c : Ex) (b : Sx) : Nat → Sx
  | 0, _, _ => .bad
  | m + 1, sg, h => (c sg h).testS sg (fun h1 => match b sg h1 with
    | .next sg2 h2 => whileN c b m sg2 h2
    | .cont sg2 h2 => whileN c b m sg2 h2
    | .brk sg2 h2 => .next sg2 h2
    | .ret v h2 => .ret v h2
    | .exc k fs sg2 h2 => .exc k fs sg2 h2
    | .bad => .bad) (fun h1 => .next sg h1)
def xWhile (c : Ex) (b : Sx) : Sx := whileN c b 100000
section
variable {T : Tb} {X : Cx} {W : WX} {pos : Pos}
theorem js_while {c : Expr} {body : List Stmt} {fc : Ex} {b : Sx} (hp : PassesOwn (model X.prog X.w) X.A X.env X.xe) (hc : JT T X W c fc) (hb : JSs T X W body b) : JS T X W (.While c body [] pos) (xWhile fc b) := by
  refine ps_imp (ps_while hp hc hb) fun D σ H ⟨io, h, F, sg, sr, rs, w⟩ => ?_
  refine ⟨fun m σ H => ∃ io h F sg, SR T X.K io h F H ∧ RSt T X.K io h.length F sg σ ∧ WantsS T X.K io h.length F H W D (whileN fc b m sg h), ⟨100000, io, h, F, sg, sr, rs, w⟩, ?_⟩
  rintro m σ1 H1 ⟨io1, h1, F1, sg1, sr1, rs1, w1⟩
  cases m with
  | zero => exact w1.elim
  | succ m =>
    refine ⟨io1, h1, F1, sg1, sr1, rs1, WantsS.ofTest rs1 w1 fun v h2 io2 F2 H2 st2 sr2 w2 => ?_⟩
    cases v with
    | false => rw [if_neg Bool.false_ne_true] at w2 ⊢; exact w2 io2 F2 H2 σ1 .refl sr2 (rs1.step st2)
    | true =>
      rw [if_pos rfl] at w2 ⊢
      refine ⟨fun σ' H' => ∃ io h F sg, SR T X.K io h F H' ∧ RSt T X.K io h.length F sg σ' ∧ WantsS T X.K io h.length F H' W D (whileN fc b m sg h), fun σ' H' z => ⟨m, Nat.lt_succ_self m, z⟩, io2, h2, F2, sg1, sr2, rs1.step st2, ?_⟩
      cases e : b sg1 h2 with
      | next sg3 h3 => rw [e] at w2; exact fun io' F' H' σ' st sr' rs' => ⟨io', h3, F', sg3, sr', rs', WantsS.rebase w2 st sr'⟩
      | cont sg3 h3 => rw [e] at w2; exact fun io' F' H' σ' st sr' rs' => ⟨io', h3, F', sg3, sr', rs', WantsS.rebase w2 st sr'⟩
      | brk sg3 h3 => rw [e] at w2; exact w2
      | ret v h3 => rw [e] at w2; exact w2
      | exc k fs sg3 h3 => rw [e] at w2; exact w2
      | bad => rw [e] at w2; exact w2
end
/-! ### list.count of a text -/
def eqT (z : Str) (v : Value) : Bool := match v with
  | .str x _ => x == z
  | _ => false
theorem eqT_gives {z : Str} {t : Tok} : ∀ {ys : List Str} {us : List Value}, Vals (ys.map V.str) us → ∀ y ∈ us, MeetsSeq.EqGives y (.str z t) (eqT z y)
  | [], _, .nil => fun y hy => by cases hy
  | x :: ys, _, .cons r h => fun y hy => by
    obtain ⟨t', rfl⟩ := r
    rcases List.mem_cons.mp hy with e | e
    · rw [e]
      have e2 : eqT z (.str x t') = (x.cps.toList == z.cps.toList) := by
        show (x == z) = _
        rw [Bool.eq_iff_iff, beq_iff_eq, beq_iff_eq]
        exact ⟨fun h => by rw [h], fun h => by cases x; cases z; simp only [Str.mk.injEq]; exact Array.toList_inj.mp h⟩
      rw [e2]
      exact SeqRoads2.EqGives.str x z t' t
    · exact eqT_gives h y e
theorem eqT_count {z : Str} : ∀ {ys : List Str} {us : List Value}, Vals (ys.map V.str) us → us.countP (eqT z) = ys.count z
  | [], _, .nil => rfl
  | x :: ys, _, .cons r h => by
    obtain ⟨t', rfl⟩ := r
    have ih := eqT_count (z := z) h
    rw [List.countP_cons, List.count_cons, ih] <;> rfl
def rCntS (K : PySem.W.Frag) : V → List V → Hp → VK → Prop := fun x xs H Q => ∃ (p : Addr) (ys : List Str) (z : Str), x = .ref p ∧ xs = [.str z] ∧ SqL K H p (ys.map V.str) ∧ Q (.int (ys.count z : Nat)) H
theorem mt_cntS {X : Cx} : MtR X "list.count" (rCntS X.K) := by
  intro pins s σ H x xs v us Q I rx rxs h
  obtain ⟨p, ys, z, rfl, rfl, hs, q⟩ := h
  cases rx
  obtain ⟨u, rfl, ru⟩ := vals1 rxs
  obtain ⟨t, rfl⟩ := ru
  obtain ⟨its, rv, ⟨⟨cls, dd, data, sl⟩, n, ho, hc, hdn, hd⟩, hlen⟩ := I.list hs
  simp only at hc hd
  subst hc hd
  refine call_meets PySem.F.slot_list_count ⟨_, ho, rfl⟩ PySem.F.entry_list_count (PySem.F.args_list_count_2 _ _) (SeqAt.list_countAt p its.toArray n dd sl (.str z t) (eqT z)) ⟨ho, fun y hy => (eqT_gives rv y (by simpa using hy)).at _ _, ?_⟩
  have ec : its.toArray.toList.countP (eqT z) = ys.count z := eqT_count rv
  refine ⟨.int (ys.count z : Nat), H, I.tok _, ⟨s.toks, ?_⟩, q⟩
  show Value.int ((its.toArray.toList.countP (eqT z) : Nat) : Int) s.toks = _
  rw [ec]
def cntS (z : List Nat) : List (List Nat) → Nat
  | [] => 0
  | s :: ss => if s = z then cntS z ss + 1 else cntS z ss
theorem cntS_eq (z : List Nat) : ∀ ss : List (List Nat), (ss.map fun s => (⟨s.toArray⟩ : Str)).count ⟨z.toArray⟩ = cntS z ss
  | [] => rfl
  | s :: ss => by
    rw [List.map_cons, List.count_cons, cntS_eq z ss, cntS]
    by_cases h : s = z
    · subst h; simp
    · have : ¬ ((⟨s.toArray⟩ : Str) == ⟨z.toArray⟩) = true := fun e => h (arr_inj (eq_of_beq e))
      rw [if_neg this, if_neg h]; rfl
def gCntS : GM := fun h v vs => match vs with
  | [.str z] => (match lstOf h v with
    | some us => (us.mapM strOf).map fun ss => (Val.int (Int.ofNat (cntS z ss)), h)
    | none => none)
  | _ => none
theorem lift_cntS {T : Tb} {K : PySem.W.Frag} : LiftM T K (rCntS K) gCntS := by
  intro io h F H v x vs xs z h' Q sr vr rr e q
  unfold gCntS at e
  split at e
  · rename_i z0
    split at e
    · rename_i us el
      obtain ⟨ss, e1, e2⟩ := map_some e
      cases e2
      obtain ⟨a, xs2, rfl, sq, r2⟩ := lstOf_ok sr vr el
      rw [strs_ok r2 e1] at sq
      cases rr with
      | cons r3 t3 =>
        cases t3
        cases r3
        refine ⟨a, _, _, rfl, rfl, sq, ?_⟩
        rw [cntS_eq]
        exact q io F H _ .refl sr (.int _)
    · cases e
  · cases e
end Py

namespace Py
open PySem PySem.Spec PyProof.Rows L2
/-! ### list(d.values()) -/
section
variable {X : Cx} {e : Expr} {td : TE} {p pos apos cpos : Pos}
def tLVX (td : TE) : TE := fun σ H Q => td σ H fun x H1 => ∃ d es ep, ∃ ys : List V, x = .ref d ∧ H1 d = some (DO d es ep) ∧ Vals ys (es.toList.map (·.val)) ∧ ∀ a : Addr, H1 a = none → Q (.ref a) (upd H1 a (.lst ys))
theorem pe_listVals (hc : X.calm = true) (hg : Gl X "list") (hm : X.mg "list" = none) (he : PE X e td)
    (hbase : attributeBase e "values" X.env (eval e X.env) = eval e X.env) (hline : (apos.endLine == cpos.line) = true)
    (na : starEach [.Call (.Attribute e "values" apos) [] [] cpos] X.env = (false, eval (.Call (.Attribute e "values" apos) [] [] cpos) X.env) :: starEach [] X.env) :
    PE X (.Call (.Name "list" p) [.Call (.Attribute e "values" apos) [] [] cpos] [] pos) (tLVX td) := by
  refine ⟨fun pins s σ H Q I h => ?_⟩
  refine Call_ (ld_blt I hg hm boot_list (PyProof.Rows.callWith_type1 (args_cons ?_ na) na))
  refine wpAny_Call_method (T := "dict") (id := "dict.values") hbase rfl hline PySem.F.plainAttrs_dict PySem.F.slot_dict_values PySem.F.type_dict_values (thn (he.run pins s σ H _ I h) ?_)
  rintro u s1 ⟨x, H1, I1, rx, d, es, ep, ys, rfl, hd, hys, q⟩
  obtain rfl : u = Value.ref d := rx
  obtain ⟨h1, h2, h3⟩ := do_at I1 hd
  refine ⟨h3.typeIs, raw_noDict h3, ?_⟩
  have I2 : L2.Inv X pins σ H1 { s1 with heap := s1.heap.push { cls := .type "dict_values", data := .fields #[.ref d] } } := I1.kept (t' := s1.toks) fun b ob z => Heap.get?_push_of_some _ z
  show wpAny _ _ (callWith cpos (.builtin "dict.values") [.ref d] [] []) _ X.xe s1
  refine method_meetsIn PySem.F.slot_dict_values PySem.F.entry_dict_values rfl (PySem.evalArgs_none ⟨rfl, h3.typeIs, PySem.F.args_dict_values_1 _, _, meets_dict_values_raw d h1, ⟨es, ep, h3⟩, ?_⟩)
  refine args_nil ?_
  refine PySem.W.kdl_call (PySem.KdlSrc.rawValues (d := d) (es := es) (ep := ep)) (I2.ok.hd hc) ⟨⟨_, Heap.get?_push_size _ rfl, rfl, rfl⟩, h3.at fun o z => Heap.get?_push_of_some _ z⟩ h2 fun h' tk acc' c' hk hS hacc => ?_
  have ev : acc'.toList = es.toList.map (·.val) := by
    apply List.ext_getElem?
    intro i
    rw [List.getElem?_map, Array.getElem?_toList, Array.getElem?_toList]
    by_cases hi : i < es.size
    · have hi2 : i < acc'.size := by rw [hacc.1]; exact hi
      obtain ⟨_, e2⟩ := hacc.2 i acc'[i] (by simp [hi2])
      simp [hi, hi2, e2]
    · have hi2 : ¬ i < acc'.size := by rw [hacc.1]; exact hi
      simp [hi, hi2]
  have nw := I2.hok.fresh (Nat.le_refl _)
  refine ⟨.ref _, upd H1 _ (.lst ys), I2.laid (t' := tk) hk (Nat.le_refl _) (show ObjOk X.prog X.w _ _ _ (.lst ys) from ⟨?_, acc'.toList, c', by rw [ev]; exact hys, by rw [Array.toArray_toList]; exact hS⟩), rfl, q _ nw⟩
  rw [hys.length, List.length_map, Array.length_toList]
  exact h2
end
def xListVals (e : Ex) : Ex := fun sg h => (e sg h).bind fun v h1 => match dctOf h1 v with
  | some (_, vs) => .ok (.lst vs) h1
  | none => .bad
theorem ents_vals {w : World} : ∀ {es : List DictEntry} {ks : List Val} {xs ys : List V}, Ents w es ks xs ys → Vals ys (es.map (·.val))
  | [], [], [], [], _ => .nil
  | e :: es, k :: ks, x :: xs, y :: ys, ⟨⟨_, _, h⟩, t⟩ => .cons h (ents_vals t)
  | [], [], [], _ :: _, h => False.elim h
  | [], [], _ :: _, _, h => False.elim h
  | [], _ :: _, _, _, h => False.elim h
  | _ :: _, [], _, _, h => False.elim h
  | _ :: _, _ :: _, [], _, h => False.elim h
  | _ :: _, _ :: _, _ :: _, [], h => False.elim h
theorem je_listVals {T : Tb} {X : Cx} {W : WX} {e : Expr} {fe : Ex} {p pos apos cpos : Pos} (hm : X.mg "list" = none) (hc : X.calm = true) (he : JE T X W e fe) (hg : Gl X "list" := by rfl)
    (hbase : attributeBase e "values" X.env (eval e X.env) = eval e X.env := by rfl) (hline : (apos.endLine == cpos.line) = true := by rfl)
    (na : starEach [.Call (.Attribute e "values" apos) [] [] cpos] X.env = (false, eval (.Call (.Attribute e "values" apos) [] [] cpos) X.env) :: starEach [] X.env := by rfl) :
    JE T X W (.Call (.Name "list" p) [.Call (.Attribute e "values" apos) [] [] cpos] [] pos) (xListVals fe) := by
  refine pe_imp (pe_listVals hc hg hm he hbase hline na) fun σ H Q ⟨io, h, F, sg, sr, rs, w⟩ => ⟨io, h, F, sg, sr, rs, Wants.bind w fun v h1 io1 F1 H1 x st sr1 vr w1 => ?_⟩
  cases ed : dctOf h1 v with
  | none => rw [ed] at w1; exact w1.elim
  | some q =>
    obtain ⟨ks, vs⟩ := q
    rw [ed] at w1
    obtain ⟨a, xs, ys, es, ep, rfl, g, r2⟩ := dctOf_ok sr1 vr ed
    exact ⟨a, es, ep, ys, rfl, g.at_, ents_vals g.en, fun b hb => w1 io1 _ _ _ (sr1.allocStep hb _) (sr1.alloc hb _) (.lst (.inl (.inl upd_same)) (r2.step (sr1.allocStep hb (.lst ys))))⟩
end Py

namespace Py
open PySem PySem.Spec PyProof.Rows L2
/-! ### sorted of a list of data that are alike, no two of one key -/
abbrev It3 := Val × PyData × V
def enc3 (b : It3) : PyData := b.2.1
def rSortD (K : PySem.W.Frag) (u : Nat) : List V → Hp → VK → Prop := fun vs H Q => ∃ (a : Addr) (bs : List It3), vs = [V.ref a] ∧ SqL K H a (bs.map fun b => b.2.2) ∧ (∀ b ∈ bs, Dp K H b.2.2 b.2.1) ∧
  PySem.W.AllAlike (bs.map enc3) ∧ PySem.W.Sortable (bs.map enc3) ∧ bs.length ≤ sizeLine ∧ (∀ b ∈ bs, (enc3 b).depth ≤ 30) ∧
  ∀ p, H p = none → Q (.ref p) (upd H p (.lst ((bs.mergeSort (PySem.W.dataLe false enc3)).map fun b => b.2.2)))
theorem each_of {α β : Type} {R : α → β → Prop} : ∀ {vs : List α} {bs : List β}, vs.length = bs.length → (∀ (i : Nat) v b, vs[i]? = some v → bs[i]? = some b → R v b) → PySem.W.EachIs R vs bs
  | [], [], _, _ => .nil
  | v :: vs, b :: bs, hl, h => .cons (h 0 v b rfl rfl) (each_of (by simpa using hl) fun i v b e1 e2 => h (i + 1) v b (by simpa using e1) (by simpa using e2))
  | [], _ :: _, hl, _ => by simp at hl
  | _ :: _, [], hl, _ => by simp at hl
theorem vals_each : ∀ {bs : List It3} {us : List Value}, Vals (bs.map fun b => b.2.2) us → PySem.W.EachIs (fun v b => RelV b.2.2 v) us bs
  | [], _, .nil => .nil
  | b :: bs, _, .cons r t => .cons r (vals_each t)
theorem each_vals : ∀ {bs : List It3} {us : List Value}, PySem.W.EachIs (fun v b => RelV b.2.2 v) us bs → Vals (bs.map fun b => b.2.2) us
  | _, _, .nil => .nil
  | _, _, .cons r t => .cons r (each_vals t)
theorem cr_sortD {X : Cx} (hu : X.A.units + 64 < cLine) : CallR X (.builtin "sorted") (rSortD X.K 0) := by
  intro pins s σ H vs us Q I r hq
  obtain ⟨a, bs, rfl, hs, hd, hal, hk, hL, hdp, q⟩ := hq
  obtain ⟨its, rv, hl, hz⟩ := I.list hs
  obtain ⟨u, rfl, ru⟩ := vals1 r
  cases (show u = Value.ref a from ru)
  have e1 := vals_each rv
  have e2 : PySem.W.EachIs (fun v b => ∃ as, Reads s.heap v (enc3 b) as) its bs := by
    refine each_of (by rw [← rv.length, List.length_map]) fun i v b hv hb => ?_
    obtain ⟨v', ev', rx⟩ := rv.get (i := i) (x := b.2.2) (by rw [List.getElem?_map, hb]; rfl)
    rw [hv] at ev'
    cases ev'
    exact Dp.reads I _ _ _ (hd b (List.mem_of_getElem? hb)) rx
  refine PySem.W.sorted_data hl.isList e1 e2 hal hk hL (fun b hb => by have := hdp b hb; omega) fun out ho hout => ?_
  obtain ⟨ep, he'⟩ := PyProof.Rows.sortedAll_at s.heap its out.toArray
  have ov := each_vals hout
  have hlen : ((bs.mergeSort (PySem.W.dataLe false enc3)).map fun b => b.2.2).length ≤ sizeLine := by rw [List.length_map, List.length_mergeSort]; exact hL
  have nw : H (s.heap.objs.size + 1) = none := I.hok.fresh (Nat.le_succ _)
  exact ⟨.ref (s.heap.objs.size + 1), _, I.laid (t' := s.toks) (fun _ _ => PyProof.Rows.sortedAll_old) (Nat.le_succ _) (show ObjOk X.prog X.w _ _ _ (.lst _) from ⟨hlen, out, ep, ov, he'⟩), rfl, q _ nw⟩
/-! the same over values -/
abbrev It2 := Val × PyData
def lt2 (a b : It2) : Bool := PySem.W.dataLt a.2 b.2
def ins2 (x : It2) : List It2 → List It2
  | [] => [x]
  | y :: r => if lt2 x y = true then x :: y :: r else y :: ins2 x r
def srt2 : List It2 → List It2
  | [] => []
  | x :: r => ins2 x (srt2 r)
def up2 : List It2 → Bool
  | x :: y :: r => lt2 x y && up2 (y :: r)
  | _ => true
def alike2 : List It2 → Bool
  | l => l.all fun a => l.all fun b => PySem.W.alike a.2 b.2
def isTupD : PyData → Bool
  | .tuple (_ :: _) => true
  | _ => false
def notTupD : PyData → Bool
  | .tuple _ => false
  | .none => false
  | _ => true
def datV (h : Hh) (v : Val) : Option It2 := (dat h 30 v).map fun d => (v, d)
def gSortD : GC := fun h vs => match vs with
  | [v] => (match lstOf h v with
    | some ys => (match ys.mapM (datV h) with
      | some bs => if alike2 bs = true ∧ ((bs.all fun b => isTupD b.2) = true ∨ (bs.all fun b => notTupD b.2) = true) ∧ bs.length ≤ 1000000 ∧ up2 (srt2 bs) = true then some (.lst ((srt2 bs).map (·.1)), h) else none
      | none => none)
    | none => none)
  | _ => none
theorem ins2_perm (x : It2) : ∀ l, (ins2 x l).Perm (x :: l)
  | [] => .refl _
  | y :: r => by
    unfold ins2
    split
    · exact .refl _
    · exact ((ins2_perm x r).cons y).trans (.swap x y r)
theorem srt2_perm : ∀ l, (srt2 l).Perm l
  | [] => .refl _
  | x :: r => (ins2_perm x _).trans ((srt2_perm r).cons x)
theorem up2_pw : ∀ l : List It2, up2 l = true → l.Pairwise fun a b => lt2 a b = true
  | [], _ => .nil
  | [x], _ => by simp
  | x :: y :: r, h => by
    unfold up2 at h
    rw [Bool.and_eq_true] at h
    have ih := up2_pw (y :: r) h.2
    obtain ⟨i1, i2⟩ := List.pairwise_cons.mp ih
    refine List.pairwise_cons.mpr ⟨fun z hz => ?_, ih⟩
    rcases List.mem_cons.mp hz with rfl | q
    · exact h.1
    · exact (listOrd itemOrd).trans _ _ _ h.1 (i1 z q)
theorem le_of_lt2 {a b : It2} (h : lt2 a b = true) : lt2 b a = false := by
  cases q : lt2 b a with
  | false => rfl
  | true =>
    have := (listOrd itemOrd).trans _ _ _ h q
    rw [(listOrd itemOrd).irrefl] at this; cases this
theorem pw_uniq {l : List It2} (h : l.Pairwise fun a b => lt2 a b = true) : ∀ {a b}, a ∈ l → b ∈ l → lt2 a b = false → lt2 b a = false → a = b := by
  induction h with
  | nil => intro a b ha; cases ha
  | @cons x r h1 _ ih =>
    intro a b ha hb e1 e2
    rcases List.mem_cons.mp ha with p1 | p1
    · rcases List.mem_cons.mp hb with p2 | p2
      · rw [p1, p2]
      · rw [p1, h1 b p2] at e1; cases e1
    · rcases List.mem_cons.mp hb with p2 | p2
      · rw [p2, h1 a p1] at e2; cases e2
      · exact ih p1 p2 e1 e2
section
variable {T : Tb} {K : PySem.W.Frag} {io : Nat → Addr} {F H : Hp} {h : Hh}
theorem mapM_dat3 (sr : SR T K io h F H) : ∀ {ys : List Val} {xs : List V} {bs : List It2}, ys.mapM (datV h) = some bs → VRs T K io h.length F ys xs →
    ∃ cs : List It3, cs.map (fun c => (c.1, c.2.1)) = bs ∧ cs.map (fun c => c.2.2) = xs ∧ ∀ c ∈ cs, Dp K H c.2.2 c.2.1 ∧ (enc3 c).depth ≤ 30 ∧ VR T K io h.length F c.1 c.2.2
  | [], xs, bs, e, r => by
    simp at e; subst e
    cases r; exact ⟨[], rfl, rfl, fun c hc => by cases hc⟩
  | v :: ys, xs, bs, e, r => by
    rw [List.mapM_cons] at e
    cases q : datV h v with
    | none => rw [q] at e; simp at e
    | some b =>
      rw [q] at e
      cases q2 : ys.mapM (datV h) with
      | none => rw [q2] at e; simp at e
      | some us =>
        rw [q2] at e
        simp at e
        subst e
        cases r with
        | @cons _ x _ _ a t =>
          obtain ⟨d, ed, rfl⟩ := map_some q
          obtain ⟨cs, c1, c2, c3⟩ := mapM_dat3 sr q2 t
          obtain ⟨a1, a2, a3⟩ := dat_ok sr 30 v d x ed a
          refine ⟨(v, d, x) :: cs, by rw [List.map_cons, c1], by rw [List.map_cons, c2], fun c hc => ?_⟩
          rcases List.mem_cons.mp hc with rfl | hc
          · exact ⟨a1, a3, a⟩
          · exact c3 c hc
theorem lift_sortD {u : Nat} : LiftC T K (rSortD K u) gSortD := by
  intro io h F H vs xs z h' Q sr rr e q
  unfold gSortD at e
  split at e
  · rename_i v
    cases rr with
    | @cons _ x _ _ r t =>
      cases t
      split at e
      · rename_i ys el
        split at e
        · rename_i bs em
          split at e
          · rename_i hz
            cases e
            obtain ⟨z1, z2, z3, z4⟩ := hz
            obtain ⟨a, xs, rfl, sq, r2⟩ := lstOf_ok sr r el
            obtain ⟨cs, c1, c2, c3⟩ := mapM_dat3 sr em r2
            have hmem : ∀ c ∈ cs, (c.1, c.2.1) ∈ bs := fun c hc => by rw [← c1]; exact List.mem_map.mpr ⟨c, hc, rfl⟩
            have hal : PySem.W.AllAlike (cs.map enc3) := by
              intro d hd d' hd'
              obtain ⟨c, hc, rfl⟩ := List.mem_map.mp hd
              obtain ⟨c', hc', rfl⟩ := List.mem_map.mp hd'
              exact List.all_eq_true.mp (List.all_eq_true.mp z1 _ (hmem c hc)) _ (hmem c' hc')
            have hk : PySem.W.Sortable (cs.map enc3) := by
              rcases z2 with z2 | z2
              · refine .inl fun d hd => ?_
                obtain ⟨c, hc, rfl⟩ := List.mem_map.mp hd
                have := List.all_eq_true.mp z2 _ (hmem c hc)
                show ∃ x r, c.2.1 = _
                revert this
                show isTupD c.2.1 = true → _
                cases c.2.1 with
                | tuple l => cases l with
                  | nil => intro z; cases z
                  | cons x r => exact fun _ => ⟨x, r, rfl⟩
                | _ => intro z; cases z
              · refine .inr fun d hd => ?_
                obtain ⟨c, hc, rfl⟩ := List.mem_map.mp hd
                have := List.all_eq_true.mp z2 _ (hmem c hc)
                revert this
                show notTupD c.2.1 = true → c.2.1 ≠ .none ∧ ∀ xs, c.2.1 ≠ .tuple xs
                cases c.2.1 with
                | tuple l => intro z; cases z
                | none => intro z; cases z
                | _ => exact fun _ => ⟨(fun z => by cases z), fun xs z => by cases z⟩
            have hlen : cs.length = bs.length := by rw [← c1, List.length_map]
            refine ⟨a, cs, rfl, by rw [c2]; exact sq, fun c hc => (c3 c hc).1, hal, hk, by rw [hlen]; exact sizeOk z3, fun c hc => (c3 c hc).2.1, fun p hp => ?_⟩
            have pm := List.mergeSort_perm cs (PySem.W.dataLe false enc3)
            have eqL : (cs.mergeSort (PySem.W.dataLe false enc3)).map (fun c => (c.1, c.2.1)) = srt2 bs := by
              refine List.Perm.eq_of_pairwise (le := fun a b => lt2 b a = false) (fun a b ha hb h1 h2 => ?_) ?_ ((up2_pw _ z4).imp le_of_lt2) ?_
              · have pa : (cs.mergeSort (PySem.W.dataLe false enc3)).map (fun c => (c.1, c.2.1)) |>.Perm (srt2 bs) := ((pm.map _).trans (by rw [c1])).trans (srt2_perm bs).symm
                exact pw_uniq (up2_pw _ z4) (pa.mem_iff.mp ha) hb h2 h1
              · rw [List.pairwise_map]
                refine (List.pairwise_mergeSort (le := PySem.W.dataLe false enc3) ?_ ?_ cs).imp fun {a b} hab => ?_
                · intro x y w h1 h2
                  rw [PySem.W.dataLe_eq] at h1 h2 ⊢
                  simp only [cond_false, Bool.not_eq_true'] at h1 h2 ⊢
                  cases q : PySem.W.dataLt (enc3 w) (enc3 x) with
                  | false => rfl
                  | true =>
                    rcases (listOrd itemOrd).negTrans _ (PySem.W.keyToks (enc3 y)) _ q with z | z
                    · exact absurd (h2.symm.trans z) (by decide)
                    · exact absurd (h1.symm.trans z) (by decide)
                · intro x y
                  rw [PySem.W.dataLe_eq]
                  simp only [cond_false]
                  cases q : PySem.W.dataLt (enc3 y) (enc3 x) with
                  | false => rfl
                  | true =>
                    have : PySem.W.dataLt (enc3 x) (enc3 y) = false := le_of_lt2 (a := (y.1, y.2.1)) (b := (x.1, x.2.1)) q
                    rw [this]; rfl
                · rw [PySem.W.dataLe_eq] at hab
                  simp only [cond_false, Bool.not_eq_true'] at hab
                  exact hab
              · exact ((pm.map _).trans (by rw [c1])).trans (srt2_perm bs).symm
            have vrs : VRs T K io h.length F ((srt2 bs).map (·.1)) ((cs.mergeSort (PySem.W.dataLe false enc3)).map fun b => b.2.2) := by
              rw [← eqL, List.map_map]
              have go : ∀ l : List It3, (∀ c ∈ l, c ∈ cs) → VRs T K io h.length F (l.map ((fun b : It2 => b.1) ∘ fun c : It3 => (c.1, c.2.1))) (l.map fun b => b.2.2) := by
                intro l
                induction l with
                | nil => exact fun _ => .nil
                | cons c l ih => exact fun hm => .cons (c3 c (hm c List.mem_cons_self)).2.2 (ih fun d hd => hm d (List.mem_cons_of_mem _ hd))
              exact go _ fun c hc => pm.mem_iff.mp hc
            exact q io _ _ _ (sr.allocStep hp _) (sr.alloc hp _) (.lst (.inl (.inl upd_same)) (vrs.step (sr.allocStep hp (.lst _))))
          · cases e
        · cases e
      · cases e
  · cases e
end
end Py

namespace Py
open PySem PySem.Spec PyProof.Rows L2
/-! ### xs.extend(a tuple) -/
theorem ext_tup (a : Addr) (xs : Array Value) (m : Nat) (c : Addr) (ys : Array Value) (k : Nat) (dd : Option Addr) (sl : Array (Option Value)) (h0 : ¬(!xs.isEmpty && Builtin.List.listTooLong (xs.size + ys.size)) = true) (h1 : xs.size ≤ sizeLine) (h2 : xs.size + ys.size ≤ sizeLine + 1) :
    Meets (Builtin.«list.extend» ⟨[.ref a, .ref c], []⟩) (fun _ R t => t.heap.get? a = some ⟨.type "list", none, .seq xs m, #[]⟩ ∧ t.heap.get? c = some ⟨.type "tuple", dd, .seq ys k, sl⟩ ∧ R (.ok (.ret Value.none)) { t with heap := t.heap.update a (Obj.mapSeq fun x => x ++ ys), toks := t.toks }) :=
  .of_wp fun prog w A R t hh => by
    obtain ⟨hp, g, d, tk, os⟩ := t
    obtain ⟨ha, hc, hr⟩ := hh
    have g1 := AutoSeq1.idx_int
    have g2 := AutoSeq1.sub_tuple_tuple
    have g3 := AutoSeq1.sub_list_list
    have g4 := AutoSeq1.sub_tuple_list
    have g5 := AutoSeq1.sub_list_tuple
    have g6 : (xs ++ ys).size ≤ sizeLine + 1 := by rw [Array.size_append]; exact h2
    wp_walk using (wpAny_updateSeq ha rfl (hz := h1) (_hz' := g6)), wpAny_loadPart' ha, wpAny_loadPart' hc
    exact ⟨_, rfl, hr⟩
def rExtT (K : PySem.W.Frag) : V → List V → Hp → VK → Prop := fun x vs H Q => ∃ l b xs zs, x = .ref l ∧ vs = [.ref b] ∧ H l = some (.lst xs) ∧ SqT K H b zs ∧ xs.length + zs.length ≤ sizeLine ∧ Q .non (upd H l (.lst (xs ++ zs)))
theorem mt_extT {X : Cx} : MtM X "list.extend" (rExtT X.K) := by
  intro pins s σ H x vs v us Q I rx rv h
  obtain ⟨l, b, xs, zs, rfl, rfl, hH, hB, hz, q⟩ := h
  cases rx
  obtain ⟨u, rfl, ru⟩ := vals1 rv
  cases ru
  obtain ⟨z, its, n, r, hl, e⟩ := I.lstM hH
  obtain ⟨its2, r2, ⟨⟨cl, dd, dt, sl⟩, e2, hc, n2, hd⟩, z2⟩ := I.tuple hB
  simp only at hc hd
  subst hc hd
  have l1 : its.length = xs.length := r.length.symm
  have l2 : its2.length = zs.length := r2.length.symm
  have small : its.toArray.size + its2.toArray.size ≤ sizeLine := by rw [List.size_toArray, List.size_toArray]; omega
  have short : ¬ (!its.toArray.isEmpty && Builtin.List.listTooLong (its.toArray.size + its2.toArray.size)) = true := by
    rw [notLongL small, Bool.and_false]
    exact Bool.false_ne_true
  refine call_meets F.slot_list_extend ⟨_, e, rfl⟩ F.entry_list_extend (F.args_list_extend_2 _ _) (ext_tup l its.toArray n b its2.toArray n2 dd sl short (by rw [List.size_toArray]; omega) (by omega)) ⟨e, e2, ?_⟩
  refine ⟨.non, _, I.lset (its' := its ++ its2) hH e (by simp) (r.append r2) ?_, rfl, q⟩
  rw [List.length_append]
  omega
theorem MtR.or {X : Cx} {id : String} {r r' : V → List V → Hp → VK → Prop} (h : MtR X id r) (h' : MtR X id r') : MtR X id fun x xs H Q => r x xs H Q ∨ r' x xs H Q :=
  fun pins s σ H x xs v us Q I rx rxs hq => hq.elim (h pins s σ H x xs v us Q I rx rxs) (h' pins s σ H x xs v us Q I rx rxs)
def gExtendX : GM := fun h v vs => match vs with
  | [.tup ws] => (match mutOf h v with
    | some (k, us) => if us.length + ws.length ≤ 1000000 then some (.non, h.set k (.lst (us ++ ws))) else none
    | none => none)
  | vs => gExtend h v vs
theorem lift_extendX {T : Tb} {K : PySem.W.Frag} : LiftM T K (fun x xs H Q => rExtend x xs H Q ∨ rExtT K x xs H Q) gExtendX := by
  intro io h F H v x vs xs z h' Q sr vr rr e q
  unfold gExtendX at e
  split at e
  · rename_i ws
    split at e
    · rename_i k us em
      split at e
      · rename_i hz
        cases e
        obtain ⟨y, rfl, ur⟩ := one_of rr
        cases ur with
        | tup sq r2 =>
          obtain ⟨xs, rfl, hk, ea, ra, go⟩ := mutOf_ok sr vr em
          obtain ⟨s1, s2⟩ := go (us ++ ws) (xs ++ _) (ra.append r2)
          exact .inr ⟨io k, _, xs, _, rfl, rfl, ea, sqT_mono sr.sub sq, by rw [← ra.length, ← r2.length]; exact sizeOk hz, q io F _ _ s1 s2 .non⟩
      · cases e
    · cases e
  · exact .inl (lift_extend io h F H v x vs xs z h' Q sr vr rr e q)
end Py

namespace Py
open PySem PySem.Spec PyProof.Rows L2
/-! ### list + list, list * int: lists that are mutable -/
def gPlusL : G2 := fun h v u => match mutOf h v, mutOf h u with
  | some (_, us), some (_, ws) => if us.length + ws.length ≤ 1000000 then some (.lst (us ++ ws)) else none
  | _, _ => gPlus h v u
def gMulL : G2 := fun h v u => match mutOf h v, u with
  | some (_, us), .int k => if -1000000 ≤ k ∧ k ≤ 1000000 ∧ us.length * k.toNat ≤ 1000000 then some (.lst (List.replicate k.toNat us).flatten) else none
  | _, _ => gMul h v u
section
variable {T : Tb} {K : PySem.W.Frag} {io : Nat → Addr} {n : Nat} {F : Hp}
theorem VRs.rep {us : List Val} {xs : List V} (r : VRs T K io n F us xs) : ∀ k : Nat, VRs T K io n F (List.replicate k us).flatten (List.replicate k xs).flatten
  | 0 => .nil
  | k + 1 => by rw [List.replicate_succ, List.replicate_succ, List.flatten_cons, List.flatten_cons]; exact r.append (VRs.rep r k)
end
section
variable {T : Tb} {K : PySem.W.Frag}
theorem op_plusL {X : Cx} : OpR X (binaryOp .Add) (fun x y H Q => rPlus X.K x y H Q ∨ rCat x y H Q) := OpR.or op_plus op_cat
theorem lift_plusL : Lift2 T K (fun x y H Q => rPlus K x y H Q ∨ rCat x y H Q) gPlusL := by
  intro io h F H v u x y z Q sr vr ur e q
  unfold gPlusL at e
  split at e
  · rename_i k us j ws em en
    split at e
    · rename_i hz
      cases e
      obtain ⟨xs, rfl, hk, ea, ra, _⟩ := mutOf_ok sr vr em
      obtain ⟨ys, rfl, hj, eb, rb, _⟩ := mutOf_ok sr ur en
      refine .inr ⟨io k, io j, xs, ys, rfl, rfl, ea, eb, by rw [← ra.length, ← rb.length]; exact sizeOk hz, fun p hp => ?_⟩
      exact q _ _ _ (sr.allocStep hp _) (sr.alloc hp _) (.lst (.inl (.inl upd_same)) ((ra.append rb).step (sr.allocStep hp (.lst (xs ++ ys)))))
    · cases e
  · exact .inl (lift_plus io h F H v u x y z Q sr vr ur e q)
theorem op_mulL {X : Cx} : OpR X (binaryOp .Mult) (fun x y H Q => rI CMul (fun i j => .int (i * j)) x y H Q ∨ rRep x y H Q) := OpR.or op_mul op_rep
theorem lift_mulL : Lift2 T K (fun x y H Q => rI CMul (fun i j => .int (i * j)) x y H Q ∨ rRep x y H Q) gMulL := by
  intro io h F H v u x y z Q sr vr ur e q
  have other : gMul h v u = some z → rI CMul (fun i j => .int (i * j)) x y H Q ∨ rRep x y H Q := fun e => .inl (lift_mul io h F H v u x y z Q sr vr ur e q)
  cases em : mutOf h v with
  | none =>
    refine other ?_
    unfold gMulL at e
    rw [em] at e
    exact e
  | some p =>
    obtain ⟨k, us⟩ := p
    cases ur with
    | int m =>
      unfold gMulL at e
      rw [em] at e
      dsimp only at e
      split at e
      · rename_i hz
        cases e
        obtain ⟨xs, rfl, hk, ea, ra, _⟩ := mutOf_ok sr vr em
        refine .inr ⟨io k, m, xs, rfl, rfl, ea, by omega, by omega, by rw [← ra.length]; exact sizeOk hz.2.2, fun p hp => ?_⟩
        exact q _ _ _ (sr.allocStep hp _) (sr.alloc hp _) (.lst (.inl (.inl upd_same)) ((ra.rep _).step (sr.allocStep hp (.lst _))))
      · cases e
    | _ =>
      refine other ?_
      unfold gMulL at e
      rw [em] at e
      exact e
end
end Py

namespace Py
open PySem PySem.Spec PyProof.Rows L2
/-! ### x = {k: v for ..}, stored as it is made -/
theorem sw_trueD {kx vx : Expr} {gs : List Comprehension} {scope : Scope} {pos py : Pos} {y : Str} {l : Nat} {env : Env} (hk : env.scope.kind = .function) (hy : env.scope.names.lookup y = some .local) (hl : (py.line == pos.line) = true)
    (ha : (scope.names.any fun (n, k) => n == y && (k == .local || k == .cell)) = false) : swapsWith (.DictComp kx vx gs scope pos) (some (.Name y py)) l env = pure true := by
  have k1 : env.kindOf y = some .local := hy
  have k2 : env.blockKind = .function := by unfold Env.blockKind; rw [hk]; rfl
  unfold swapsWith
  simp only [k1, k2, ha, hl, Expr.pos]
  rfl
section
variable {X : Cx} {i : Nat} {y : Str} {py pos spos : Pos} {kx vx tg iter : Expr} {ifs : List Expr} {scope : Scope} {own : List (Str × Nat)} {wi : TI} {g : TG} {tt : TT} {tk tv : TE}
theorem ps_setDcX (hu : X.A.units + 60 < cLine) (hc : X.calm = true) (nd : X.N.Nodup) (hy : X.N[i]? = some y) (hyl : X.env.scope.names.lookup y = some .local)
    (hsw : swapsWith (.DictComp kx vx [⟨tg, iter, ifs, 0⟩] scope pos) (some (.Name y py)) spos.line X.env = pure true) (hi : PI X tg iter wi) (bk : BlkOk X.N X.env.scope scope own)
    (hg : Blks X scope fun Y => PG Y tg g) (ht : Blks X scope fun Y => PTs Y ifs tt) (hk : Blks X scope fun Y => PE Y kx tk) (hv : Blks X scope fun Y => PE Y vx tv) (fs : ∀ x, foldedSetIterable iter X.env x = pure x) :
    PS X (.Assign [.Name y py] (.DictComp kx vx [⟨tg, iter, ifs, 0⟩] scope pos) spos) (tAsg (tDcX X.K X.w wi g tt tk tv (own.map (·.2))) (gName i)) := by
  refine ⟨fun pins s σ H D I h => ?_⟩
  rw [exec_Assign_Name_used _ _ _ _ hsw]
  refine wpAny_bind (wpAny_standAt (wpAny_bind ?_))
  show wpAny _ X.A (do let _ ← comprehension (.DictComp kx vx [⟨tg, iter, ifs, 0⟩] scope pos) scope X.env (firstIterPos [⟨tg, iter, ifs, 0⟩] pos) newDict false (eval iter X.env) (some (assign (.Name y py) X.env))) _ _ s
  have h1 : tDcX X.K X.w wi g tt tk tv (own.map (·.2)) σ H (fun x H1 => gName i x σ H1 D.nx) := h
  refine wpAny_bind (thn (dcx_core (Qf := fun _ s' => SP X pins D .next s') hu hc nd I hi bk hg ht hk hv fs h1 fun L C s' m H' I' q hn f => ?_) fun _ s' hq => wpAny_pure (wpAny_pure hq))
  show wpAny _ _ (assign (.Name y py) X.env (.ref L)) _ _ _
  refine wpAny_assign_Name (store_ok2 (v := V.ref L) I' nd hy (.inl hyl) rfl (fun s2 I2 w2 => ?_) (.inr hyl))
  obtain ⟨a, sb, ha⟩ := w2
  obtain ⟨f0, f1, _, f3, f4, f5⟩ := f
  have apart : C ≠ a := ha.elim (fun z => by rw [z]; exact f1) fun z e => f4 y a z e.symm
  exact ⟨m, hn.sameBut sb apart, fun h3 sb3 => ⟨_, H', I2.turned (t' := s2.toks) (fun b o hb e => (sb3.2 b hb).trans e) f0 f1 f3 f4 f5, q⟩⟩
end
section
variable {T : Tb} {X : Cx} {W : WX} {kx vx tg iter : Expr} {ifs : List Expr} {scope : Scope} {pos py spos : Pos} {fi : Ix} {g : Gx} {t fk fv : Ex} {ws : List Nat} {y : Str}
theorem js_setDcF (i : Nat) (own : List (Str × Nat)) (hT : T.w = X.w) (hu : X.A.units + 64 < cLine) (hc : X.calm = true) (nd : X.N.Nodup) (hi : JI T X W tg iter fi) (bk : BlkOk X.N X.env.scope scope own) (hws : ∀ j, j ∈ ws → j ∈ own.map (·.2))
    (hg : Blks X scope fun Y => JGw T Y ws tg g) (ht : Blks X scope fun Y => JTs T Y Wno ifs t) (hk : Blks X scope fun Y => JE T Y Wno kx fk) (hv : Blks X scope fun Y => JE T Y Wno vx fv)
    (hy : X.N[i]? = some y := by rfl) (hyl : X.env.scope.names.lookup y = some .local := by rfl)
    (hsw : swapsWith (.DictComp kx vx [⟨tg, iter, ifs, 0⟩] scope pos) (some (.Name y py)) spos.line X.env = pure true := by exact sw_trueD rfl rfl rfl (by decide +kernel))
    (fs : ∀ x, foldedSetIterable iter X.env x = pure x := by intro _; rfl) :
    JS T X W (.Assign [.Name y py] (.DictComp kx vx [⟨tg, iter, ifs, 0⟩] scope pos) spos) (xSet i (xDCompF (own.map (·.2)) fi g t fk fv)) := by
  refine ps_imp (ps_setDcX (g := tGw T X.K ws g) (tt := tB1 T X.K Wno t) (tk := tE T X.K Wno fk) (tv := tE T X.K Wno fv) (by omega) hc nd hy hyl hsw hi bk hg ht hk hv fs) fun D σ H ⟨io, h, F, sg, sr, rs, w⟩ => ?_
  exact dcF_imp own hT hws σ H _ ⟨io, h, F, sg, sr, rs, WantsS.ofRes rs w fun v h1 io1 F1 H1 x st sr1 vr w1 => w1 io1 F1 H1 _ .refl sr1 ((rs.step st).set i vr)⟩
end
end Py

namespace Py
open PySem PySem.Spec PyProof.Rows L2
/-! ### xs[lo:hi:k] of a list, k written -/
def stepL {α : Type} (xs : List α) (lo hi st : Option Int) : List α :=
  (sliceRange (sliceBounds lo hi st xs.length).1 (sliceBounds lo hi st xs.length).2.1 (sliceBounds lo hi st xs.length).2.2).filterMap (xs[·]?)
theorem vals_pick {xs : List V} {us : List Value} (r : Vals xs us) : ∀ is : List Nat, Vals (is.filterMap (xs[·]?)) (is.filterMap (us[·]?))
  | [] => .nil
  | i :: is => by
    cases e : xs[i]? with
    | none => rw [List.filterMap_cons_none e, List.filterMap_cons_none (Vals.none_of r e)]; exact vals_pick r is
    | some x =>
      obtain ⟨u, e2, q⟩ := Vals.get r e
      rw [List.filterMap_cons_some e, List.filterMap_cons_some e2]
      exact .cons q (vals_pick r is)
theorem VRs.pickI {T : Tb} {K : PySem.W.Frag} {io : Nat → Addr} {n : Nat} {F : Hp} {vs : List Val} {xs : List V} (r : VRs T K io n F vs xs) : ∀ is : List Nat, VRs T K io n F (is.filterMap (vs[·]?)) (is.filterMap (xs[·]?))
  | [] => .nil
  | i :: is => by
    cases e : vs[i]? with
    | none =>
      have e2 : xs[i]? = none := by rw [List.getElem?_eq_none_iff] at e ⊢; rw [← r.length]; exact e
      rw [List.filterMap_cons_none e, List.filterMap_cons_none e2]; exact VRs.pickI r is
    | some x =>
      obtain ⟨u, e2, q⟩ := VRs.get r e
      rw [List.filterMap_cons_some e, List.filterMap_cons_some e2]
      exact .cons q (VRs.pickI r is)
theorem VRs.stepL {T : Tb} {K : PySem.W.Frag} {io : Nat → Addr} {n : Nat} {F : Hp} {vs : List Val} {xs : List V} (r : VRs T K io n F vs xs) (lo hi st : Option Int) : VRs T K io n F (stepL vs lo hi st) (stepL xs lo hi st) := by
  unfold Py.stepL
  rw [r.length]
  exact r.pickI _
def tStepL (K : PySem.W.Frag) (k : Int) (te : TE) (tl th : TO) : TE := fun σ H Q => te σ H fun x H1 => tl σ H1 fun l H2 => th σ H2 fun u H3 => ∃ a xs, x = .ref a ∧ SqL K H3 a xs ∧ ∀ p, H3 p = none → Q (.ref p) (upd H3 p (.lst (stepL xs l u (some k))))
theorem pe_stepL {X : Cx} {e : Expr} {te : TE} {lo hi : Option Expr} {tl th : TO} {k : Int} {m : Nat} {p1 p3 pos : Pos} (hk : k ≠ 0) (he : PE X e te) (hl : PO X lo tl) (hu : PO X hi th) :
    PE X (.Subscript e (.Slice lo hi (some (.Constant (.int k) m p1)) p3) pos) (tStepL X.K k te tl th) := by
  refine ⟨fun pins s σ H Q I h => ?_⟩
  refine Subscript_ (thn (he.run pins s σ H _ I h) fun v s1 ⟨x, H1, I1, r1, q1⟩ => ?_)
  have hst : PO X (some (.Constant (.int k) m p1)) (tPart (L2.tC (.int k))) := po_some pe_int
  refine wpAny_Slice (thn (hl.run pins s1 σ H1 _ I1 q1) fun vl s2 ⟨l, H2, I2, pl, q2⟩ => thn (hu.run pins s2 σ H2 _ I2 q2) fun vu s3 ⟨u, H3, I3, pu, q3⟩ => ?_)
  obtain ⟨a, xs, ex, hx, q⟩ := q3
  subst ex
  cases r1
  refine thn (hst.run pins s3 σ H3 (fun o H4 => o = some k ∧ H4 = H3) I3 ⟨k, rfl, rfl, rfl⟩) fun vs s4 ⟨o, H4, I4, ps, eo, e4⟩ => ?_
  subst eo e4
  have I5 : Inv X pins σ H4 { s4 with heap := s4.heap.push { cls := .type "slice", data := .fields #[vl, vu, vs] } } := I4.kept (t' := s4.toks) fun b ob q => Heap.get?_push_of_some _ q
  obtain ⟨its, r, ht, hz⟩ := I5.list hx
  have hlen := r.length
  show wpAny (model X.prog X.w) X.A (subscriptTail e (.Slice lo hi (some (.Constant (.int k) m p1)) p3) (.ref a) (.ref s4.heap.objs.size)) (EP X pins σ Q) X.xe { s4 with heap := s4.heap.push { cls := .type "slice", data := .fields #[vl, vu, vs] } }
  refine tail_any (ops := [.ref a, .ref s4.heap.objs.size]) ht.isList.typeIs (PySem.slot_list_getitem.lookup) ?_ (by with_unfolding_all rfl)
  refine wpAny_getItem_list_slice ht.isList (Heap.IsSliceOf.new _ vl vu vs) pl pu ps (by simpa using hk) ?_ (by rw [List.size_toArray]; omega)
  have ep : (slicePick its.toArray l u (some k)).toList = stepL its l u (some k) := by
    unfold slicePick stepL
    simp
  have hr : Vals (stepL xs l u (some k)) (stepL its l u (some k)) := by
    unfold stepL
    rw [hlen]
    exact vals_pick r _
  have hz2 : (stepL xs l u (some k)).length ≤ sizeLine := by
    have := slicePick_size_le its.toArray l u (some k)
    rw [← Array.length_toList, ep] at this
    rw [hr.length]
    rw [List.size_toArray] at this
    omega
  refine ⟨.ref _, _, I5.laid (t' := s4.toks) (o := .lst (stepL xs l u (some k))) (fun b ob q => Heap.get?_push_of_some _ q) (Nat.le_refl _) ?_, rfl, q _ (I5.hok.fresh (Nat.le_refl _))⟩
  refine ⟨hz2, _, 0, hr, ?_⟩
  rw [← ep]
  exact Heap.get?_push_size _ rfl
def xStep (k : Int) (e : Ex) (lo hi : Ox) : Ex := fun sg h => (e sg h).bind fun v h1 => match lo sg h1 with
  | some (a, h2) => (match hi sg h2 with
    | some (b, h3) => (match partOf a, partOf b, lstOf h3 v with
      | some l, some u, some vs => .ok (.lst (stepL vs l u (some k))) h3
      | _, _, _ => .bad)
    | none => .bad)
  | none => .bad
theorem je_step {T : Tb} {X : Cx} {W : WX} {pos : Pos} {e : Expr} {fe : Ex} {lo hi : Option Expr} {fl fh : Ox} {k : Int} {m : Nat} {p1 p2 : Pos} (hk : k ≠ 0) (he : JE T X W e fe) (hl : JO T X lo fl) (hh : JO T X hi fh) :
    JE T X W (.Subscript e (.Slice lo hi (some (.Constant (.int k) m p1)) p2) pos) (xStep k fe fl fh) := by
  obtain ⟨tl, pl, ql⟩ := hl
  obtain ⟨th, ph, qh⟩ := hh
  refine pe_imp (pe_stepL hk he pl ph) fun σ H Q ⟨io, h, F, sg, sr, rs, w⟩ => ⟨io, h, F, sg, sr, rs, Wants.bind w fun v h1 io1 F1 H1 x st sr1 vr w1 => ?_⟩
  cases el : fl sg h1 with
  | none => rw [el] at w1; exact w1.elim
  | some z =>
    obtain ⟨a, h2⟩ := z
    rw [el] at w1
    dsimp only at w1
    cases eh : fh sg h2 with
    | none => rw [eh] at w1; exact w1.elim
    | some z =>
      obtain ⟨b, h3⟩ := z
      rw [eh] at w1
      dsimp only at w1
      cases pa : partOf a with
      | none => rw [pa] at w1; exact w1.elim
      | some l =>
        cases pb : partOf b with
        | none => rw [pa, pb] at w1; exact w1.elim
        | some u =>
          cases pv : lstOf h3 v with
          | none => rw [pa, pb, pv] at w1; exact w1.elim
          | some vs =>
          rw [pa, pb, pv] at w1
          dsimp only at w1
          refine ql σ H1 io1 h1 F1 sg a h2 l _ sr1 (rs.step st) el pa fun io2 F2 H2 st2 sr2 => ?_
          refine qh σ H2 io2 h2 F2 sg b h3 u _ sr2 ((rs.step st).step st2) eh pb fun io3 F3 H3 st3 sr3 => ?_
          obtain ⟨a, xs, rfl, sq, r2⟩ := lstOf_ok sr3 ((vr.step st2).step st3) pv
          exact ⟨a, xs, rfl, sq, fun p hp => w1 io3 _ _ _ ((st2.trans sr2 st3).trans sr3 (sr3.allocStep hp _)) (sr3.alloc hp _) (.lst (.inl (.inl upd_same)) ((r2.stepL l u (some k)).step (sr3.allocStep hp (.lst (stepL xs l u (some k))))))⟩
end Py

namespace Py
open PySem PySem.Spec PyProof.Rows L2
/-! ### xs.pop(i), i from 0 on -/
variable {T : Tb}
theorem VRs.eraseIdx {K : PySem.W.Frag} {io : Nat → Addr} {n : Nat} {F : Hp} : ∀ {vs : List Val} {xs : List V} (i : Nat), VRs T K io n F vs xs → VRs T K io n F (vs.eraseIdx i) (xs.eraseIdx i)
  | _, _, _, .nil => .nil
  | _, _, 0, .cons a t => t
  | _, _, i + 1, .cons a t => .cons a (VRs.eraseIdx i t)
def gPopI : GM := fun h v vs => match vs with
  | [.int i] => (match mutOf h v with
    | some (k, us) => if 0 ≤ i ∧ i < us.length ∧ us.length ≤ 1000000 then (us[i.toNat]?).map fun y => (y, h.set k (.lst (us.eraseIdx i.toNat))) else none
    | none => none)
  | _ => none
theorem lift_popI {K : PySem.W.Frag} : LiftM T K rPopAt gPopI := by
  intro io h F H v x vs xs z h' Q sr vr rr e q
  unfold gPopI at e
  split at e
  · rename_i i
    cases rr with
    | cons r1 t =>
      cases t
      cases r1
      cases em : mutOf h v with
      | none => rw [em] at e; cases e
      | some p =>
        obtain ⟨k, us⟩ := p
        rw [em] at e
        dsimp only at e
        split at e
        · rename_i hz
          obtain ⟨y, ey, e2⟩ := map_some e
          cases e2
          obtain ⟨xs, rfl, hk, ea, rr, go⟩ := mutOf_ok sr vr em
          obtain ⟨s1, s2⟩ := go (us.eraseIdx i.toNat) (xs.eraseIdx i.toNat) (rr.eraseIdx _)
          obtain ⟨yx, ex, ry⟩ := rr.get ey
          refine ⟨io k, xs, i, i.toNat, yx, rfl, rfl, ea, by omega, by omega, ?_, ex, q io F _ _ s1 s2 (by simpa using ry.step s1)⟩
          have := rr.length
          exact seqIndex_of hz.1 (by rw [← this]; exact hz.2.1)
        · cases e
  · cases e
end Py

namespace Py
open PySem PySem.Spec PyProof.Rows L2
/-! ### sorted(d) of a dict: its keys -/
mutual
theorem reads_lt {h : Heap} : ∀ {d : PyData} {v : Value} {as : List Addr}, Reads h v d as → ∀ a ∈ as, a < h.objs.size
  | _, _, _, .none, _, q => by cases q
  | _, _, _, .bool _, _, q => by cases q
  | _, _, _, .int _ _, _, q => by cases q
  | _, _, _, .str _ _, _, q => by cases q
  | _, _, _, .list h1 _ _ h4, a, q => by
    rcases List.mem_cons.mp q with rfl | q
    · exact Heap.lt_size h1
    · exact readsAll_lt h4 a q
  | _, _, _, .tuple _ _ _ h4, a, q => readsAll_lt h4 a q
  | _, _, _, .dict h1 _ _ h4 h5, a, q => by
    rw [List.cons_append] at q
    rcases List.mem_cons.mp q with rfl | q
    · exact Heap.lt_size h1
    · rcases List.mem_append.mp q with q | q
      · exact readsAll_lt h4 a q
      · exact readsAll_lt h5 a q
theorem readsAll_lt {h : Heap} : ∀ {ds : List PyData} {vs : List Value} {as : List Addr}, ReadsAll h vs ds as → ∀ a ∈ as, a < h.objs.size
  | _, _, _, .nil, _, q => by cases q
  | _, _, _, .cons h1 h2, a, q => by
    rcases List.mem_append.mp q with q | q
    · exact reads_lt h1 a q
    · exact readsAll_lt h2 a q
end
def okSort (bs : List It2) : Bool := alike2 bs && ((bs.all fun b => isTupD b.2) || (bs.all fun b => notTupD b.2)) && decide (bs.length ≤ 1000000) && up2 (srt2 bs)
section
variable {T : Tb} {K : PySem.W.Frag} {io : Nat → Addr} {F H : Hp} {h : Hh}
theorem sort_core (sr : SR T K io h F H) {ys : List Val} {xs : List V} {bs : List It2} (em : ys.mapM (datV h) = some bs) (r2 : VRs T K io h.length F ys xs)
    (z1 : alike2 bs = true) (z2 : (bs.all fun b => isTupD b.2) = true ∨ (bs.all fun b => notTupD b.2) = true) (z3 : bs.length ≤ 1000000) (z4 : up2 (srt2 bs) = true) :
    ∃ cs : List It3, cs.map (fun c => c.2.2) = xs ∧ (∀ c ∈ cs, Dp K H c.2.2 c.2.1) ∧ PySem.W.AllAlike (cs.map enc3) ∧ PySem.W.Sortable (cs.map enc3) ∧ cs.length ≤ sizeLine ∧ (∀ c ∈ cs, (enc3 c).depth ≤ 30) ∧
      VRs T K io h.length F ((srt2 bs).map (·.1)) ((cs.mergeSort (PySem.W.dataLe false enc3)).map fun b => b.2.2) := by
  obtain ⟨cs, c1, c2, c3⟩ := mapM_dat3 sr em r2
  have hmem : ∀ c ∈ cs, (c.1, c.2.1) ∈ bs := fun c hc => by rw [← c1]; exact List.mem_map.mpr ⟨c, hc, rfl⟩
  have hal : PySem.W.AllAlike (cs.map enc3) := by
    intro d hd d' hd'
    obtain ⟨c, hc, rfl⟩ := List.mem_map.mp hd
    obtain ⟨c', hc', rfl⟩ := List.mem_map.mp hd'
    exact List.all_eq_true.mp (List.all_eq_true.mp z1 _ (hmem c hc)) _ (hmem c' hc')
  have hk : PySem.W.Sortable (cs.map enc3) := by
    rcases z2 with z2 | z2
    · refine .inl fun d hd => ?_
      obtain ⟨c, hc, rfl⟩ := List.mem_map.mp hd
      have := List.all_eq_true.mp z2 _ (hmem c hc)
      show ∃ x r, c.2.1 = _
      revert this
      show isTupD c.2.1 = true → _
      cases c.2.1 with
      | tuple l => cases l with
        | nil => intro z; cases z
        | cons x r => exact fun _ => ⟨x, r, rfl⟩
      | _ => intro z; cases z
    · refine .inr fun d hd => ?_
      obtain ⟨c, hc, rfl⟩ := List.mem_map.mp hd
      have := List.all_eq_true.mp z2 _ (hmem c hc)
      revert this
      show notTupD c.2.1 = true → c.2.1 ≠ .none ∧ ∀ xs, c.2.1 ≠ .tuple xs
      cases c.2.1 with
      | tuple l => intro z; cases z
      | none => intro z; cases z
      | _ => exact fun _ => ⟨(fun z => by cases z), fun xs z => by cases z⟩
  have hlen : cs.length = bs.length := by rw [← c1, List.length_map]
  refine ⟨cs, c2, fun c hc => (c3 c hc).1, hal, hk, by rw [hlen]; exact sizeOk z3, fun c hc => (c3 c hc).2.1, ?_⟩
  have pm := List.mergeSort_perm cs (PySem.W.dataLe false enc3)
  have eqL : (cs.mergeSort (PySem.W.dataLe false enc3)).map (fun c => (c.1, c.2.1)) = srt2 bs := by
    refine List.Perm.eq_of_pairwise (le := fun a b => lt2 b a = false) (fun a b ha hb h1 h2 => ?_) ?_ ((up2_pw _ z4).imp le_of_lt2) ?_
    · have pa : (cs.mergeSort (PySem.W.dataLe false enc3)).map (fun c => (c.1, c.2.1)) |>.Perm (srt2 bs) := ((pm.map _).trans (by rw [c1])).trans (srt2_perm bs).symm
      exact pw_uniq (up2_pw _ z4) (pa.mem_iff.mp ha) hb h2 h1
    · rw [List.pairwise_map]
      refine (List.pairwise_mergeSort (le := PySem.W.dataLe false enc3) ?_ ?_ cs).imp fun {a b} hab => ?_
      · intro x y w h1 h2
        rw [PySem.W.dataLe_eq] at h1 h2 ⊢
        simp only [cond_false, Bool.not_eq_true'] at h1 h2 ⊢
        cases q : PySem.W.dataLt (enc3 w) (enc3 x) with
        | false => rfl
        | true =>
          rcases (listOrd itemOrd).negTrans _ (PySem.W.keyToks (enc3 y)) _ q with z | z
          · exact absurd (h2.symm.trans z) (by decide)
          · exact absurd (h1.symm.trans z) (by decide)
      · intro x y
        rw [PySem.W.dataLe_eq]
        simp only [cond_false]
        cases q : PySem.W.dataLt (enc3 y) (enc3 x) with
        | false => rfl
        | true =>
          have : PySem.W.dataLt (enc3 x) (enc3 y) = false := le_of_lt2 (a := (y.1, y.2.1)) (b := (x.1, x.2.1)) q
          rw [this]; rfl
      · rw [PySem.W.dataLe_eq] at hab
        simp only [cond_false, Bool.not_eq_true'] at hab
        exact hab
    · exact ((pm.map _).trans (by rw [c1])).trans (srt2_perm bs).symm
  have vrs : VRs T K io h.length F ((srt2 bs).map (·.1)) ((cs.mergeSort (PySem.W.dataLe false enc3)).map fun b => b.2.2) := by
    rw [← eqL, List.map_map]
    have go : ∀ l : List It3, (∀ c ∈ l, c ∈ cs) → VRs T K io h.length F (l.map ((fun b : It2 => b.1) ∘ fun c : It3 => (c.1, c.2.1))) (l.map fun b => b.2.2) := by
      intro l
      induction l with
      | nil => exact fun _ => .nil
      | cons c l ih => exact fun hm => .cons (c3 c (hm c List.mem_cons_self)).2.2 (ih fun d hd => hm d (List.mem_cons_of_mem _ hd))
    exact go _ fun c hc => pm.mem_iff.mp hc
  exact vrs
end

def rSortX (K : PySem.W.Frag) : List V → Hp → VK → Prop := fun vs H Q => ∃ (a : Addr) (es : Array DictEntry) (ep : Nat) (bs : List It3), vs = [V.ref a] ∧ H a = some (DO a es ep) ∧ Vals (bs.map fun b => b.2.2) (es.toList.map (·.key)) ∧ (∀ b ∈ bs, Dp K H b.2.2 b.2.1) ∧
  PySem.W.AllAlike (bs.map enc3) ∧ PySem.W.Sortable (bs.map enc3) ∧ bs.length ≤ sizeLine ∧ (∀ b ∈ bs, (enc3 b).depth ≤ 30) ∧
  ∀ p, H p = none → Q (.ref p) (upd H p (.lst ((bs.mergeSort (PySem.W.dataLe false enc3)).map fun b => b.2.2)))
theorem cr_sortX {X : Cx} (hc : X.calm = true) (hu : X.A.units + 64 < cLine) : CallR X (.builtin "sorted") (rSortX X.K) := by
  intro pins s σ H vs us Q I r hq
  obtain ⟨a, es, ep, bs, rfl, hd0, rv, hd, hal, hk, hL, hdp, q⟩ := hq
  obtain ⟨u, rfl, ru⟩ := vals1 r
  cases (show u = Value.ref a from ru)
  obtain ⟨lo, h2, h3⟩ := do_at I hd0
  refine Calls.call_function_entry PyProof.Rows.kind_sorted PyProof.Rows.plain_sorted PyProof.Rows.entry_sorted (PyProof.Rows.args_sorted1 _) ?_
  unfold Builtin.«sorted»
  refine wpAny_bind (m := checkCount "sorted" 1 1 _) (wpAny_pure ?_)
  refine wpAny_bind (PySem.W.kdu_collect (A := X.A.in1) (PySem.KdlSrc.rawDict (es := es) (ep := ep) lo) (I.ok.hd hc) h3 h2 fun h' tk acc' hk' hacc => ?_)
  have ev : acc'.toList = es.toList.map (·.key) := by
    apply List.ext_getElem?
    intro i
    rw [List.getElem?_map, Array.getElem?_toList, Array.getElem?_toList]
    by_cases hi : i < es.size
    · have hi2 : i < acc'.size := by rw [hacc.1]; exact hi
      obtain ⟨_, e2⟩ := hacc.2 i acc'[i] (by simp [hi2])
      simp [hi, hi2, e2]
    · have hi2 : ¬ i < acc'.size := by rw [hacc.1]; exact hi
      simp [hi, hi2]
  rw [ev]
  have hal2 : (es.toList.map (·.key)).length ≤ sizeLine := by rw [← rv.length, List.length_map]; exact hL
  have I1 : Inv X pins σ H { s with heap := h', toks := tk } := I.kept hk'
  refine wpAny_bind (wpAny_newList ?_ hal2)
  have hoL : (h'.push (seqObj "list" (es.toList.map (·.key)).toArray 0)).get? h'.objs.size = some (seqObj "list" (es.toList.map (·.key)).toArray 0) := Heap.get?_push_size _ rfl
  show wpAny _ _ _ _ _ { s with heap := h'.push (seqObj "list" (es.toList.map (·.key)).toArray 0), toks := tk }
  have e1 := vals_each rv
  have e2 : PySem.W.EachIs (fun v b => ∃ as, Reads (h'.push (seqObj "list" (es.toList.map (·.key)).toArray 0)) v (enc3 b) as ∧ h'.objs.size ∉ as) (es.toList.map (·.key)) bs := by
    refine each_of (by rw [← rv.length, List.length_map]) fun i v b hv hb => ?_
    obtain ⟨v', ev', rx⟩ := rv.get (i := i) (x := b.2.2) (by rw [List.getElem?_map, hb]; rfl)
    rw [hv] at ev'
    cases ev'
    obtain ⟨as, ra⟩ := Dp.reads I1 _ _ _ (hd b (List.mem_of_getElem? hb)) rx
    exact ⟨as, PyProof.Rows.Reads.keeps (fun _ _ => Heap.get?_push_of_some _) ra, fun hm => Nat.lt_irrefl _ (reads_lt ra _ hm)⟩
  refine wpAny_bind (wpAny_holding (PySem.W.list_sort_data (s := { s with heap := h'.push (seqObj "list" (es.toList.map (·.key)).toArray 0), toks := tk }) (n := 0) hoL e1 e2 hal hk hL (fun b hb => ?_) fun out ho hout => ?_))
  · have := hdp b hb
    show X.A.units + 1 + 1 + _ < _
    omega
  · obtain ⟨e', he'⟩ := PyProof.Rows.sortedHeap_at (vs := es.toList.map (·.key)) (out := out.toArray) hoL
    have ov := each_vals hout
    have hlen : ((bs.mergeSort (PySem.W.dataLe false enc3)).map fun b => b.2.2).length ≤ sizeLine := by rw [List.length_map, List.length_mergeSort]; exact hL
    refine wpAny_pure ⟨_, rfl, .ref h'.objs.size, _, I1.laid (t' := tk) (fun b u e => ?_) (Nat.le_refl _) (show ObjOk X.prog X.w _ _ _ (.lst _) from ⟨hlen, out, e', ov, he'⟩), rfl, q _ (I1.hok.fresh (Nat.le_refl _))⟩
    have hb : b < h'.objs.size := Heap.lt_size e
    rw [PyProof.Rows.sortedHeap_old (Nat.ne_of_lt hb) (by rw [size_push']; exact Nat.lt_succ_of_lt hb)]
    exact Heap.get?_push_of_some _ e
theorem CallR.or {X : Cx} {f : Value} {r r' : List V → Hp → VK → Prop} (h : CallR X f r) (h' : CallR X f r') : CallR X f fun xs H Q => r xs H Q ∨ r' xs H Q :=
  fun pins s σ H xs us Q I rx hq => hq.elim (h pins s σ H xs us Q I rx) (h' pins s σ H xs us Q I rx)
def gSortX : GC := fun h vs => match vs with
  | [v] => (match dctOf h v with
    | some (ys, _) => (match ys.mapM (datV h) with
      | some bs => if alike2 bs = true ∧ ((bs.all fun b => isTupD b.2) = true ∨ (bs.all fun b => notTupD b.2) = true) ∧ bs.length ≤ 1000000 ∧ up2 (srt2 bs) = true then some (.lst ((srt2 bs).map (·.1)), h) else none
      | none => none)
    | none => gSortD h [v])
  | _ => none
theorem ents_keys {w : World} : ∀ {es : List DictEntry} {ks : List Val} {xs ys : List V}, Ents w es ks xs ys → Vals xs (es.map (·.key))
  | [], [], [], [], _ => .nil
  | e :: es, k :: ks, x :: xs, y :: ys, ⟨⟨_, h, _⟩, t⟩ => .cons h (ents_keys t)
  | [], [], [], _ :: _, h => False.elim h
  | [], [], _ :: _, _, h => False.elim h
  | [], _ :: _, _, _, h => False.elim h
  | _ :: _, [], _, _, h => False.elim h
  | _ :: _, _ :: _, [], _, h => False.elim h
  | _ :: _, _ :: _, _ :: _, [], h => False.elim h
theorem lift_sortX {T : Tb} {K : PySem.W.Frag} {u : Nat} : LiftC T K (fun xs H Q => rSortD K u xs H Q ∨ rSortX K xs H Q) gSortX := by
  intro io h F H vs xs z h' Q sr rr e q
  unfold gSortX at e
  split at e
  · rename_i v
    split at e
    · rename_i ys ws ed
      cases rr with
      | @cons _ x _ _ r t =>
        cases t
        split at e
        · rename_i bs em
          split at e
          · rename_i hz
            cases e
            obtain ⟨z1, z2, z3, z4⟩ := hz
            obtain ⟨a, xs, ys', es, ep, rfl, g, r2⟩ := dctOf_ok sr r ed
            obtain ⟨cs, c2, c3, c4, c5, c6, c7, c8⟩ := sort_core sr em g.rk z1 z2 z3 z4
            exact .inr ⟨a, es, ep, cs, rfl, g.at_, by rw [c2]; exact ents_keys g.en, c3, c4, c5, c6, c7, fun p hp => q io _ _ _ (sr.allocStep hp _) (sr.alloc hp _) (.lst (.inl (.inl upd_same)) (c8.step (sr.allocStep hp (.lst _))))⟩
          · cases e
        · cases e
    · exact .inl (lift_sortD io h F H _ xs z h' Q sr rr e q)
  · cases e
end Py

namespace Py
open PySem PySem.Spec PyProof.Rows L2
/-! ### things in a random order (the laws' own mixing), as a plain fact -/
def mixB (T : Nat → List Str) : Sx := (xDrop (xBM "list" gAppend (xVar 3) (xCons (xBM "list" gPopI (xVar 2) (xCons (xCallB T chooseF [] (xCons (xVar 0) (xCons (xCB gLenX (xCons (xVar 2) xNil)) xNil))) xNil)) xNil)))
def mixC : Ex := xOp gNe (xVar 2) (xLstF xNil)
def mixedF (T : Nat → List Str) : Fx := fnOf 2 4
 (xSeq (xPar 2 3 (xCons (xCB gList (xCons (xVar 1) xNil)) (xCons (xLst xNil) xNil)))
 (xSeq (xWhile mixC (mixB T))
 (xRet (xVar 3))))
theorem mix_step (T : Nat → List Str) (x : Option Val) (os fs : List Val) (a b : Int) (h0 : 0 < os.length) (h1 : os.length + fs.length < 1000000) :
    ∃ (d : Nat) (y : Val) (a' b' : Int), os[d]? = some y ∧ mixB T [some (.ref 0), x, some (.ref 1), some (.ref 2)] [.lst [.int a, .int b], .lst os, .lst fs] =
      .next [some (.ref 0), x, some (.ref 1), some (.ref 2)] [.lst [.int a', .int b'], .lst (os.eraseIdx d), .lst (fs ++ [y])] := by
  have e := callB_choose T a b os.length (by omega) (by omega) 0 [.lst [.int a, .int b], .lst os, .lst fs] rfl
  have l := cD_lo a b os.length (by omega)
  have u := cD_hi a b os.length (by omega)
  generalize cD a b os.length = d at *
  generalize cA a os.length = a' at *
  generalize cB a b = b' at *
  have hlt : d.toNat < os.length := by omega
  refine ⟨d.toNat, os[d.toNat], a', b', by simp [hlt], ?_⟩
  have z : ¬ (os.length > 1000000) := by omega
  have g : os[d.toNat]? = some os[d.toNat] := by simp [hlt]
  have hc : 0 ≤ d ∧ d < os.length ∧ os.length ≤ 1000000 := ⟨l, u, by omega⟩
  have hf : fs.length < 1000000 := by omega
  have p : gPopI [.lst [.int a', .int b'], .lst os, .lst fs] (.ref 1) [.int d] = some (os[d.toNat], [.lst [.int a', .int b'], .lst (os.eraseIdx d.toNat), .lst fs]) := by
    unfold gPopI
    simp only [mutOf, List.getElem?_cons_succ, List.getElem?_cons_zero]
    rw [if_pos hc, g]
    rfl
  have q : gAppend [.lst [.int a', .int b'], .lst (os.eraseIdx d.toNat), .lst fs] (.ref 2) [os[d.toNat]] = some (.non, [.lst [.int a', .int b'], .lst (os.eraseIdx d.toNat), .lst (fs ++ [os[d.toNat]])]) := by
    unfold gAppend
    simp only [mutOf, List.getElem?_cons_succ, List.getElem?_cons_zero]
    rw [if_pos hf]
    rfl
  have ln : gLenX [.lst [.int a, .int b], .lst os, .lst fs] [.ref 1] = some (.int os.length, [.lst [.int a, .int b], .lst os, .lst fs]) := rfl
  have ty1 : isTy "list" [.lst [.int a, .int b], .lst os, .lst fs] (.ref 1) = true := rfl
  have ty2 : isTy "list" [.lst [.int a, .int b], .lst os, .lst fs] (.ref 2) = true := rfl
  simp only [List.set_cons_zero] at e
  unfold mixB xDrop xBM
  simp only [xVar, List.getElem?_cons_succ, List.getElem?_cons_zero, Res.bind, ty1, ty2, if_true, xCons, xCallB, xCB, xNil, Res.bindL, ResL.bindL, ResL.bind, ln, Res.ofP, List.append_nil, List.cons_append, List.nil_append, e, p, q, Res.bindS]
theorem mapM_some {α β : Type} {f : α → Option β} : ∀ {l : List α}, (∀ a ∈ l, (f a).isSome = true) → ∃ r, l.mapM f = some r ∧ r.length = l.length
  | [], _ => ⟨[], rfl, rfl⟩
  | a :: l, h => by
    obtain ⟨r, e, hl⟩ := mapM_some fun b hb => h b (List.mem_cons_of_mem _ hb)
    obtain ⟨y, ey⟩ := Option.isSome_iff_exists.mp (h a List.mem_cons_self)
    exact ⟨y :: r, by rw [List.mapM_cons, ey, e]; rfl, by simp [hl]⟩
theorem mix_test (x : Option Val) (os fs : List Val) (a b : Int) (hd : ∀ v ∈ os, ∀ h : Hh, (dat h 29 v).isSome = true) :
    mixC [some (.ref 0), x, some (.ref 1), some (.ref 2)] [.lst [.int a, .int b], .lst os, .lst fs] = .ok (.bl (!os.isEmpty)) [.lst [.int a, .int b], .lst os, .lst fs] := by
  obtain ⟨r, e, hl⟩ := mapM_some (f := dat [.lst [.int a, .int b], .lst os, .lst fs] 29) (l := os) fun v hv => hd v hv _
  have e1 : dat [.lst [.int a, .int b], .lst os, .lst fs] 30 (.ref 1) = some (.list r) := by
    show (os.mapM (dat [.lst [.int a, .int b], .lst os, .lst fs] 29)).map PyData.list = _
    rw [e]; rfl
  have e2 : dat [.lst [.int a, .int b], .lst os, .lst fs] 30 (.lst []) = some (.list []) := rfl
  have e3 : gNe [.lst [.int a, .int b], .lst os, .lst fs] (.ref 1) (.lst []) = some (.bl (!os.isEmpty)) := by
    unfold gNe eqD
    rw [e1, e2]
    cases os with
    | nil => cases r with
      | nil => rfl
      | cons d ds => simp at hl
    | cons o os => cases r with
      | nil => simp at hl
      | cons d ds => rfl
  unfold mixC xOp
  simp only [xVar, List.getElem?_cons_succ, List.getElem?_cons_zero, Res.bind, xLstF, xNil, ResL.bind, List.length_nil, Nat.zero_le, if_true, e3, Res.ofO]
theorem mix_loop (T : Nat → List Str) (x : Option Val) : ∀ (n m : Nat) (os fs : List Val) (a b : Int), os.length = n → n < m → os.length + fs.length < 1000000 → (∀ v ∈ os, ∀ h : Hh, (dat h 29 v).isSome = true) →
    ∃ (gs : List Val) (a' b' : Int), (∀ g ∈ gs, g ∈ os) ∧ whileN mixC (mixB T) m [some (.ref 0), x, some (.ref 1), some (.ref 2)] [.lst [.int a, .int b], .lst os, .lst fs] =
      .next [some (.ref 0), x, some (.ref 1), some (.ref 2)] [.lst [.int a', .int b'], .lst [], .lst (fs ++ gs)] := by
  intro n
  induction n with
  | zero =>
    intro m os fs a b hn hm hz hd
    cases m with
    | zero => omega
    | succ m =>
      have : os = [] := List.length_eq_zero_iff.mp hn
      subst this
      refine ⟨[], a, b, (fun g hg => nomatch hg), ?_⟩
      unfold whileN
      rw [mix_test x [] fs a b hd]
      simp [Res.testS]
  | succ n ih =>
    intro m os fs a b hn hm hz hd
    cases m with
    | zero => omega
    | succ m =>
      obtain ⟨d, y, a1, b1, hy, e1⟩ := mix_step T x os fs a b (by omega) hz
      have hlt : d < os.length := by
        rcases Nat.lt_or_ge d os.length with q | q
        · exact q
        · rw [List.getElem?_eq_none q] at hy; cases hy
      have hl : (os.eraseIdx d).length = n := by rw [List.length_eraseIdx_of_lt hlt]; omega
      obtain ⟨gs, a2, b2, hg, e2⟩ := ih m (os.eraseIdx d) (fs ++ [y]) a1 b1 hl (by omega) (by simp; omega) fun v hv => hd v (List.mem_of_mem_eraseIdx hv)
      refine ⟨y :: gs, a2, b2, fun g hgg => ?_, ?_⟩
      · rcases List.mem_cons.mp hgg with rfl | q
        · exact List.mem_of_getElem? hy
        · exact List.mem_of_mem_eraseIdx (hg g q)
      · unfold whileN
        rw [mix_test x os fs a b hd]
        have : os.isEmpty = false := by cases os with
          | nil => simp at hn
          | cons o os => rfl
        simp only [Res.testS, this, Bool.not_false, e1]
        rw [e2]
        simp
theorem mapM_frz (T : Nat → List Str) (h : Hh) (f : Val → Option Val) : ∀ {l : List Val}, (∀ v ∈ l, f v = some v) → l.mapM f = some l
  | [], _ => rfl
  | a :: l, hh => by rw [List.mapM_cons, hh a List.mem_cons_self, mapM_frz T h f fun b hb => hh b (List.mem_cons_of_mem _ hb)]; rfl
/-- mixing pure rows gives rows of the same -/
theorem callB_mixed (T : Nat → List Str) (rows : List Val) (hp : pureVs rows = true) (hz : rows.length < 1000) (hd : ∀ v ∈ rows, ∀ h : Hh, (dat h 29 v).isSome = true) (hf : ∀ v ∈ rows, ∀ h : Hh, frzB T h 29 v = some v) (a b : Int) (k : Nat) (h : Hh) (hk : h[k]? = some (.lst [.int a, .int b])) :
    ∃ (gs : List Val) (a' b' : Int), (∀ g ∈ gs, g ∈ rows) ∧ callB T (mixedF T) [.ref k, .lst rows] h = .ok (.lst gs) (h.set k (.lst [.int a', .int b'])) := by
  obtain ⟨gs, a1, b1, hg, e⟩ := mix_loop T (some (.lst rows)) rows.length 100000 rows [] a b rfl (by omega) (by simp; omega) hd
  refine ⟨gs, a1, b1, hg, ?_⟩
  have ef : mixedF T [.lst [.int a, .int b]] [.ref 0, .lst rows] = .ok (.ref 2) [.lst [.int a1, .int b1], .lst [], .lst gs] := by
    have p : xPar 2 3 (xCons (xCB gList (xCons (xVar 1) xNil)) (xCons (xLst xNil) xNil)) [some (.ref 0), some (.lst rows), none, none] [.lst [.int a, .int b]] = .next [some (.ref 0), some (.lst rows), some (.ref 1), some (.ref 2)] [.lst [.int a, .int b], .lst rows, .lst []] := rfl
    refine fnOf_r rfl ((xSeq_n p).trans ((xSeq_n e).trans rfl))
  have e0 : pureVs ([.lst rows] : List Val) = true := by simp [pureVs, pureV, hp]
  have e1 : pureVs ([.int a, .int b] : List Val) = true := rfl
  have e2 : pureVs ([.int a1, .int b1] : List Val) = true := rfl
  have e3 : frzB T [.lst [.int a1, .int b1], .lst [], .lst gs] 30 (.ref 2) = some (.lst gs) := by
    show (gs.mapM (frzB T [.lst [.int a1, .int b1], .lst [], .lst gs] 29)).map Val.lst = _
    rw [mapM_frz T [] _ fun v hv => hf v (hg v hv) _]; rfl
  unfold callB
  simp only [hk, e0, e1, Bool.and_self, if_true, ef, List.getElem?_cons_zero, e2, pureV, e3, Bool.false_eq_true, if_false]
theorem for_all3 {body : Val → Sg → Hh → ResS} {P : Sg → Prop} : ∀ (vs : List Val), (∀ v ∈ vs, ∀ sg h, P sg → ∃ sg1 o t, body v sg h = .next sg1 (o :: t) ∧ P sg1) → ∀ sg o t, P sg → ∃ sg1 o1 t1, forItems body vs sg (o :: t) = .next sg1 (o1 :: t1) ∧ P sg1
  | [], _, sg, o, t, p => ⟨sg, o, t, rfl, p⟩
  | v :: r, hb, sg, o, t, p => by
    obtain ⟨sg1, o1, t1, e, p1⟩ := hb v List.mem_cons_self sg (o :: t) p
    obtain ⟨sg2, o2, t2, e2, p2⟩ := for_all3 r (fun u hu => hb u (List.mem_cons_of_mem _ hu)) sg1 o1 t1 p1
    refine ⟨sg2, o2, t2, ?_, p2⟩
    unfold forItems
    rw [e]
    exact e2
/-- a law that goes on behind its rounds, of which there is at least one -/
theorem law_loop3 {m : Nat} {cnt : Lx} {body rest : Sx} {ns : List Int} (hc : ∀ sg, ∃ j : Int, cnt (some (.lst (ns.map Val.int)) :: sg) [] = .ok [.int j] [] ∧ small62 j = true ∧ 1 ≤ j)
    (hb : ∀ (k : Nat) r h, r.length = m → ∃ r' o t, body (some (.lst (ns.map Val.int)) :: some (.int k) :: r) h = .next (some (.lst (ns.map Val.int)) :: some (.int k) :: r') (o :: t) ∧ r'.length = m)
    (hr : ∀ x r o t, r.length = m → ∃ h', rest (some (.lst (ns.map Val.int)) :: x :: r) (o :: t) = .ret (.bl true) h') :
    ∃ h', fnOf 1 (m + 2) (xSeq (xFor (xIRng1 cnt) (gN 1) body) rest) [] [.lst (ns.map Val.int)] = .ok (.bl true) h' := by
  obtain ⟨j, e, hs, hj⟩ := hc (List.replicate (m + 1) none)
  have step : ∀ v ∈ rng 0 j.toNat, ∀ sg h, (∃ x r, sg = some (.lst (ns.map Val.int)) :: x :: r ∧ r.length = m) → ∃ sg1 o t, bodyOf (gN 1) body v sg h = .next sg1 (o :: t) ∧ ∃ x r, sg1 = some (.lst (ns.map Val.int)) :: x :: r ∧ r.length = m := by
    intro v hv sg h ⟨x, r, es, hr⟩
    obtain ⟨i, hi, ei⟩ := rng_mem _ _ _ hv
    obtain ⟨r', o, t, e, hr'⟩ := hb i r h hr
    refine ⟨_, o, t, ?_, some (.int i), r', rfl, hr'⟩
    subst es ei
    simpa [bodyOf, gN, ResG.bindS] using e
  have start : ∃ sg1 o t, forItems (bodyOf (gN 1) body) (rng 0 j.toNat) (some (.lst (ns.map Val.int)) :: List.replicate (m + 1) none) [] = .next sg1 (o :: t) ∧ ∃ x r, sg1 = some (.lst (ns.map Val.int)) :: x :: r ∧ r.length = m := by
    cases el : rng 0 j.toNat with
    | nil =>
      cases en : j.toNat with
      | zero => omega
      | succ n => rw [en] at el; cases el
    | cons v vs =>
      rw [el] at step
      obtain ⟨sg1, o, t, e1, p1⟩ := step v List.mem_cons_self (some (.lst (ns.map Val.int)) :: List.replicate (m + 1) none) [] ⟨none, List.replicate m none, rfl, by simp⟩
      obtain ⟨sg2, o2, t2, e2, p2⟩ := for_all3 vs (fun u hu => step u (List.mem_cons_of_mem _ hu)) sg1 o t p1
      refine ⟨sg2, o2, t2, ?_, p2⟩
      unfold forItems
      rw [e1]
      exact e2
  obtain ⟨sg', o', t', e2, y, r2, es2, hl2⟩ := start
  subst es2
  obtain ⟨h'', e3⟩ := hr y r2 o' t' hl2
  refine ⟨h'', fnOf_r rfl ((xSeq_n (sg1 := some (.lst (ns.map Val.int)) :: y :: r2) (h1 := o' :: t') ?_).trans e3)⟩
  show xFor (xIRng1 cnt) (gN 1) body (some (.lst (ns.map Val.int)) :: List.replicate (m + 1) none) [] = _
  unfold xFor xIRng1
  rw [e]
  simp only [hs, if_true]
  exact e2
end Py

namespace Py
open PySem
theorem callP_any {T : Nat → List Str} {f : Fx} {as : List Val} {v : Val} (hp : pureVs as = true) (e : callP T f as [] = .ok v []) (h : Hh) : callP T f as h = .ok v h := by
  unfold callP at e ⊢
  rw [hp, Bool.or_true, if_pos rfl] at e ⊢
  cases q : f [] as with
  | bad => rw [q] at e; cases e
  | exc c fs h1 =>
    rw [q] at e
    dsimp only at e
    split at e <;> cases e
  | ok u h1 =>
    rw [q] at e
    dsimp only at e ⊢
    cases qq : frzTop T h1 u with
    | none => rw [qq] at e; cases e
    | some w => rw [qq] at e; cases e; rfl
theorem callQ_any {T : Nat → List Str} {f : Fx} {as : List Val} {v : Val} (hp : pureVs as = true) (e : callQ T f as [] = .ok v []) (h : Hh) : callQ T f as h = .ok v h := by
  unfold callQ at e ⊢
  rw [if_pos hp] at e ⊢
  exact callP_any hp e h
theorem mapM_same {α β : Type} {f g : α → Option β} : ∀ {l : List α}, (∀ a ∈ l, f a = g a) → l.mapM f = l.mapM g
  | [], _ => rfl
  | a :: l, h => by
    rw [List.mapM_cons, List.mapM_cons, h a List.mem_cons_self, mapM_same fun b hb => h b (List.mem_cons_of_mem _ hb)]
theorem pureVs_all : ∀ {vs : List Val}, pureVs vs = true → ∀ v ∈ vs, pureV v = true
  | [], _, v, hv => by cases hv
  | u :: vs, h, v, hv => by
    simp [pureVs] at h
    rcases List.mem_cons.mp hv with rfl | hv
    · exact h.1
    · exact pureVs_all h.2 v hv
theorem dat_pure (h : Hh) : ∀ (n : Nat) (v : Val), pureV v = true → dat h n v = dat [] n v
  | 0, _, _ => rfl
  | n + 1, v, hp => by
    have ih := dat_pure h n
    cases v with
    | tup vs =>
      show (vs.mapM (dat h n)).map PyData.tuple = (vs.mapM (dat [] n)).map PyData.tuple
      rw [mapM_same fun a ha => ih a (pureVs_all (by simpa [pureV] using hp) a ha)]
    | lst vs =>
      show (vs.mapM (dat h n)).map PyData.list = (vs.mapM (dat [] n)).map PyData.list
      rw [mapM_same fun a ha => ih a (pureVs_all (by simpa [pureV] using hp) a ha)]
    | ref k => simp [pureV] at hp
    | _ => rfl
def okv (r : Res) : Option Val := match r with
  | .ok v [] => if pureV v = true then some v else none
  | _ => none
theorem okv_of {r : Res} {v : Val} (e : okv r = some v) : r = .ok v [] ∧ pureV v = true := by
  unfold okv at e
  split at e
  · split at e
    · rename_i hp
      cases e
      exact ⟨rfl, hp⟩
    · cases e
  · cases e
theorem at_end (H rest : Hh) (x : Obj) : (H ++ x :: rest)[H.length]? = some x := by simp
theorem set_end (H rest : Hh) (x y : Obj) : (H ++ x :: rest).set H.length y = H ++ y :: rest := by
  rw [List.set_append_right _ _ (Nat.le_refl _)]; simp
theorem lst_new {l : Lx} {sg : Sg} {h : Hh} {ws : List Val} (e : l sg h = .ok ws h) (hz : ws.length ≤ 1000000) : xLst l sg h = .ok (.ref h.length) (h ++ [.lst ws]) := by
  unfold xLst
  rw [e]
  show (if ws.length ≤ 1000000 then _ else _) = _
  rw [if_pos hz]
theorem isTy_end (H rest : Hh) (us : List Val) : isTy "list" (H ++ .lst us :: rest) (.ref H.length) = true := by
  simp [isTy, lstOf]
theorem mut_end (H rest : Hh) (us : List Val) : mutOf (H ++ .lst us :: rest) (.ref H.length) = some (H.length, us) := by
  simp [mutOf]
theorem app_step {sg : Sg} {H rest : Hh} {i : Nat} {e : Ex} {us : List Val} {v : Val} (hs : sg[i]? = some (some (.ref H.length))) (he : e sg (H ++ .lst us :: rest) = .ok v (H ++ .lst us :: rest)) (hz : us.length < 1000000) :
    xDrop (xBM "list" gAppend (xVar i) (xCons e xNil)) sg (H ++ .lst us :: rest) = .next sg (H ++ .lst (us ++ [v]) :: rest) := by
  have hv : ∀ h, xVar i sg h = .ok (.ref H.length) h := fun h => by simp [xVar, hs]
  unfold xDrop xBM
  rw [hv]
  simp only [Res.bind, isTy_end, if_true]
  have hc : xCons e xNil sg (H ++ .lst us :: rest) = .ok [v] (H ++ .lst us :: rest) := by unfold xCons; rw [he]; rfl
  rw [hc]
  simp only [ResL.bind, gAppend, mut_end, if_pos hz, Res.ofP, Res.bindS, set_end]
theorem ext_step {sg : Sg} {H rest : Hh} {i : Nat} {l : Lx} {us ws : List Val} (hs : sg[i]? = some (some (.ref H.length))) (he : l sg (H ++ .lst us :: rest) = .ok ws (H ++ .lst us :: rest)) (hz : us.length + ws.length ≤ 1000000) :
    xDrop (xBM "list" gExtendX (xVar i) (xCons (xLst l) xNil)) sg (H ++ .lst us :: rest) = .next sg (H ++ .lst (us ++ ws) :: (rest ++ [.lst ws])) := by
  have hv : ∀ h, xVar i sg h = .ok (.ref H.length) h := fun h => by simp [xVar, hs]
  have hl := lst_new he (by omega)
  have e1 : H ++ .lst us :: rest ++ [.lst ws] = H ++ .lst us :: (rest ++ [.lst ws]) := by simp
  rw [e1] at hl
  have hc : xCons (xLst l) xNil sg (H ++ .lst us :: rest) = .ok [.ref (H ++ .lst us :: rest).length] (H ++ .lst us :: (rest ++ [.lst ws])) := by unfold xCons; rw [hl]; rfl
  unfold xDrop xBM
  rw [hv]
  simp only [Res.bind, isTy_end, if_true]
  rw [hc]
  have m2 : mutOf (H ++ .lst us :: (rest ++ [.lst ws])) (.ref (H ++ .lst us :: rest).length) = some ((H ++ .lst us :: rest).length, ws) := by
    rw [← e1]
    simp [mutOf]
  have g : gExtendX (H ++ .lst us :: (rest ++ [.lst ws])) (.ref H.length) [.ref (H ++ .lst us :: rest).length] = some (.non, H ++ .lst (us ++ ws) :: (rest ++ [.lst ws])) := by
    have a : gExtendX (H ++ .lst us :: (rest ++ [.lst ws])) (.ref H.length) [.ref (H ++ .lst us :: rest).length] = gExtend (H ++ .lst us :: (rest ++ [.lst ws])) (.ref H.length) [.ref (H ++ .lst us :: rest).length] := by
      unfold gExtendX; rfl
    rw [a]
    unfold gExtend
    rw [mut_end]
    dsimp only
    rw [m2]
    dsimp only
    rw [if_pos ⟨by simp, hz⟩, set_end]
  simp only [ResL.bind, g, Res.ofP, Res.bindS]
theorem repr_end {H rest : Hh} {vs : List Val} {s : Val} (hp : pureVs vs = true) (e : reprV [] (.lst vs) = some s) : reprV (H ++ .lst vs :: rest) (.ref H.length) = some s := by
  have e1 : dat (H ++ .lst vs :: rest) 30 (.ref H.length) = dat [] 30 (.lst vs) := by
    have a : dat (H ++ .lst vs :: rest) 30 (.ref H.length) = dat (H ++ .lst vs :: rest) 30 (.lst vs) := by
      show (match (H ++ Obj.lst vs :: rest)[H.length]? with | some (.lst vs) => (vs.mapM (dat _ 29)).map PyData.list | _ => none) = _
      rw [at_end]
      rfl
    rw [a]
    exact dat_pure _ 30 _ (by simpa [pureV] using hp)
  unfold reprV at e ⊢
  rw [e1]
  exact e
theorem gNe_pure {h : Hh} {v u : Val} (hv : pureV v = true) (hu : pureV u = true) : gNe h v u = gNe [] v u := by
  unfold gNe eqD
  rw [dat_pure h 30 v hv, dat_pure h 30 u hu]
theorem repr_pure {h : Hh} {v : Val} (hv : pureV v = true) : reprV h v = reprV [] v := by
  unfold reprV
  rw [dat_pure h 30 v hv]
end Py

namespace Law
open PySem PySem.Spec PyProof.Rows L2 Py
abbrev c_DIGITS : Val := .str [48, 49, 50, 51, 52, 53, 54, 55, 56, 57]
abbrev c_MOST_DIGITS : Val := .int 2
abbrev c_MARKS : Val := .tup [.str [102, 114, 101, 101], .str [116, 97, 107, 101, 110]]
abbrev c_SORTS : Val := .tup [.str [98, 117, 115, 121], .str [110, 111, 110, 101], .str [97, 112, 97, 114, 116], .str [111, 110, 101]]
abbrev c_WORDS : Val := .tup [.str [98, 117, 115, 121], .str [112, 114, 105, 118, 97, 116, 101]]
abbrev c_LETTERS : Val := .tup [.str [102, 114, 101, 101], .str [98, 117, 115, 121], .str [112, 114, 105, 118, 97, 116, 101], .str [111, 110]]
theorem sc_Lseed : FnScope ["_law_script", "_law_k", "_law_cell"] ["_law_script", "_law_k"] (defScope s_Lseed) := ⟨rfl, rfl, rfl, by decide +kernel, rfl, by decide +kernel, by decide +kernel⟩
theorem sc_Lchoose : FnScope ["_law_box", "_law_many", "_law_digit", "_law_raw"] ["_law_box", "_law_many"] (defScope s_Lchoose) := ⟨rfl, rfl, rfl, by decide +kernel, rfl, by decide +kernel, by decide +kernel⟩
theorem sc_Lmixed : FnScope ["_law_box", "_law_some", "_law_others", "_law_found"] ["_law_box", "_law_some"] (defScope s_Lmixed) := ⟨rfl, rfl, rfl, by decide +kernel, rfl, by decide +kernel, by decide +kernel⟩
theorem sc_Lwritten : FnScope ["_law_found"] [] (defScope s_Lwritten) := ⟨rfl, rfl, rfl, by decide +kernel, rfl, by decide +kernel, by decide +kernel⟩
theorem sc_number_in : FnScope ["word", "digits", "sign"] ["word", "digits"] (defScope s_number_in) := ⟨rfl, rfl, rfl, by decide +kernel, rfl, by decide +kernel, by decide +kernel⟩
theorem sc_is_integer : FnScope ["value"] ["value"] (defScope s_is_integer) := ⟨rfl, rfl, rfl, by decide +kernel, rfl, by decide +kernel, by decide +kernel⟩
theorem sc_is_number : FnScope ["value"] ["value"] (defScope s_is_number) := ⟨rfl, rfl, rfl, by decide +kernel, rfl, by decide +kernel, by decide +kernel⟩
theorem sc_is_bool : FnScope ["value"] ["value"] (defScope s_is_bool) := ⟨rfl, rfl, rfl, by decide +kernel, rfl, by decide +kernel, by decide +kernel⟩
theorem sc_is_sequence : FnScope ["value"] ["value"] (defScope s_is_sequence) := ⟨rfl, rfl, rfl, by decide +kernel, rfl, by decide +kernel, by decide +kernel⟩
theorem sc_are_known : FnScope ["length", "value", "pair", "tick", "is_taken"] ["length", "value"] (defScope s_are_known) := ⟨rfl, rfl, rfl, by decide +kernel, rfl, by decide +kernel, by decide +kernel⟩
theorem sc_Frame_init : FnScope ["self", "length", "shortest", "most", "private", "known"] ["self", "length", "shortest", "most", "private", "known"] (defScope s_Frame_init) := ⟨rfl, rfl, rfl, by decide +kernel, rfl, by decide +kernel, by decide +kernel⟩
theorem sc_known_in : FnScope ["words", "found", "mark", "tick", "is_taken"] ["words"] (defScope s_known_in) := ⟨rfl, rfl, rfl, by decide +kernel, rfl, by decide +kernel, by decide +kernel⟩
theorem sc_Frame_read : FnScope ["cls", "text", "words", "most", "numbers", "rest", "is_private", "word"] ["cls", "text"] (defScope s_Frame_read) := ⟨rfl, rfl, rfl, by decide +kernel, rfl, by decide +kernel, by decide +kernel⟩
theorem sc_are_hours : FnScope ["value"] ["value"] (defScope s_are_hours) := ⟨rfl, rfl, rfl, by decide +kernel, rfl, by decide +kernel, by decide +kernel⟩
theorem sc_Rule_init : FnScope ["self", "step", "gap", "least", "private", "hours"] ["self", "step", "gap", "least", "private", "hours"] (defScope s_Rule_init) := ⟨rfl, rfl, rfl, by decide +kernel, rfl, by decide +kernel, by decide +kernel⟩
theorem sc_Lrule_told : FnScope ["_law_text", "_law_words"] ["_law_text"] (defScope s_Lrule_told) := ⟨rfl, rfl, rfl, by decide +kernel, rfl, by decide +kernel, by decide +kernel⟩
theorem sc_is_block : FnScope ["value"] ["value"] (defScope s_is_block) := ⟨rfl, rfl, rfl, by decide +kernel, rfl, by decide +kernel, by decide +kernel⟩
theorem sc_is_view : FnScope ["value", "block", "one", "other"] ["value"] (defScope s_is_view) := ⟨rfl, rfl, rfl, by decide +kernel, rfl, by decide +kernel, by decide +kernel⟩
theorem sc_is_look : FnScope ["value"] ["value"] (defScope s_is_look) := ⟨rfl, rfl, rfl, by decide +kernel, rfl, by decide +kernel, by decide +kernel⟩
theorem sc_need_looks : FnScope ["looks", "at", "look"] ["looks"] (defScope s_need_looks) := ⟨rfl, rfl, rfl, by decide +kernel, rfl, by decide +kernel, by decide +kernel⟩
theorem sc_prepared : FnScope ["looks", "found", "rule", "view", "word", "begin", "end", "other"] ["looks"] (defScope s_prepared) := ⟨rfl, rfl, rfl, by decide +kernel, rfl, by decide +kernel, by decide +kernel⟩
theorem sc_begun : FnScope ["frame", "looks", "look"] ["frame", "looks"] (defScope s_begun) := ⟨rfl, rfl, rfl, by decide +kernel, rfl, by decide +kernel, by decide +kernel⟩
theorem sc_is_let : FnScope ["frame", "tick", "standing", "letter", "going", "run", "many", "spot", "is_taken"] ["frame", "tick", "standing", "letter"] (defScope s_is_let) := ⟨rfl, rfl, rfl, by decide +kernel, rfl, by decide +kernel, by decide +kernel⟩
theorem sc_Rule_word_of : FnScope ["self", "is_private"] ["self", "is_private"] (defScope s_Rule_word_of) := ⟨rfl, rfl, rfl, by decide +kernel, rfl, by decide +kernel, by decide +kernel⟩
theorem sc_Rule_down : FnScope ["self", "tick"] ["self", "tick"] (defScope s_Rule_down) := ⟨rfl, rfl, rfl, by decide +kernel, rfl, by decide +kernel, by decide +kernel⟩
theorem sc_Rule_up : FnScope ["self", "tick"] ["self", "tick"] (defScope s_Rule_up) := ⟨rfl, rfl, rfl, by decide +kernel, rfl, by decide +kernel, by decide +kernel⟩
theorem sc_Rule_joins : FnScope ["self", "word", "end", "low"] ["self", "word", "end", "low"] (defScope s_Rule_joins) := ⟨rfl, rfl, rfl, by decide +kernel, rfl, by decide +kernel, by decide +kernel⟩
theorem sc_Rule_shown : FnScope ["self", "begin", "end"] ["self", "begin", "end"] (defScope s_Rule_shown) := ⟨rfl, rfl, rfl, by decide +kernel, rfl, by decide +kernel, by decide +kernel⟩
theorem sc_settled : FnScope ["rule", "due", "part", "behind", "block", "seen"] ["rule", "due", "part"] (defScope s_settled) := ⟨rfl, rfl, rfl, by decide +kernel, rfl, by decide +kernel, by decide +kernel⟩
theorem sc_begun_part : FnScope ["rule", "due", "word", "tick", "part", "low", "high", "behind", "block"] ["rule", "due", "word", "tick", "part"] (defScope s_begun_part) := ⟨rfl, rfl, rfl, by decide +kernel, rfl, by decide +kernel, by decide +kernel⟩
theorem sc_grown_part : FnScope ["rule", "due", "word", "tick", "part", "behind", "block"] ["rule", "due", "word", "tick", "part"] (defScope s_grown_part) := ⟨rfl, rfl, rfl, by decide +kernel, rfl, by decide +kernel, by decide +kernel⟩
theorem sc_led : FnScope ["given", "tick", "making", "is_private", "change", "found", "rule", "dues", "parts", "word", "later", "spot"] ["given", "tick", "making", "is_private", "change"] (defScope s_led) := ⟨rfl, rfl, rfl, by decide +kernel, rfl, by decide +kernel, by decide +kernel⟩
theorem sc_follow : FnScope ["frame", "given", "tick", "standing", "letter", "going", "run", "many", "making"] ["frame", "given", "tick", "standing", "letter"] (defScope s_follow) := ⟨rfl, rfl, rfl, by decide +kernel, rfl, by decide +kernel, by decide +kernel⟩
theorem sc_can_come : FnScope ["rule", "word", "due", "block", "low", "seen"] ["rule", "word", "due", "block", "low"] (defScope s_can_come) := ⟨rfl, rfl, rfl, by decide +kernel, rfl, by decide +kernel, by decide +kernel⟩
theorem sc_is_hopeful : FnScope ["given", "tick", "standing", "rule", "dues", "parts", "word", "due", "behind", "block"] ["given", "tick", "standing"] (defScope s_is_hopeful) := ⟨rfl, rfl, rfl, by decide +kernel, rfl, by decide +kernel, by decide +kernel⟩
theorem sc_part_grown : FnScope ["rule", "tick", "part", "done", "block"] ["rule", "tick", "part"] (defScope s_part_grown) := ⟨rfl, rfl, rfl, by decide +kernel, rfl, by decide +kernel, by decide +kernel⟩
theorem sc_closed : FnScope ["rule", "part", "done", "block", "seen"] ["rule", "part"] (defScope s_closed) := ⟨rfl, rfl, rfl, by decide +kernel, rfl, by decide +kernel, by decide +kernel⟩
theorem sc_part_begun : FnScope ["rule", "word", "tick", "part", "low", "high", "done", "block"] ["rule", "word", "tick", "part"] (defScope s_part_begun) := ⟨rfl, rfl, rfl, by decide +kernel, rfl, by decide +kernel, by decide +kernel⟩
theorem sc_parts_behind : FnScope ["rule", "tick", "parts", "going", "letter", "word", "later", "spot"] ["rule", "tick", "parts", "going", "letter"] (defScope s_parts_behind) := ⟨rfl, rfl, rfl, by decide +kernel, rfl, by decide +kernel, by decide +kernel⟩
theorem sc_put_away : FnScope ["frame", "rule", "word", "low", "part", "done", "block", "begin", "end"] ["frame", "rule", "word", "low", "part"] (defScope s_put_away) := ⟨rfl, rfl, rfl, by decide +kernel, rfl, by decide +kernel, by decide +kernel⟩
theorem sc_lightened_part : FnScope ["rule", "word", "part", "low", "far", "behind", "block", "begin", "end"] ["rule", "word", "part", "low", "far"] (defScope s_lightened_part) := ⟨rfl, rfl, rfl, by decide +kernel, rfl, by decide +kernel, by decide +kernel⟩
theorem sc_lightened : FnScope ["given", "tick", "far", "standing", "making", "rule", "dues", "parts", "low", "later", "word", "part"] ["given", "tick", "far", "standing"] (defScope s_lightened) := ⟨rfl, rfl, rfl, by decide +kernel, rfl, by decide +kernel, by decide +kernel⟩
theorem sc_steps : FnScope ["frame", "given", "rules", "tick", "state", "standing", "kept", "found", "letter", "there", "later", "rule", "parts", "grown", "low", "word", "part"] ["frame", "given", "rules", "tick", "state"] (defScope s_steps) := ⟨rfl, rfl, rfl, by decide +kernel, rfl, by decide +kernel, by decide +kernel⟩
theorem sc_is_closing : FnScope ["frame", "given", "standing", "going", "run", "many", "making", "rule", "dues", "parts", "due", "part"] ["frame", "given", "standing"] (defScope s_is_closing) := ⟨rfl, rfl, rfl, by decide +kernel, rfl, by decide +kernel, by decide +kernel⟩
theorem sc_view_of : FnScope ["rule", "parts", "found", "word", "part", "begin", "end"] ["rule", "parts"] (defScope s_view_of) := ⟨rfl, rfl, rfl, by decide +kernel, rfl, by decide +kernel, by decide +kernel⟩
theorem sc_table : FnScope ["frame", "looks", "rules", "given", "first", "here", "tick", "later", "state", "many", "letters", "letter", "there", "known", "found", "standing", "kept", "seen", "rule", "parts"] ["frame", "looks", "rules"] (defScope s_table) := ⟨rfl, rfl, rfl, by decide +kernel, rfl, by decide +kernel, by decide +kernel⟩
theorem sc_is_meeting : FnScope ["value", "begin", "end", "is_private"] ["value"] (defScope s_is_meeting) := ⟨rfl, rfl, rfl, by decide +kernel, rfl, by decide +kernel, by decide +kernel⟩
theorem sc_are_meetings : FnScope ["length", "value", "last", "begin", "end", "is_private", "meeting"] ["length", "value"] (defScope s_are_meetings) := ⟨rfl, rfl, rfl, by decide +kernel, rfl, by decide +kernel, by decide +kernel⟩
theorem sc_Day_init : FnScope ["self", "length", "meetings"] ["self", "length", "meetings"] (defScope s_Day_init) := ⟨rfl, rfl, rfl, by decide +kernel, rfl, by decide +kernel, by decide +kernel⟩
theorem sc_day_of : FnScope ["letters", "found", "begin", "sort", "tick", "letter"] ["letters"] (defScope s_day_of) := ⟨rfl, rfl, rfl, by decide +kernel, rfl, by decide +kernel, by decide +kernel⟩
theorem sc_parting : FnScope ["frame", "p", "q", "known", "one", "other", "many", "letters"] ["frame", "p", "q"] (defScope s_parting) := ⟨rfl, rfl, rfl, by decide +kernel, rfl, by decide +kernel, by decide +kernel⟩
theorem sc_finer : FnScope ["frame", "p", "q"] ["frame", "p", "q"] (defScope s_finer) := ⟨rfl, rfl, rfl, by decide +kernel, rfl, by decide +kernel, by decide +kernel⟩
theorem sc_views : FnScope ["frame", "rule", "found", "seen"] ["frame", "rule"] (defScope s_views) := ⟨rfl, rfl, rfl, by decide +kernel, rfl, by decide +kernel, by decide +kernel⟩
theorem sc_law : FnScope ["_law_script", "_law_k", "_law_box", "_law_text", "_law_p", "_law_q", "_law_due", "_law_home", "_law_one", "_law_other", "_law_cut", "_law_secret"] ["_law_script"] (defScope s_law) := ⟨rfl, rfl, rfl, by decide +kernel, rfl, by decide +kernel, by decide +kernel⟩
def f_Lseed : Fx := fnOf 2 3
 (xSeq (xSet 2 (xOp gAdd (xOp gMul (xC (.int 8831)) (xVar 1)) (xC (.int 101))))
 (xSeq (xIfS (xOp gLt (xVar 1) (xCB gLen (xCons (xVar 0) xNil)))
 (xSet 2 (xCB gAbs (xCons (xOp gIx (xVar 0) (xVar 1)) xNil)))
 (xIfS (xOp gGt (xCB gLen (xCons (xVar 0) xNil)) (xC (.int 0)))
 (xSet 2 (xOp gAdd (xVar 2) (xOp gMul (xOp gMod (xCB gInt1 (xCons (xCB gAbs (xCons (xOp gIx (xVar 0) (xOp gMod (xCB gInt1 (xCons (xVar 1) xNil)) (xCB gLen (xCons (xVar 0) xNil)))) xNil)) xNil)) (xC (.int 2147483629))) (xC (.int 40093)))))
 xSkip))
 (xRet (xLst (xCons (xIf (xOp gGe (xVar 2) (xOp gPow (xC (.int 10)) (xC (.int 18)))) (xVar 2) (xC (.int 0))) (xCons (xOp gAdd (xOp gMod (xCB gInt1 (xCons (xOp gAdd (xOp gMul (xOp gMod (xCB gInt1 (xCons (xVar 2) xNil)) (xC (.int 2147483629))) (xC (.int 48271))) (xOp gMul (xC (.int 37021)) (xVar 1))) xNil)) (xC (.int 2147483629))) (xC (.int 1))) xNil))))))
def f_Lchoose : Fx := fnOf 2 4
 (xSeq (xIfS (xOp gGt (xOp gIx (xVar 0) (xC (.int 0))) (xC (.int 0)))
 (xSeq (xSet 2 (xOp gMod (xCB gInt1 (xCons (xOp gIx (xVar 0) (xC (.int 0))) xNil)) (xVar 1)))
 (xSeq (xAsg (xOp gFdiv (xOp gIx (xVar 0) (xC (.int 0))) (xVar 1)) (gSetIx (xVar 0) (xC (.int 0))))
 (xRet (xVar 2))))
 xSkip)
 (xSeq (xSet 3 (xOp gMod (xCB gInt1 (xCons (xOp gAdd (xOp gMul (xOp gIx (xVar 0) (xC (.int 1))) (xC (.int 40014))) (xC (.int 71))) xNil)) (xC (.int 2147483563))))
 (xSeq (xAsg (xOp gAdd (xOp gMod (xCB gInt1 (xCons (xOp gAdd (xOp gMul (xVar 3) (xC (.int 40692))) (xC (.int 4603))) xNil)) (xC (.int 2147483629))) (xC (.int 1))) (gSetIx (xVar 0) (xC (.int 1))))
 (xRet (xOp gMod (xCB gInt1 (xCons (xOp gFdiv (xOp gAdd (xOp gMul (xVar 3) (xC (.int 2147483647))) (xOp gIx (xVar 0) (xC (.int 1)))) (xC (.int 8191))) xNil)) (xVar 1))))))
def f_Lmixed : Fx := fnOf 2 4
 (xSeq (xPar 2 3 (xCons (xCB gList (xCons (xVar 1) xNil)) (xCons (xLst xNil) xNil)))
 (xSeq (xWhile (xOp gNe (xVar 2) (xLstF xNil))
 (xDrop (xBM "list" gAppend (xVar 3) (xCons (xBM "list" gPopI (xVar 2) (xCons (xCallB TBf f_Lchoose [] (xCons (xVar 0) (xCons (xCB gLenX (xCons (xVar 2) xNil)) xNil))) xNil)) xNil))))
 (xRet (xVar 3))))
def f_Lwritten : Fx := fnOf 0 1
 (xSeq (xSet 0 (xLst (xCons (xTup (xCons (xC (.str [108, 101, 110, 103, 116, 104, 32, 54, 32, 115, 104, 111, 114, 116, 101, 115, 116, 32, 49])) (xCons (xC (.str [50, 32, 48, 32, 48, 32, 98, 117, 115, 121])) (xCons (xC (.str [52, 32, 48, 32, 48, 32, 98, 117, 115, 121])) (xCons (xC (.bl true)) xNil))))) xNil)))
 (xSeq (xDrop (xBM "list" gAppend (xVar 0) (xCons (xTup (xCons (xC (.str [108, 101, 110, 103, 116, 104, 32, 54, 32, 115, 104, 111, 114, 116, 101, 115, 116, 32, 49])) (xCons (xC (.str [50, 32, 48, 32, 48, 32, 98, 117, 115, 121])) (xCons (xC (.str [51, 32, 48, 32, 48, 32, 98, 117, 115, 121])) (xCons (xC (.bl false)) xNil))))) xNil)))
 (xSeq (xDrop (xBM "list" gAppend (xVar 0) (xCons (xTup (xCons (xC (.str [108, 101, 110, 103, 116, 104, 32, 54, 32, 115, 104, 111, 114, 116, 101, 115, 116, 32, 49])) (xCons (xC (.str [52, 32, 48, 32, 48, 32, 98, 117, 115, 121])) (xCons (xC (.str [50, 32, 48, 32, 48, 32, 98, 117, 115, 121])) (xCons (xC (.bl false)) xNil))))) xNil)))
 (xSeq (xDrop (xBM "list" gAppend (xVar 0) (xCons (xTup (xCons (xC (.str [108, 101, 110, 103, 116, 104, 32, 53, 32, 115, 104, 111, 114, 116, 101, 115, 116, 32, 49])) (xCons (xC (.str [49, 32, 48, 32, 48, 32, 98, 117, 115, 121])) (xCons (xC (.str [49, 32, 50, 32, 48, 32, 98, 117, 115, 121])) (xCons (xC (.bl true)) xNil))))) xNil)))
 (xSeq (xDrop (xBM "list" gAppend (xVar 0) (xCons (xTup (xCons (xC (.str [108, 101, 110, 103, 116, 104, 32, 53, 32, 115, 104, 111, 114, 116, 101, 115, 116, 32, 49])) (xCons (xC (.str [49, 32, 50, 32, 48, 32, 98, 117, 115, 121])) (xCons (xC (.str [49, 32, 48, 32, 48, 32, 98, 117, 115, 121])) (xCons (xC (.bl false)) xNil))))) xNil)))
 (xSeq (xDrop (xBM "list" gAppend (xVar 0) (xCons (xTup (xCons (xC (.str [108, 101, 110, 103, 116, 104, 32, 53, 32, 115, 104, 111, 114, 116, 101, 115, 116, 32, 50])) (xCons (xC (.str [49, 32, 48, 32, 48, 32, 98, 117, 115, 121])) (xCons (xC (.str [49, 32, 48, 32, 51, 32, 98, 117, 115, 121])) (xCons (xC (.bl true)) xNil))))) xNil)))
 (xSeq (xDrop (xBM "list" gAppend (xVar 0) (xCons (xTup (xCons (xC (.str [108, 101, 110, 103, 116, 104, 32, 52, 32, 115, 104, 111, 114, 116, 101, 115, 116, 32, 49, 32, 112, 114, 105, 118, 97, 116, 101])) (xCons (xC (.str [49, 32, 48, 32, 48, 32, 97, 112, 97, 114, 116])) (xCons (xC (.str [49, 32, 48, 32, 48, 32, 98, 117, 115, 121])) (xCons (xC (.bl true)) xNil))))) xNil)))
 (xSeq (xDrop (xBM "list" gAppend (xVar 0) (xCons (xTup (xCons (xC (.str [108, 101, 110, 103, 116, 104, 32, 52, 32, 115, 104, 111, 114, 116, 101, 115, 116, 32, 49, 32, 112, 114, 105, 118, 97, 116, 101])) (xCons (xC (.str [49, 32, 48, 32, 48, 32, 97, 112, 97, 114, 116])) (xCons (xC (.str [49, 32, 48, 32, 48, 32, 110, 111, 110, 101])) (xCons (xC (.bl true)) xNil))))) xNil)))
 (xSeq (xDrop (xBM "list" gAppend (xVar 0) (xCons (xTup (xCons (xC (.str [108, 101, 110, 103, 116, 104, 32, 52, 32, 115, 104, 111, 114, 116, 101, 115, 116, 32, 49, 32, 112, 114, 105, 118, 97, 116, 101])) (xCons (xC (.str [49, 32, 48, 32, 48, 32, 110, 111, 110, 101])) (xCons (xC (.str [49, 32, 48, 32, 48, 32, 97, 112, 97, 114, 116])) (xCons (xC (.bl false)) xNil))))) xNil)))
 (xRet (xOp gPlusL (xVar 0) (xLst (xCons (xTup (xCons (xC (.str [108, 101, 110, 103, 116, 104, 32, 52, 32, 115, 104, 111, 114, 116, 101, 115, 116, 32, 49])) (xCons (xC (.str [49, 32, 48, 32, 48, 32, 110, 111, 110, 101])) (xCons (xC (.str [49, 32, 48, 32, 48, 32, 111, 110, 101])) (xCons (xC (.bl true)) xNil))))) xNil)))))))))))))
def f_number_in : Fx := fnOf 2 3
 (xSeq (xIfS (xOr (xNot (xChain gLt gLe (xC (.int 0)) (xCB gLenX (xCons (xVar 0) xNil)) (xVar 1))) (xNot (xCB gAll (xCons (xCompF [2] (xISX (xVar 0)) (gN 2) (xC (.bl true)) (xOp gInN (xVar 2) (xC c_DIGITS))) xNil))))
 (xRet (xC .non))
 xSkip)
 (xSeq (xIfS (xAnd (xOp gEq (xOp gIxX (xVar 0) (xC (.int 0))) (xC (.str [48]))) (xOp gNe (xVar 0) (xC (.str [48]))))
 (xRet (xC .non))
 xSkip)
 (xRet (xCB gIntX (xCons (xVar 0) xNil)))))
def f_is_integer : Fx := fnOf 1 1
 (xRet (xAnd (xUn (gIsi .int) (xVar 0)) (xNot (xUn (gIsi .bool) (xVar 0)))))
def f_is_number : Fx := fnOf 1 1
 (xRet (xAnd (xCallP TBf f_is_integer [] (xCons (xVar 0) xNil)) (xOp gGe (xVar 0) (xC (.int 0)))))
def f_is_bool : Fx := fnOf 1 1
 (xRet (xUn (gIsi .bool) (xVar 0)))
def f_is_sequence : Fx := fnOf 1 1
 (xRet (xUn (gIsi2 .list .tuple) (xVar 0)))
def f_are_known : Fx := fnOf 2 5
 (xSeq (xIfS (xOr (xNot (xCallP TBf f_is_sequence [] (xCons (xVar 1) xNil))) (xNot (xCB gAll (xCons (xCompF [2] (xISX (xVar 1)) (gN 2) (xC (.bl true)) (xAnd (xUn (gIsi .tuple) (xVar 2)) (xOp gEq (xCB gLenX (xCons (xVar 2) xNil)) (xC (.int 2))))) xNil))))
 (xRet (xC (.bl false)))
 xSkip)
 (xRet (xCB gAll (xCons (xCompF [3, 4] (xISX (xVar 1)) (gTu 2 (gsCons (gN 3) (gsCons (gN 4) gsNil))) (xC (.bl true)) (xAnd (xCallP TBf f_is_number [] (xCons (xVar 3) xNil)) (xAnd (xOp gLt (xVar 3) (xVar 0)) (xCallP TBf f_is_bool [] (xCons (xVar 4) xNil))))) xNil))))
abbrev d_Frame_init_v3 : List Val := [.non, .bl false, .tup []]
abbrev d_Frame_init_v4 : List Val := [.int 1, .non, .bl false, .tup []]
def f_Frame_init : Fx := fnOf 6 6
 (xSeq (xIfS (xOr (xNot (xCallP TBf f_is_integer [] (xCons (xVar 1) xNil))) (xOp gLt (xVar 1) (xC (.int 1))))
 (fun _ _ => .bad)
 xSkip)
 (xSeq (xIfS (xOr (xNot (xCallP TBf f_is_integer [] (xCons (xVar 2) xNil))) (xOp gLt (xVar 2) (xC (.int 1))))
 (fun _ _ => .bad)
 xSkip)
 (xSeq (xIfS (xAnd (xUn (fun _ v => some (.bl (!isNon v))) (xVar 3)) (xNot (xCallP TBf f_is_number [] (xCons (xVar 3) xNil))))
 (fun _ _ => .bad)
 xSkip)
 (xSeq (xIfS (xNot (xCallP TBf f_is_bool [] (xCons (xVar 4) xNil)))
 (fun _ _ => .bad)
 xSkip)
 (xSeq (xIfS (xNot (xCallP TBf f_are_known [] (xCons (xVar 1) (xCons (xVar 5) xNil))))
 (fun _ _ => .bad)
 xSkip)
 (xSeq (xSetAttr [(7, 0), (9, 0)] (xVar 1) (xVar 0))
 (xSeq (xSetAttr [(9, 1)] (xVar 2) (xVar 0))
 (xSeq (xSetAttr [(9, 2)] (xVar 3) (xVar 0))
 (xSeq (xSetAttr [(8, 3), (9, 3)] (xVar 4) (xVar 0))
 (xSetAttr [(9, 4)] (xCB gTuple (xCons (xVar 5) xNil)) (xVar 0)))))))))))
def f_known_in : Fx := fnOf 1 5
 (xSeq (xSet 1 (xCompF [2, 3] (xIZ2 (xCons (xStep 2 (xVar 0) oNone oNone) (xCons (xStep 2 (xVar 0) (oSome (xC (.int 1))) oNone) xNil))) (gTu 2 (gsCons (gN 2) (gsCons (gN 3) gsNil))) (xC (.bl true)) (xTup (xCons (xCallP TBf f_number_in [] (xCons (xVar 3) (xCons (xC c_MOST_DIGITS) xNil))) (xCons (xOp gEq (xVar 2) (xC (.str [116, 97, 107, 101, 110]))) xNil)))))
 (xSeq (xIfS (xOr (xOp gEq (xOp gMod (xCB gLenX (xCons (xVar 0) xNil)) (xC (.int 2))) (xC (.int 1))) (xNot (xCB gAll (xCons (xCompF [2] (xISX (xStep 2 (xVar 0) oNone oNone)) (gN 2) (xC (.bl true)) (xOp gInN (xVar 2) (xC c_MARKS))) xNil))))
 (fun _ _ => .bad)
 xSkip)
 (xSeq (xIfS (xCB gAny (xCons (xCompF [3, 4] (xISX (xVar 1)) (gTu 2 (gsCons (gN 3) (gsCons (gN 4) gsNil))) (xC (.bl true)) (xUn (fun _ v => some (.bl (isNon v))) (xVar 3))) xNil))
 (fun _ _ => .bad)
 xSkip)
 (xRet (xVar 1)))))
def f_Frame_read : Fx := fnOf 2 8
 (xSeq (xIfS (xNot (xUn (gIsi .str) (xVar 1)))
 (fun _ _ => .bad)
 xSkip)
 (xSeq (xPar 2 3 (xCons (xBM "str" gSplit (xVar 1) (xCons (xC (.str [32])) xNil)) (xCons (xC .non) xNil)))
 (xSeq (xSet 4 (xCompF [7] (xISX (xStep 2 (xVar 2) (oSome (xC (.int 1))) (oSome (xC (.int 4))))) (gN 7) (xC (.bl true)) (xCallP TBf f_number_in [] (xCons (xVar 7) (xCons (xC c_MOST_DIGITS) xNil)))))
 (xSeq (xIfS (xOr (xOp gNe (xCB gTuple (xCons (xStep 2 (xVar 2) oNone (oSome (xC (.int 3)))) xNil)) (xTup (xCons (xC (.str [108, 101, 110, 103, 116, 104])) (xCons (xC (.str [115, 104, 111, 114, 116, 101, 115, 116])) xNil)))) (xOr (xOp gNe (xCB gLenX (xCons (xVar 4) xNil)) (xC (.int 2))) (xOp gInN (xC .non) (xVar 4))))
 (fun _ _ => .bad)
 xSkip)
 (xSeq (xSet 5 (xSlice (xVar 2) (oSome (xC (.int 4))) oNone))
 (xSeq (xIfS (xAnd (xOp gGt (xCB gLenX (xCons (xVar 5) xNil)) (xC (.int 1))) (xOp gEq (xOp gIxX (xVar 5) (xC (.int 0))) (xC (.str [109, 111, 115, 116]))))
 (xSeq (xPar 3 5 (xCons (xCallP TBf f_number_in [] (xCons (xOp gIxX (xVar 5) (xC (.int 1))) (xCons (xC c_MOST_DIGITS) xNil))) (xCons (xSlice (xVar 5) (oSome (xC (.int 2))) oNone) xNil)))
 (xIfS (xUn (fun _ v => some (.bl (isNon v))) (xVar 3))
 (fun _ _ => .bad)
 xSkip))
 xSkip)
 (xSeq (xSet 6 (xAnd (xOp gGt (xCB gLenX (xCons (xVar 5) xNil)) (xC (.int 0))) (xOp gEq (xOp gIxX (xVar 5) (xC (.int 0))) (xC (.str [112, 114, 105, 118, 97, 116, 101])))))
 (xRet (xMakeL TBf 0 9 f_Frame_init [] (xCons (xOp gIxX (xVar 4) (xC (.int 0))) (xCons (xOp gIxX (xVar 4) (xC (.int 1))) (xCons (xVar 3) (xCons (xVar 6) (xCons (xCallP TBf f_known_in [] (xCons (xIf (xVar 6) (xSlice (xVar 5) (oSome (xC (.int 1))) oNone) (xVar 5)) xNil)) xNil))))))))))))))
def f_are_hours : Fx := fnOf 1 1
 (xSeq (xIfS (xUn (fun _ v => some (.bl (isNon v))) (xVar 0))
 (xRet (xC (.bl true)))
 xSkip)
 (xSeq (xIfS (xOr (xNot (xUn (gIsi .tuple) (xVar 0))) (xOr (xOp gNe (xCB gLenX (xCons (xVar 0) xNil)) (xC (.int 2))) (xOr (xNot (xCallP TBf f_is_number [] (xCons (xOp gIxX (xVar 0) (xC (.int 0))) xNil))) (xNot (xCallP TBf f_is_number [] (xCons (xOp gIxX (xVar 0) (xC (.int 1))) xNil))))))
 (xRet (xC (.bl false)))
 xSkip)
 (xRet (xOp gLt (xOp gIxX (xVar 0) (xC (.int 0))) (xOp gIxX (xVar 0) (xC (.int 1)))))))
abbrev d_Rule_init_v1 : List Val := [.non]
abbrev d_Rule_init_v2 : List Val := [.str [98, 117, 115, 121], .non]
abbrev d_Rule_init_v4 : List Val := [.int 0, .int 0, .str [98, 117, 115, 121], .non]
abbrev d_Rule_init_v5 : List Val := [.int 1, .int 0, .int 0, .str [98, 117, 115, 121], .non]
def f_Rule_init : Fx := fnOf 6 6
 (xSeq (xIfS (xOr (xNot (xCallP TBf f_is_integer [] (xCons (xVar 1) xNil))) (xOp gLt (xVar 1) (xC (.int 1))))
 (fun _ _ => .bad)
 xSkip)
 (xSeq (xIfS (xNot (xCallP TBf f_is_number [] (xCons (xVar 2) xNil)))
 (fun _ _ => .bad)
 xSkip)
 (xSeq (xIfS (xNot (xCallP TBf f_is_number [] (xCons (xVar 3) xNil)))
 (fun _ _ => .bad)
 xSkip)
 (xSeq (xIfS (xOr (xNot (xUn (gIsi .str) (xVar 4))) (xOp gNotInX (xVar 4) (xC c_SORTS)))
 (fun _ _ => .bad)
 xSkip)
 (xSeq (xIfS (xNot (xCallP TBf f_are_hours [] (xCons (xVar 5) xNil)))
 (fun _ _ => .bad)
 xSkip)
 (xSeq (xSetAttr [(8, 0)] (xVar 1) (xVar 0))
 (xSeq (xSetAttr [(8, 1)] (xVar 2) (xVar 0))
 (xSeq (xSetAttr [(8, 2)] (xVar 3) (xVar 0))
 (xSeq (xSetAttr [(8, 3), (9, 3)] (xVar 4) (xVar 0))
 (xSetAttr [(8, 4)] (xVar 5) (xVar 0)))))))))))
def f_Lrule_told : Fx := fnOf 1 2
 (xSeq (xSet 1 (xBM "str" gSplit (xVar 0) (xCons (xC (.str [32])) xNil)))
 (xRet (xMakeP TBf 8 f_Rule_init d_Rule_init_v1 (xCons (xCB gIntX (xCons (xOp gIxX (xVar 1) (xC (.int 0))) xNil)) (xCons (xCB gIntX (xCons (xOp gIxX (xVar 1) (xC (.int 1))) xNil)) (xCons (xCB gIntX (xCons (xOp gIxX (xVar 1) (xC (.int 2))) xNil)) (xCons (xOp gIxX (xVar 1) (xC (.int 3))) xNil)))))))
def f_is_block : Fx := fnOf 1 1
 (xSeq (xIfS (xOr (xNot (xUn (gIsi .tuple) (xVar 0))) (xOr (xOp gNe (xCB gLenX (xCons (xVar 0) xNil)) (xC (.int 3))) (xOr (xNot (xCallP TBf f_is_number [] (xCons (xOp gIxX (xVar 0) (xC (.int 0))) xNil))) (xNot (xCallP TBf f_is_number [] (xCons (xOp gIxX (xVar 0) (xC (.int 1))) xNil))))))
 (xRet (xC (.bl false)))
 xSkip)
 (xRet (xAnd (xOp gLt (xOp gIxX (xVar 0) (xC (.int 0))) (xOp gIxX (xVar 0) (xC (.int 1)))) (xAnd (xUn (gIsi .str) (xOp gIxX (xVar 0) (xC (.int 2)))) (xOp gInN (xOp gIxX (xVar 0) (xC (.int 2))) (xC c_WORDS))))))
def f_is_view : Fx := fnOf 1 4
 (xSeq (xIfS (xOr (xNot (xUn (gIsi .tuple) (xVar 0))) (xNot (xCB gAll (xCons (xCompF [1] (xISX (xVar 0)) (gN 1) (xC (.bl true)) (xCallP TBf f_is_block [] (xCons (xVar 1) xNil))) xNil))))
 (xRet (xC (.bl false)))
 xSkip)
 (xRet (xCB gAll (xCons (xCompF [2, 3] (xIZ2 (xCons (xVar 0) (xCons (xSlice (xVar 0) (oSome (xC (.int 1))) oNone) xNil))) (gTu 2 (gsCons (gN 2) (gsCons (gN 3) gsNil))) (xC (.bl true)) (xOp gLt (xVar 2) (xVar 3))) xNil))))
def f_is_look : Fx := fnOf 1 1
 (xRet (xAnd (xUn (gIsi .tuple) (xVar 0)) (xAnd (xOp gEq (xCB gLenX (xCons (xVar 0) xNil)) (xC (.int 2))) (xAnd (xUn (gIsO is_Rule) (xOp gIxX (xVar 0) (xC (.int 0)))) (xCallP TBf f_is_view [] (xCons (xOp gIxX (xVar 0) (xC (.int 1))) xNil))))))
def f_need_looks : Fx := fnOf 1 3
 (xSeq (xIfS (xNot (xCallP TBf f_is_sequence [] (xCons (xVar 0) xNil)))
 (fun _ _ => .bad)
 xSkip)
 (xSeq (xFor (xIN (xCons (xVar 0) xNil)) (gTu 2 (gsCons (gN 1) (gsCons (gN 2) gsNil)))
 (xIfS (xNot (xCallP TBf f_is_look [] (xCons (xVar 2) xNil)))
 (fun _ _ => .bad)
 xSkip))
 (xRet (xCB gTuple (xCons (xVar 0) xNil)))))
def f_prepared : Fx := fnOf 1 8
 (xSeq (xSet 1 (xLst xNil))
 (xSeq (xFor (xISX (xCallP TBf f_need_looks [] (xCons (xVar 0) xNil))) (gTu 2 (gsCons (gN 2) (gsCons (gN 3) gsNil)))
 (xDrop (xBM "list" gAppend (xVar 1) (xCons (xTup (xCons (xVar 2) (xCons (xCB gTuple (xCons (xCompF [4] (xISX (xC c_WORDS)) (gN 4) (xC (.bl true)) (xCompF [5, 6, 7] (xISX (xVar 3)) (gTu 3 (gsCons (gN 5) (gsCons (gN 6) (gsCons (gN 7) gsNil)))) (xOp gEq (xVar 7) (xVar 4)) (xTup (xCons (xVar 5) (xCons (xVar 6) xNil))))) xNil)) xNil))) xNil))))
 (xRet (xCB gTuple (xCons (xVar 1) xNil)))))
def f_begun : Fx := fnOf 2 3
 (xRet (xTup (xCons (xC (.str [])) (xCons (xC (.int 0)) (xCons (xC (.int 0)) (xCons (xCB gTuple (xCons (xCompF [2] (xISX (xCallP TBf f_need_looks [] (xCons (xVar 1) xNil))) (gN 2) (xC (.bl true)) (xTup (xCons (xTup (xCons (xC (.int 0)) (xCons (xC .non) xNil))) (xCons (xTup (xCons (xC (.int 0)) (xCons (xC .non) xNil))) xNil)))) xNil)) xNil))))))
def f_is_let : Fx := fnOf 4 9
 (xSeq (xAsg (xSlice (xVar 2) oNone (oSome (xC (.int 3)))) (gTu 3 (gsCons (gN 4) (gsCons (gN 5) (gsCons (gN 6) gsNil)))))
 (xSeq (xIfS (xOp gNe (xCompF [7, 8] (xISX (xUn (gAttr [(9, 4)]) (xVar 0))) (gTu 2 (gsCons (gN 7) (gsCons (gN 8) gsNil))) (xAnd (xOp gEq (xVar 7) (xVar 1)) (xOp gEq (xVar 8) (xOp gEq (xVar 3) (xC (.str [102, 114, 101, 101]))))) (xC (.int 1))) (xLstF xNil))
 (xRet (xC (.bl false)))
 xSkip)
 (xSeq (xIfS (xOp gEq (xVar 3) (xC (.str [111, 110])))
 (xRet (xOp gNe (xVar 4) (xC (.str []))))
 xSkip)
 (xSeq (xIfS (xAnd (xOp gNe (xVar 4) (xC (.str []))) (xOp gLt (xVar 5) (xUn (gAttr [(9, 1)]) (xVar 0))))
 (xRet (xC (.bl false)))
 xSkip)
 (xSeq (xIfS (xOp gEq (xVar 3) (xC (.str [102, 114, 101, 101])))
 (xRet (xC (.bl true)))
 xSkip)
 (xRet (xAnd (xOr (xOp gEq (xVar 3) (xC (.str [98, 117, 115, 121]))) (xUn (gAttr [(8, 3), (9, 3)]) (xVar 0))) (xOr (xUn (fun _ v => some (.bl (isNon v))) (xUn (gAttr [(9, 2)]) (xVar 0))) (xOp gLt (xVar 6) (xUn (gAttr [(9, 2)]) (xVar 0)))))))))))
def f_Rule_word_of : Fx := fnOf 2 2
 (xSeq (xIfS (xOr (xNot (xVar 1)) (xOp gEq (xUn (gAttr [(8, 3), (9, 3)]) (xVar 0)) (xC (.str [98, 117, 115, 121]))))
 (xRet (xOp gIxX (xC c_WORDS) (xC (.int 0))))
 xSkip)
 (xRet (xIf (xOp gEq (xUn (gAttr [(8, 3), (9, 3)]) (xVar 0)) (xC (.str [110, 111, 110, 101]))) (xC .non) (xOp gIxX (xC c_WORDS) (xC (.int 1))))))
def f_Rule_down : Fx := fnOf 2 2
 (xRet (xOp gMul (xOp gFdiv (xVar 1) (xUn (gAttr [(8, 0)]) (xVar 0))) (xUn (gAttr [(8, 0)]) (xVar 0))))
def f_Rule_up : Fx := fnOf 2 2
 (xRet (xOp gMul (xOp gFdiv (xOp gSub (xOp gPlus (xVar 1) (xUn (gAttr [(8, 0)]) (xVar 0))) (xC (.int 1))) (xUn (gAttr [(8, 0)]) (xVar 0))) (xUn (gAttr [(8, 0)]) (xVar 0))))
def f_Rule_joins : Fx := fnOf 4 4
 (xRet (xOr (xOp gLe (xOp gSub (xVar 3) (xVar 2)) (xUn (gAttr [(8, 1)]) (xVar 0))) (xAnd (xOp gEq (xVar 1) (xOp gIxX (xC c_WORDS) (xC (.int 1)))) (xOp gEq (xUn (gAttr [(8, 3), (9, 3)]) (xVar 0)) (xC (.str [111, 110, 101]))))))
def f_Rule_shown : Fx := fnOf 3 3
 (xSeq (xIfS (xOp gLt (xOp gSub (xVar 2) (xVar 1)) (xUn (gAttr [(8, 2)]) (xVar 0)))
 (xRet (xC .non))
 xSkip)
 (xSeq (xIfS (xUn (fun _ v => some (.bl (!isNon v))) (xUn (gAttr [(8, 4)]) (xVar 0)))
 (xPar 1 2 (xCons (xCB gMax2 (xCons (xCB gIntX (xCons (xVar 1) xNil)) (xCons (xCB gIntX (xCons (xOp gIxX (xUn (gAttr [(8, 4)]) (xVar 0)) (xC (.int 0))) xNil)) xNil))) (xCons (xCB gMin2 (xCons (xCB gIntX (xCons (xVar 2) xNil)) (xCons (xCB gIntX (xCons (xOp gIxX (xUn (gAttr [(8, 4)]) (xVar 0)) (xC (.int 1))) xNil)) xNil))) xNil)))
 xSkip)
 (xRet (xIf (xOp gLt (xVar 1) (xVar 2)) (xTup (xCons (xVar 1) (xCons (xVar 2) xNil))) (xC .non)))))
def f_settled : Fx := fnOf 3 6
 (xSeq (xAsg (xVar 2) (gTu 2 (gsCons (gN 3) (gsCons (gN 4) gsNil))))
 (xSeq (xSet 5 (xIf (xUn (fun _ v => some (.bl (isNon v))) (xVar 4)) (xC .non) (xMethP TBf 8 f_Rule_shown [] (xVar 0) (xCons (xOp gIxX (xVar 4) (xC (.int 0))) (xCons (xOp gIxX (xVar 4) (xC (.int 1))) xNil)))))
 (xSeq (xIfS (xUn (fun _ v => some (.bl (isNon v))) (xVar 5))
 (xRet (xVar 3))
 xSkip)
 (xRet (xIf (xOp gEq (xSlice (xVar 1) (oSome (xVar 3)) (oSome (xOp gPlus (xVar 3) (xC (.int 1))))) (xLstF (xCons (xVar 5) xNil))) (xOp gPlus (xVar 3) (xC (.int 1))) (xC .non))))))
def f_begun_part : Fx := fnOf 5 9
 (xSeq (xPar 5 6 (xCons (xMethP TBf 8 f_Rule_down [] (xVar 0) (xCons (xVar 3) xNil)) (xCons (xMethP TBf 8 f_Rule_up [] (xVar 0) (xCons (xOp gPlus (xVar 3) (xC (.int 1))) xNil)) xNil)))
 (xSeq (xAsg (xVar 4) (gTu 2 (gsCons (gN 7) (gsCons (gN 8) gsNil))))
 (xSeq (xIfS (xAnd (xUn (fun _ v => some (.bl (!isNon v))) (xVar 8)) (xMethP TBf 8 f_Rule_joins [] (xVar 0) (xCons (xVar 2) (xCons (xOp gIxX (xVar 8) (xC (.int 1))) (xCons (xVar 5) xNil)))))
 (xRet (xTup (xCons (xVar 7) (xCons (xTup (xCons (xOp gIxX (xVar 8) (xC (.int 0))) (xCons (xCB gMax2 (xCons (xCB gIntX (xCons (xOp gIxX (xVar 8) (xC (.int 1))) xNil)) (xCons (xCB gIntX (xCons (xVar 6) xNil)) xNil))) xNil))) xNil))))
 xSkip)
 (xSeq (xSet 7 (xCallP TBf f_settled [] (xCons (xVar 0) (xCons (xVar 1) (xCons (xVar 4) xNil)))))
 (xRet (xIf (xUn (fun _ v => some (.bl (isNon v))) (xVar 7)) (xC .non) (xTup (xCons (xVar 7) (xCons (xTup (xCons (xVar 5) (xCons (xVar 6) xNil))) xNil)))))))))
def f_grown_part : Fx := fnOf 5 7
 (xSeq (xAsg (xVar 4) (gTu 2 (gsCons (gN 5) (gsCons (gN 6) gsNil))))
 (xSeq (xIfS (xUn (fun _ v => some (.bl (isNon v))) (xVar 6))
 (xRet (xVar 4))
 xSkip)
 (xRet (xTup (xCons (xVar 5) (xCons (xTup (xCons (xOp gIxX (xVar 6) (xC (.int 0))) (xCons (xCB gMax2 (xCons (xCB gIntX (xCons (xOp gIxX (xVar 6) (xC (.int 1))) xNil)) (xCons (xCB gIntX (xCons (xMethP TBf 8 f_Rule_up [] (xVar 0) (xCons (xOp gPlus (xVar 3) (xC (.int 1))) xNil)) xNil)) xNil))) xNil))) xNil))))))
def f_led : Fx := fnOf 5 12
 (xSeq (xSet 5 (xLst xNil))
 (xSeq (xFor (xIZ2 (xCons (xVar 0) (xCons (xVar 2) xNil))) (gTu 2 (gsCons (gTu 2 (gsCons (gN 6) (gsCons (gN 7) gsNil))) (gsCons (gN 8) gsNil)))
 (xSeq (xPar 9 10 (xCons (xMethP TBf 8 f_Rule_word_of [] (xVar 6) (xCons (xVar 3) xNil)) (xCons (xCB gList (xCons (xVar 8) xNil)) xNil)))
 (xSeq (xIfS (xUn (fun _ v => some (.bl (!isNon v))) (xVar 9))
 (xSeq (xSet 11 (xTIdx c_WORDS (xCons (xVar 9) xNil)))
 (xSeq (xAsg (xCallV TBf 4 [(101, f_grown_part), (100, f_begun_part)] (xCons (xVar 6) (xCons (xOp gIxX (xVar 7) (xVar 11)) (xCons (xVar 9) (xCons (xVar 1) (xCons (xOp gIxX (xVar 8) (xVar 11)) xNil)))))) (gSetX (xVar 10) (xVar 11)))
 (xIfS (xUn (fun _ v => some (.bl (isNon v))) (xOp gIxX (xVar 10) (xVar 11)))
 (xRet (xC .non))
 xSkip)))
 xSkip)
 (xDrop (xBM "list" gAppend (xVar 5) (xCons (xCB gTuple (xCons (xVar 10) xNil)) xNil))))))
 (xRet (xCB gTuple (xCons (xVar 5) xNil)))))
def f_follow : Fx := fnOf 5 9
 (xSeq (xIfS (xNot (xCallP TBf f_is_let [] (xCons (xVar 0) (xCons (xVar 2) (xCons (xVar 3) (xCons (xVar 4) xNil))))))
 (xRet (xC .non))
 xSkip)
 (xSeq (xAsg (xVar 3) (gTu 4 (gsCons (gN 5) (gsCons (gN 6) (gsCons (gN 7) (gsCons (gN 8) gsNil))))))
 (xSeq (xIfS (xOp gEq (xVar 4) (xC (.str [102, 114, 101, 101])))
 (xRet (xTup (xCons (xC (.str [])) (xCons (xC (.int 0)) (xCons (xVar 7) (xCons (xVar 8) xNil))))))
 xSkip)
 (xSeq (xIfS (xOp gEq (xVar 4) (xC (.str [111, 110])))
 (xSeq (xSet 8 (xCallP TBf f_led [] (xCons (xVar 1) (xCons (xVar 2) (xCons (xVar 8) (xCons (xOp gEq (xVar 5) (xC (.str [112, 114, 105, 118, 97, 116, 101]))) (xCons (xC (.glo 101)) xNil)))))))
 (xRet (xTup (xCons (xVar 5) (xCons (xCB gMin2 (xCons (xCB gIntX (xCons (xUn (gAttr [(9, 1)]) (xVar 0)) xNil)) (xCons (xOp gPlus (xVar 6) (xC (.int 1))) xNil))) (xCons (xVar 7) (xCons (xVar 8) xNil)))))))
 xSkip)
 (xSeq (xSet 8 (xCallP TBf f_led [] (xCons (xVar 1) (xCons (xVar 2) (xCons (xVar 8) (xCons (xOp gEq (xVar 4) (xC (.str [112, 114, 105, 118, 97, 116, 101]))) (xCons (xC (.glo 100)) xNil)))))))
 (xSeq (xIfS (xUn (fun _ v => some (.bl (isNon v))) (xVar 8))
 (xRet (xC .non))
 xSkip)
 (xRet (xTup (xCons (xVar 4) (xCons (xC (.int 1)) (xCons (xIf (xUn (fun _ v => some (.bl (isNon v))) (xUn (gAttr [(9, 2)]) (xVar 0))) (xVar 7) (xOp gPlus (xVar 7) (xC (.int 1)))) (xCons (xVar 8) xNil))))))))))))
def f_can_come : Fx := fnOf 5 6
 (xSeq (xIfS (xUn (fun _ v => some (.bl (isNon v))) (xVar 3))
 (xRet (xOr (xOp gEq (xVar 2) (xLstF xNil)) (xOp gLe (xVar 4) (xOp gIxX (xOp gIxX (xVar 2) (xC (.int 0))) (xC (.int 0))))))
 xSkip)
 (xSeq (xSet 5 (xMethP TBf 8 f_Rule_shown [] (xVar 0) (xCons (xOp gIxX (xVar 3) (xC (.int 0))) (xCons (xOp gIxX (xVar 3) (xC (.int 1))) xNil))))
 (xSeq (xIfS (xUn (fun _ v => some (.bl (isNon v))) (xVar 5))
 (xRet (xC (.bl true)))
 xSkip)
 (xSeq (xIfS (xOr (xOp gEq (xVar 2) (xLstF xNil)) (xOr (xOp gNe (xOp gIxX (xVar 5) (xC (.int 0))) (xOp gIxX (xOp gIxX (xVar 2) (xC (.int 0))) (xC (.int 0)))) (xOp gGt (xOp gIxX (xVar 5) (xC (.int 1))) (xOp gIxX (xOp gIxX (xVar 2) (xC (.int 0))) (xC (.int 1))))))
 (xRet (xC (.bl false)))
 xSkip)
 (xRet (xOr (xOp gEq (xVar 5) (xOp gIxX (xVar 2) (xC (.int 0)))) (xMethP TBf 8 f_Rule_joins [] (xVar 0) (xCons (xVar 1) (xCons (xOp gIxX (xVar 3) (xC (.int 1))) (xCons (xVar 4) xNil))))))))))
def f_is_hopeful : Fx := fnOf 3 10
 (xSeq (xFor (xIZ2 (xCons (xVar 0) (xCons (xOp gIxX (xVar 2) (xC (.int 3))) xNil))) (gTu 2 (gsCons (gTu 2 (gsCons (gN 3) (gsCons (gN 4) gsNil))) (gsCons (gN 5) gsNil)))
 (xFor (xIZ3 (xCons (xC c_WORDS) (xCons (xVar 4) (xCons (xVar 5) xNil)))) (gTu 3 (gsCons (gN 6) (gsCons (gN 7) (gsCons (gTu 2 (gsCons (gN 8) (gsCons (gN 9) gsNil))) gsNil))))
 (xIfS (xNot (xCallP TBf f_can_come [] (xCons (xVar 3) (xCons (xVar 6) (xCons (xSlice (xVar 7) (oSome (xVar 8)) (oSome (xOp gPlus (xVar 8) (xC (.int 1))))) (xCons (xVar 9) (xCons (xMethP TBf 8 f_Rule_down [] (xVar 3) (xCons (xVar 1) xNil)) xNil)))))))
 (xRet (xC (.bl false)))
 xSkip)))
 (xRet (xC (.bl true))))
def f_part_grown : Fx := fnOf 3 5
 (xSeq (xAsg (xVar 2) (gTu 2 (gsCons (gN 3) (gsCons (gN 4) gsNil))))
 (xSeq (xIfS (xUn (fun _ v => some (.bl (isNon v))) (xVar 4))
 (xRet (xVar 2))
 xSkip)
 (xRet (xTup (xCons (xVar 3) (xCons (xTup (xCons (xOp gIxX (xVar 4) (xC (.int 0))) (xCons (xCB gMax2 (xCons (xCB gIntX (xCons (xOp gIxX (xVar 4) (xC (.int 1))) xNil)) (xCons (xCB gIntX (xCons (xMethP TBf 8 f_Rule_up [] (xVar 0) (xCons (xOp gPlus (xVar 1) (xC (.int 1))) xNil)) xNil)) xNil))) xNil))) xNil))))))
def f_closed : Fx := fnOf 2 5
 (xSeq (xAsg (xVar 1) (gTu 2 (gsCons (gN 2) (gsCons (gN 3) gsNil))))
 (xSeq (xSet 4 (xIf (xUn (fun _ v => some (.bl (isNon v))) (xVar 3)) (xC .non) (xMethP TBf 8 f_Rule_shown [] (xVar 0) (xCons (xOp gIxX (xVar 3) (xC (.int 0))) (xCons (xOp gIxX (xVar 3) (xC (.int 1))) xNil)))))
 (xRet (xIf (xUn (fun _ v => some (.bl (isNon v))) (xVar 4)) (xVar 2) (xTup (xStar (xVar 2) (xCons (xVar 4) xNil)))))))
def f_part_begun : Fx := fnOf 4 8
 (xSeq (xPar 4 5 (xCons (xMethP TBf 8 f_Rule_down [] (xVar 0) (xCons (xVar 2) xNil)) (xCons (xMethP TBf 8 f_Rule_up [] (xVar 0) (xCons (xOp gPlus (xVar 2) (xC (.int 1))) xNil)) xNil)))
 (xSeq (xAsg (xVar 3) (gTu 2 (gsCons (gN 6) (gsCons (gN 7) gsNil))))
 (xSeq (xIfS (xAnd (xUn (fun _ v => some (.bl (!isNon v))) (xVar 7)) (xMethP TBf 8 f_Rule_joins [] (xVar 0) (xCons (xVar 1) (xCons (xOp gIxX (xVar 7) (xC (.int 1))) (xCons (xVar 4) xNil)))))
 (xRet (xTup (xCons (xVar 6) (xCons (xTup (xCons (xOp gIxX (xVar 7) (xC (.int 0))) (xCons (xCB gMax2 (xCons (xCB gIntX (xCons (xOp gIxX (xVar 7) (xC (.int 1))) xNil)) (xCons (xCB gIntX (xCons (xVar 5) xNil)) xNil))) xNil))) xNil))))
 xSkip)
 (xRet (xTup (xCons (xCallP TBf f_closed [] (xCons (xVar 0) (xCons (xVar 3) xNil))) (xCons (xTup (xCons (xVar 4) (xCons (xVar 5) xNil))) xNil)))))))
def f_parts_behind : Fx := fnOf 5 8
 (xSeq (xIfS (xOp gEq (xVar 4) (xC (.str [102, 114, 101, 101])))
 (xRet (xVar 2))
 xSkip)
 (xSeq (xSet 5 (xMethP TBf 8 f_Rule_word_of [] (xVar 0) (xCons (xOp gEq (xIf (xOp gEq (xVar 4) (xC (.str [111, 110]))) (xVar 3) (xVar 4)) (xC (.str [112, 114, 105, 118, 97, 116, 101]))) xNil)))
 (xSeq (xIfS (xUn (fun _ v => some (.bl (isNon v))) (xVar 5))
 (xRet (xVar 2))
 xSkip)
 (xSeq (xPar 6 7 (xCons (xCB gList (xCons (xVar 2) xNil)) (xCons (xTIdx c_WORDS (xCons (xVar 5) xNil)) xNil)))
 (xSeq (xIfS (xOp gEq (xVar 4) (xC (.str [111, 110])))
 (xAsg (xCallP TBf f_part_grown [] (xCons (xVar 0) (xCons (xVar 1) (xCons (xOp gIxX (xVar 2) (xVar 7)) xNil)))) (gSetX (xVar 6) (xVar 7)))
 (xAsg (xCallP TBf f_part_begun [] (xCons (xVar 0) (xCons (xVar 5) (xCons (xVar 1) (xCons (xOp gIxX (xVar 2) (xVar 7)) xNil))))) (gSetX (xVar 6) (xVar 7))))
 (xRet (xCB gTuple (xCons (xVar 6) xNil))))))))
def f_put_away : Fx := fnOf 5 9
 (xSeq (xAsg (xVar 4) (gTu 2 (gsCons (gN 5) (gsCons (gN 6) gsNil))))
 (xSeq (xIfS (xUn (fun _ v => some (.bl (isNon v))) (xVar 6))
 (xRet (xVar 4))
 xSkip)
 (xSeq (xAsg (xVar 6) (gTu 2 (gsCons (gN 7) (gsCons (gN 8) gsNil))))
 (xSeq (xIfS (xOr (xOp gLt (xOp gSub (xMethP TBf 8 f_Rule_up [] (xVar 1) (xCons (xUn (gAttr [(7, 0), (9, 0)]) (xVar 0)) xNil)) (xVar 7)) (xUn (gAttr [(8, 2)]) (xVar 1))) (xAnd (xUn (fun _ v => some (.bl (!isNon v))) (xUn (gAttr [(8, 4)]) (xVar 1))) (xOp gGe (xVar 7) (xOp gIxX (xUn (gAttr [(8, 4)]) (xVar 1)) (xC (.int 1))))))
 (xRet (xTup (xCons (xVar 5) (xCons (xC .non) xNil))))
 xSkip)
 (xSeq (xIfS (xNot (xMethP TBf 8 f_Rule_joins [] (xVar 1) (xCons (xVar 2) (xCons (xVar 8) (xCons (xVar 3) xNil)))))
 (xRet (xTup (xCons (xCallP TBf f_closed [] (xCons (xVar 1) (xCons (xVar 4) xNil))) (xCons (xC .non) xNil))))
 xSkip)
 (xSeq (xIfS (xAnd (xUn (fun _ v => some (.bl (!isNon v))) (xUn (gAttr [(8, 4)]) (xVar 1))) (xAnd (xOp gLt (xVar 7) (xOp gIxX (xUn (gAttr [(8, 4)]) (xVar 1)) (xC (.int 0)))) (xOp gGe (xOp gSub (xVar 8) (xVar 7)) (xUn (gAttr [(8, 2)]) (xVar 1)))))
 (xSet 7 (xCB gMin2 (xCons (xCB gIntX (xCons (xOp gIxX (xUn (gAttr [(8, 4)]) (xVar 1)) (xC (.int 0))) xNil)) (xCons (xCB gIntX (xCons (xOp gSub (xVar 8) (xUn (gAttr [(8, 2)]) (xVar 1))) xNil)) xNil))))
 xSkip)
 (xRet (xTup (xCons (xVar 5) (xCons (xTup (xCons (xVar 7) (xCons (xVar 8) xNil))) xNil))))))))))
def f_lightened_part : Fx := fnOf 5 9
 (xSeq (xAsg (xVar 2) (gTu 2 (gsCons (gN 5) (gsCons (gN 6) gsNil))))
 (xSeq (xIfS (xOr (xUn (fun _ v => some (.bl (isNon v))) (xVar 6)) (xOp gLt (xOp gSub (xMethP TBf 8 f_Rule_up [] (xVar 0) (xCons (xVar 4) xNil)) (xOp gIxX (xVar 6) (xC (.int 0)))) (xUn (gAttr [(8, 2)]) (xVar 0))))
 (xRet (xTup (xCons (xVar 5) (xCons (xC .non) xNil))))
 xSkip)
 (xSeq (xIfS (xAnd (xUn (fun _ v => some (.bl (!isNon v))) (xUn (gAttr [(8, 4)]) (xVar 0))) (xOp gGe (xOp gIxX (xVar 6) (xC (.int 0))) (xOp gIxX (xUn (gAttr [(8, 4)]) (xVar 0)) (xC (.int 1)))))
 (xRet (xTup (xCons (xVar 5) (xCons (xC .non) xNil))))
 xSkip)
 (xSeq (xIfS (xNot (xMethP TBf 8 f_Rule_joins [] (xVar 0) (xCons (xVar 1) (xCons (xOp gIxX (xVar 6) (xC (.int 1))) (xCons (xVar 3) xNil)))))
 (xRet (xTup (xCons (xIf (xUn (fun _ v => some (.bl (isNon v))) (xMethP TBf 8 f_Rule_shown [] (xVar 0) (xCons (xOp gIxX (xVar 6) (xC (.int 0))) (xCons (xOp gIxX (xVar 6) (xC (.int 1))) xNil)))) (xVar 5) (xOp gPlus (xVar 5) (xC (.int 1)))) (xCons (xC .non) xNil))))
 xSkip)
 (xSeq (xAsg (xVar 6) (gTu 2 (gsCons (gN 7) (gsCons (gN 8) gsNil))))
 (xSeq (xIfS (xAnd (xUn (fun _ v => some (.bl (!isNon v))) (xUn (gAttr [(8, 4)]) (xVar 0))) (xAnd (xOp gLt (xVar 7) (xOp gIxX (xUn (gAttr [(8, 4)]) (xVar 0)) (xC (.int 0)))) (xOp gGe (xOp gSub (xVar 8) (xVar 7)) (xUn (gAttr [(8, 2)]) (xVar 0)))))
 (xSet 7 (xCB gMin2 (xCons (xCB gIntX (xCons (xOp gIxX (xUn (gAttr [(8, 4)]) (xVar 0)) (xC (.int 0))) xNil)) (xCons (xCB gIntX (xCons (xOp gSub (xVar 8) (xUn (gAttr [(8, 2)]) (xVar 0))) xNil)) xNil))))
 xSkip)
 (xRet (xTup (xCons (xVar 5) (xCons (xTup (xCons (xVar 7) (xCons (xVar 8) xNil))) xNil))))))))))
def f_lightened : Fx := fnOf 4 12
 (xSeq (xSet 4 (xLst xNil))
 (xSeq (xFor (xIZ2 (xCons (xVar 0) (xCons (xOp gIxX (xVar 3) (xC (.int 3))) xNil))) (gTu 2 (gsCons (gTu 2 (gsCons (gN 5) (gsCons (gN 6) gsNil))) (gsCons (gN 7) gsNil)))
 (xSeq (xPar 8 9 (xCons (xMethP TBf 8 f_Rule_down [] (xVar 5) (xCons (xVar 1) xNil)) (xCons (xLst xNil) xNil)))
 (xSeq (xFor (xIZ2 (xCons (xC c_WORDS) (xCons (xVar 7) xNil))) (gTu 2 (gsCons (gN 10) (gsCons (gN 11) gsNil)))
 (xDrop (xBM "list" gAppend (xVar 9) (xCons (xCallP TBf f_lightened_part [] (xCons (xVar 5) (xCons (xVar 10) (xCons (xVar 11) (xCons (xVar 8) (xCons (xVar 2) xNil)))))) xNil))))
 (xDrop (xBM "list" gAppend (xVar 4) (xCons (xCB gTuple (xCons (xVar 9) xNil)) xNil))))))
 (xRet (xTup (xStar (xSlice (xVar 3) oNone (oSome (xC (.int 3)))) (xCons (xCB gTuple (xCons (xVar 4) xNil)) xNil))))))
def f_steps : Fx := fnOf 5 17
 (xSeq (xAsg (xVar 4) (gTu 2 (gsCons (gN 5) (gsCons (gN 6) gsNil))))
 (xSeq (xSet 7 (xLst xNil))
 (xSeq (xFor (xISX (xC c_LETTERS)) (gN 8)
 (xSeq (xSet 9 (xCallP TBf f_follow [] (xCons (xVar 0) (xCons (xVar 1) (xCons (xVar 3) (xCons (xVar 5) (xCons (xVar 8) xNil)))))))
 (xIfS (xAnd (xUn (fun _ v => some (.bl (!isNon v))) (xVar 9)) (xCallP TBf f_is_hopeful [] (xCons (xVar 1) (xCons (xOp gPlus (xVar 3) (xC (.int 1))) (xCons (xVar 9) xNil)))))
 (xSeq (xSet 10 (xLst xNil))
 (xSeq (xFor (xIZ2 (xCons (xVar 2) (xCons (xVar 6) xNil))) (gTu 2 (gsCons (gN 11) (gsCons (gN 12) gsNil)))
 (xSeq (xAsg (xTup (xCons (xCallP TBf f_parts_behind [] (xCons (xVar 11) (xCons (xVar 3) (xCons (xVar 12) (xCons (xOp gIxX (xVar 5) (xC (.int 0))) (xCons (xVar 8) xNil)))))) (xCons (xMethP TBf 8 f_Rule_down [] (xVar 11) (xCons (xOp gPlus (xVar 3) (xC (.int 1))) xNil)) xNil))) (gTu 2 (gsCons (gN 13) (gsCons (gN 14) gsNil))))
 (xDrop (xBM "list" gAppend (xVar 10) (xCons (xCB gTuple (xCons (xCompF [15, 16] (xIZ2 (xCons (xC c_WORDS) (xCons (xVar 13) xNil))) (gTu 2 (gsCons (gN 15) (gsCons (gN 16) gsNil))) (xC (.bl true)) (xCallP TBf f_put_away [] (xCons (xVar 0) (xCons (xVar 11) (xCons (xVar 15) (xCons (xVar 14) (xCons (xVar 16) xNil))))))) xNil)) xNil)))))
 (xDrop (xBM "list" gAppend (xVar 7) (xCons (xTup (xCons (xVar 8) (xCons (xTup (xCons (xCallP TBf f_lightened [] (xCons (xVar 1) (xCons (xOp gPlus (xVar 3) (xC (.int 1))) (xCons (xUn (gAttr [(7, 0), (9, 0)]) (xVar 0)) (xCons (xVar 9) xNil))))) (xCons (xCB gTuple (xCons (xVar 10) xNil)) xNil))) xNil))) xNil)))))
 xSkip)))
 (xRet (xVar 7)))))
def f_is_closing : Fx := fnOf 3 12
 (xSeq (xAsg (xVar 2) (gTu 4 (gsCons (gN 3) (gsCons (gN 4) (gsCons (gN 5) (gsCons (gN 6) gsNil))))))
 (xSeq (xIfS (xAnd (xOp gNe (xVar 3) (xC (.str []))) (xOp gLt (xVar 4) (xUn (gAttr [(9, 1)]) (xVar 0))))
 (xRet (xC (.bl false)))
 xSkip)
 (xSeq (xFor (xIZ2 (xCons (xVar 1) (xCons (xVar 6) xNil))) (gTu 2 (gsCons (gTu 2 (gsCons (gN 7) (gsCons (gN 8) gsNil))) (gsCons (gN 9) gsNil)))
 (xFor (xIZ2 (xCons (xVar 8) (xCons (xVar 9) xNil))) (gTu 2 (gsCons (gN 10) (gsCons (gN 11) gsNil)))
 (xIfS (xOp gNe (xCallP TBf f_settled [] (xCons (xVar 7) (xCons (xVar 10) (xCons (xVar 11) xNil)))) (xCB gLenX (xCons (xVar 10) xNil)))
 (xRet (xC (.bl false)))
 xSkip)))
 (xRet (xC (.bl true))))))
def f_view_of : Fx := fnOf 2 7
 (xSeq (xSet 2 (xLst xNil))
 (xSeq (xFor (xIZ2 (xCons (xC c_WORDS) (xCons (xVar 1) xNil))) (gTu 2 (gsCons (gN 3) (gsCons (gN 4) gsNil)))
 (xDrop (xBM "list" gExtendX (xVar 2) (xCons (xComp [5, 6] (xISX (xCallP TBf f_closed [] (xCons (xVar 0) (xCons (xVar 4) xNil)))) (gTu 2 (gsCons (gN 5) (gsCons (gN 6) gsNil))) (xC (.bl true)) (xTup (xCons (xVar 5) (xCons (xVar 6) (xCons (xVar 3) xNil))))) xNil))))
 (xRet (xCB gTuple (xCons (xCB gSortD (xCons (xVar 2) xNil)) xNil)))))
def f_table : Fx := fnOf 3 20
 (xSeq (xSet 3 (xCallP TBf f_prepared [] (xCons (xVar 1) xNil)))
 (xSeq (xSet 4 (xTup (xCons (xCallP TBf f_begun [] (xCons (xVar 0) (xCons (xVar 1) xNil))) (xCons (xCB gTuple (xCons (xCompF [18] (xISX (xVar 2)) (gN 18) (xC (.bl true)) (xTup (xCons (xTup (xCons (xTup xNil) (xCons (xC .non) xNil))) (xCons (xTup (xCons (xTup xNil) (xCons (xC .non) xNil))) xNil)))) xNil)) xNil))))
 (xSeq (xSet 5 (xDisp (xCons (xVar 4) (xCons (xTup (xCons (xC (.int 1)) (xCons (xTup xNil) xNil))) xNil))))
 (xSeq (xFor (xIRng1 (xCons (xUn (gAttr [(7, 0), (9, 0)]) (xVar 0)) xNil)) (gN 6)
 (xSeq (xSet 7 xDct0)
 (xSeq (xFor (xID 2 (xVar 5)) (gTu 2 (gsCons (gN 8) (gsCons (gTu 2 (gsCons (gN 9) (gsCons (gN 10) gsNil))) gsNil)))
 (xFor (xISX (xCallP TBf f_steps [] (xCons (xVar 0) (xCons (xVar 3) (xCons (xVar 2) (xCons (xVar 6) (xCons (xVar 8) xNil))))))) (gTu 2 (gsCons (gN 11) (gsCons (gN 12) gsNil)))
 (xSeq (xSet 13 (xDGet (xVar 7) (xVar 12) (xTup (xCons (xC (.int 0)) (xCons (xTup (xStar (xVar 10) (xCons (xVar 11) xNil))) xNil)))))
 (xAsg (xTup (xCons (xOp gPlus (xOp gIxX (xVar 13) (xC (.int 0))) (xVar 9)) (xCons (xOp gIxX (xVar 13) (xC (.int 1))) xNil))) (gSetX (xVar 7) (xVar 12))))))
 (xSet 5 (xVar 7)))))
 (xSeq (xSet 14 xDct0)
 (xSeq (xFor (xID 2 (xVar 5)) (gTu 2 (gsCons (gTu 2 (gsCons (gN 15) (gsCons (gN 16) gsNil))) (gsCons (gTu 2 (gsCons (gN 9) (gsCons (gN 10) gsNil))) gsNil)))
 (xIfS (xCallP TBf f_is_closing [] (xCons (xVar 0) (xCons (xVar 3) (xCons (xVar 15) xNil))))
 (xSeq (xSet 17 (xCB gTuple (xCons (xCompF [18, 19] (xIZ2 (xCons (xVar 2) (xCons (xVar 16) xNil))) (gTu 2 (gsCons (gN 18) (gsCons (gN 19) gsNil))) (xC (.bl true)) (xCallP TBf f_view_of [] (xCons (xVar 18) (xCons (xVar 19) xNil)))) xNil)))
 (xSeq (xSet 13 (xDGet (xVar 14) (xVar 17) (xTup (xCons (xC (.int 0)) (xCons (xVar 10) xNil)))))
 (xAsg (xTup (xCons (xOp gPlus (xOp gIxX (xVar 13) (xC (.int 0))) (xVar 9)) (xCons (xOp gIxX (xVar 13) (xC (.int 1))) xNil))) (gSetX (xVar 14) (xVar 17)))))
 xSkip))
 (xRet (xVar 14))))))))
def f_is_meeting : Fx := fnOf 1 4
 (xSeq (xIfS (xOr (xNot (xUn (gIsi .tuple) (xVar 0))) (xOp gNe (xCB gLenX (xCons (xVar 0) xNil)) (xC (.int 3))))
 (xRet (xC (.bl false)))
 xSkip)
 (xSeq (xAsg (xVar 0) (gTu 3 (gsCons (gN 1) (gsCons (gN 2) (gsCons (gN 3) gsNil)))))
 (xRet (xAnd (xCallP TBf f_is_number [] (xCons (xVar 1) xNil)) (xAnd (xCallP TBf f_is_number [] (xCons (xVar 2) xNil)) (xAnd (xCallP TBf f_is_bool [] (xCons (xVar 3) xNil)) (xOp gLt (xVar 1) (xVar 2))))))))
def f_are_meetings : Fx := fnOf 2 7
 (xSeq (xIfS (xOr (xNot (xCallP TBf f_is_sequence [] (xCons (xVar 1) xNil))) (xNot (xCB gAll (xCons (xCompF [6] (xISX (xVar 1)) (gN 6) (xC (.bl true)) (xCallP TBf f_is_meeting [] (xCons (xVar 6) xNil))) xNil))))
 (xRet (xC (.bl false)))
 xSkip)
 (xSeq (xSet 2 (xC (.int 0)))
 (xSeq (xFor (xISX (xVar 1)) (gTu 3 (gsCons (gN 3) (gsCons (gN 4) (gsCons (gN 5) gsNil))))
 (xSeq (xIfS (xOr (xOp gLt (xVar 3) (xVar 2)) (xOp gGt (xVar 4) (xVar 0)))
 (xRet (xC (.bl false)))
 xSkip)
 (xSet 2 (xVar 4))))
 (xRet (xC (.bl true))))))
def f_Day_init : Fx := fnOf 3 3
 (xSeq (xIfS (xOr (xNot (xCallP TBf f_is_integer [] (xCons (xVar 1) xNil))) (xOp gLt (xVar 1) (xC (.int 1))))
 (fun _ _ => .bad)
 xSkip)
 (xSeq (xIfS (xNot (xCallP TBf f_are_meetings [] (xCons (xVar 1) (xCons (xVar 2) xNil))))
 (fun _ _ => .bad)
 xSkip)
 (xSeq (xSetAttr [(7, 0), (9, 0)] (xVar 1) (xVar 0))
 (xSetAttr [(7, 1)] (xCB gTuple (xCons (xVar 2) xNil)) (xVar 0)))))
def f_day_of : Fx := fnOf 1 6
 (xSeq (xPar3 1 2 3 (xCons (xLst xNil) (xCons (xC .non) (xCons (xC (.str [])) xNil))))
 (xSeq (xFor (xIN (xCons (xLstF (xStar (xVar 0) (xCons (xC (.str [102, 114, 101, 101])) xNil))) xNil)) (gTu 2 (gsCons (gN 4) (gsCons (gN 5) gsNil)))
 (xIfS (xOp gNe (xVar 5) (xC (.str [111, 110])))
 (xSeq (xIfS (xUn (fun _ v => some (.bl (!isNon v))) (xVar 2))
 (xDrop (xBM "list" gAppend (xVar 1) (xCons (xTup (xCons (xVar 2) (xCons (xVar 4) (xCons (xOp gEq (xVar 3) (xC (.str [112, 114, 105, 118, 97, 116, 101]))) xNil)))) xNil)))
 xSkip)
 (xAsg (xIf (xOp gEq (xVar 5) (xC (.str [102, 114, 101, 101]))) (xTup (xCons (xC .non) (xCons (xC (.str [])) xNil))) (xTup (xCons (xVar 4) (xCons (xVar 5) xNil)))) (gTu 2 (gsCons (gN 2) (gsCons (gN 3) gsNil)))))
 xSkip))
 (xRet (xMakeP TBf 7 f_Day_init [] (xCons (xCB gLenX (xCons (xVar 0) xNil)) (xCons (xVar 1) xNil))))))
def f_parting : Fx := fnOf 3 8
 (xSeq (xSet 3 xDct0)
 (xSeq (xFor (xID 2 (xCallP TBf f_table [] (xCons (xVar 0) (xCons (xTup xNil) (xCons (xTup (xCons (xVar 1) (xCons (xVar 2) xNil))) xNil))))) (gTu 2 (gsCons (gTu 2 (gsCons (gN 4) (gsCons (gN 5) gsNil))) (gsCons (gTu 2 (gsCons (gN 6) (gsCons (gN 7) gsNil))) gsNil)))
 (xSeq (xIfS (xAnd (xOp gInN (xVar 4) (xVar 3)) (xOp gNe (xOp gIxX (xOp gIxX (xVar 3) (xVar 4)) (xC (.int 0))) (xVar 5)))
 (xRet (xTup (xCons (xCallP TBf f_day_of [] (xCons (xOp gIxX (xOp gIxX (xVar 3) (xVar 4)) (xC (.int 1))) xNil)) (xCons (xCallP TBf f_day_of [] (xCons (xVar 7) xNil)) xNil))))
 xSkip)
 (xAsg (xTup (xCons (xVar 5) (xCons (xVar 7) xNil))) (gSetX (xVar 3) (xVar 4)))))
 (xRet (xC .non))))
def f_finer : Fx := fnOf 3 3
 (xRet (xUn (fun _ v => some (.bl (isNon v))) (xCallP TBf f_parting [] (xCons (xVar 0) (xCons (xVar 1) (xCons (xVar 2) xNil))))))
def f_views : Fx := fnOf 2 4
 (xSeq (xSet 2 (xCallP TBf f_table [] (xCons (xVar 0) (xCons (xTup xNil) (xCons (xTup (xCons (xVar 1) xNil)) xNil)))))
 (xRet (xCB gTuple (xCons (xCompF [3] (xISX (xCB gSortX (xCons (xVar 2) xNil))) (gN 3) (xC (.bl true)) (xTup (xCons (xOp gIxX (xVar 3) (xC (.int 0))) (xCons (xOp gIxX (xOp gIxX (xVar 2) (xVar 3)) (xC (.int 0))) xNil)))) xNil))))
def f_law : Fx := fnOf 1 12
 (xSeq (xFor (xIRng1 (xCons (xCB gMax2 (xCons (xC (.int 1)) (xCons (xCB gMin2 (xCons (xC (.int 2)) (xCons (xCB gLenX (xCons (xVar 0) xNil)) xNil))) xNil))) xNil)) (gN 1)
 (xSeq (xSet 2 (xCallO TBf f_Lseed [] (xCons (xVar 0) (xCons (xVar 1) xNil))))
 (xFor (xISX (xCallB TBf f_Lmixed [] (xCons (xVar 2) (xCons (xCallP TBf f_Lwritten [] xNil) xNil)))) (gTu 4 (gsCons (gN 3) (gsCons (gN 4) (gsCons (gN 5) (gsCons (gN 6) gsNil)))))
 (xSeq (xPar3 7 8 9 (xCons (xCmP TBf 9 f_Frame_read [] (xCons (xVar 3) xNil)) (xCons (xCallP TBf f_Lrule_told [] (xCons (xVar 4) xNil)) (xCons (xCallP TBf f_Lrule_told [] (xCons (xVar 5) xNil)) xNil))))
 (xIfS (xOr (xOp gNe (xCB gRepr (xCons (xCallP TBf f_finer [] (xCons (xVar 7) (xCons (xVar 8) (xCons (xVar 9) xNil)))) xNil)) (xCB gRepr (xCons (xVar 6) xNil))) (xOp gNe (xUn (fun _ v => some (.bl (isNon v))) (xCallP TBf f_parting [] (xCons (xVar 7) (xCons (xVar 8) (xCons (xVar 9) xNil))))) (xVar 6)))
 (xRet (xC (.bl false)))
 xSkip)))))
 (xSeq (xSet 10 (xMakeP TBf 8 f_Rule_init [] (xCons (xC (.int 1)) (xCons (xC (.int 0)) (xCons (xC (.int 0)) (xCons (xC (.str [98, 117, 115, 121])) (xCons (xTup (xCons (xC (.int 0)) (xCons (xC (.int 2)) xNil))) xNil)))))))
 (xSeq (xIfS (xOr (xCallP TBf f_finer [] (xCons (xMakeP TBf 9 f_Frame_init d_Frame_init_v4 (xCons (xC (.int 3)) xNil)) (xCons (xVar 10) (xCons (xMakeP TBf 8 f_Rule_init d_Rule_init_v5 xNil) xNil)))) (xNot (xCallP TBf f_finer [] (xCons (xMakeP TBf 9 f_Frame_init d_Frame_init_v4 (xCons (xC (.int 3)) xNil)) (xCons (xMakeP TBf 8 f_Rule_init d_Rule_init_v5 xNil) (xCons (xVar 10) xNil))))))
 (xRet (xC (.bl false)))
 xSkip)
 (xSeq (xIfS (xOr (xNot (xCallP TBf f_finer [] (xCons (xMakeP TBf 9 f_Frame_init d_Frame_init_v4 (xCons (xC (.int 10)) xNil)) (xCons (xMakeP TBf 8 f_Rule_init d_Rule_init_v4 (xCons (xC (.int 4)) xNil)) (xCons (xMakeP TBf 8 f_Rule_init d_Rule_init_v4 (xCons (xC (.int 8)) xNil)) xNil))))) (xUn (fun _ v => some (.bl (isNon v))) (xCallP TBf f_parting [] (xCons (xMakeP TBf 9 f_Frame_init d_Frame_init_v4 (xCons (xC (.int 10)) xNil)) (xCons (xMakeP TBf 8 f_Rule_init d_Rule_init_v4 (xCons (xC (.int 5)) xNil)) (xCons (xMakeP TBf 8 f_Rule_init d_Rule_init_v4 (xCons (xC (.int 4)) xNil)) xNil))))))
 (xRet (xC (.bl false)))
 xSkip)
 (xSeq (xIfS (xOp gNe (xCallP TBf f_views [] (xCons (xMakeP TBf 9 f_Frame_init d_Frame_init_v4 (xCons (xC (.int 2)) xNil)) (xCons (xMakeP TBf 8 f_Rule_init d_Rule_init_v4 (xCons (xC (.int 2)) xNil)) xNil))) (xTup (xCons (xTup (xCons (xTup xNil) (xCons (xC (.int 1)) xNil))) (xCons (xTup (xCons (xTup (xCons (xTup (xCons (xC (.int 0)) (xCons (xC (.int 2)) (xCons (xC (.str [98, 117, 115, 121])) xNil)))) xNil)) (xCons (xC (.int 4)) xNil))) xNil))))
 (xRet (xC (.bl false)))
 xSkip)
 (xSeq (xSet 6 (xTup (xCons (xTup (xCons (xTup xNil) (xCons (xC (.int 1)) xNil))) (xCons (xTup (xCons (xTup (xCons (xTup (xCons (xC (.int 0)) (xCons (xC (.int 1)) (xCons (xC (.str [98, 117, 115, 121])) xNil)))) xNil)) (xCons (xC (.int 1)) xNil))) (xCons (xTup (xCons (xTup (xCons (xTup (xCons (xC (.int 0)) (xCons (xC (.int 2)) (xCons (xC (.str [98, 117, 115, 121])) xNil)))) xNil)) (xCons (xC (.int 2)) xNil))) (xCons (xTup (xCons (xTup (xCons (xTup (xCons (xC (.int 1)) (xCons (xC (.int 2)) (xCons (xC (.str [98, 117, 115, 121])) xNil)))) xNil)) (xCons (xC (.int 1)) xNil))) xNil))))))
 (xSeq (xIfS (xOr (xOp gNe (xCallP TBf f_views [] (xCons (xMakeP TBf 9 f_Frame_init d_Frame_init_v4 (xCons (xC (.int 2)) xNil)) (xCons (xMakeP TBf 8 f_Rule_init d_Rule_init_v5 xNil) xNil))) (xVar 6)) (xOp gNe (xCallP TBf f_views [] (xCons (xMakeP TBf 9 f_Frame_init d_Frame_init_v3 (xCons (xC (.int 2)) (xCons (xC (.int 2)) xNil))) (xCons (xMakeP TBf 8 f_Rule_init d_Rule_init_v5 xNil) xNil))) (xTup (xCons (xOp gIxX (xVar 6) (xC (.int 0))) (xCons (xTup (xCons (xOp gIxX (xOp gIxX (xVar 6) (xC (.int 2))) (xC (.int 0))) (xCons (xC (.int 1)) xNil))) xNil)))))
 (xRet (xC (.bl false)))
 xSkip)
 (xSeq (xIfS (xOp gNe (xCallP TBf f_views [] (xCons (xCmP TBf 9 f_Frame_read [] (xCons (xC (.str [108, 101, 110, 103, 116, 104, 32, 50, 32, 115, 104, 111, 114, 116, 101, 115, 116, 32, 49, 32, 116, 97, 107, 101, 110, 32, 48])) xNil)) (xCons (xMakeP TBf 8 f_Rule_init d_Rule_init_v2 (xCons (xC (.int 1)) (xCons (xC (.int 0)) (xCons (xC (.int 2)) xNil)))) xNil))) (xTup (xCons (xTup (xCons (xTup xNil) (xCons (xC (.int 1)) xNil))) (xCons (xTup (xCons (xTup (xCons (xTup (xCons (xC (.int 0)) (xCons (xC (.int 2)) (xCons (xC (.str [98, 117, 115, 121])) xNil)))) xNil)) (xCons (xC (.int 2)) xNil))) xNil))))
 (xRet (xC (.bl false)))
 xSkip)
 (xSeq (xSet 11 (xCmP TBf 9 f_Frame_read [] (xCons (xC (.str [108, 101, 110, 103, 116, 104, 32, 49, 32, 115, 104, 111, 114, 116, 101, 115, 116, 32, 49, 32, 112, 114, 105, 118, 97, 116, 101])) xNil)))
 (xSeq (xIfS (xOp gNe (xCallP TBf f_views [] (xCons (xVar 11) (xCons (xMakeP TBf 8 f_Rule_init d_Rule_init_v1 (xCons (xC (.int 1)) (xCons (xC (.int 0)) (xCons (xC (.int 0)) (xCons (xC (.str [110, 111, 110, 101])) xNil))))) xNil))) (xTup (xCons (xTup (xCons (xTup xNil) (xCons (xC (.int 2)) xNil))) (xCons (xTup (xCons (xTup (xCons (xTup (xCons (xC (.int 0)) (xCons (xC (.int 1)) (xCons (xC (.str [98, 117, 115, 121])) xNil)))) xNil)) (xCons (xC (.int 1)) xNil))) xNil))))
 (xRet (xC (.bl false)))
 xSkip)
 (xSeq (xSet 6 (xTup (xCons (xTup (xCons (xTup xNil) (xCons (xC (.int 1)) xNil))) (xCons (xTup (xCons (xTup (xCons (xTup (xCons (xC (.int 0)) (xCons (xC (.int 1)) (xCons (xC (.str [98, 117, 115, 121])) xNil)))) xNil)) (xCons (xC (.int 1)) xNil))) (xCons (xTup (xCons (xTup (xCons (xTup (xCons (xC (.int 0)) (xCons (xC (.int 1)) (xCons (xC (.str [112, 114, 105, 118, 97, 116, 101])) xNil)))) xNil)) (xCons (xC (.int 1)) xNil))) xNil)))))
 (xRet (xAnd (xOp gEq (xCallP TBf f_views [] (xCons (xVar 11) (xCons (xMakeP TBf 8 f_Rule_init d_Rule_init_v1 (xCons (xC (.int 1)) (xCons (xC (.int 0)) (xCons (xC (.int 0)) (xCons (xC (.str [111, 110, 101])) xNil))))) xNil))) (xVar 6)) (xOp gEq (xCallP TBf f_views [] (xCons (xMakeP TBf 9 f_Frame_init d_Frame_init_v3 (xCons (xC (.int 3)) (xCons (xC (.int 4)) xNil))) (xCons (xMakeP TBf 8 f_Rule_init d_Rule_init_v4 (xCons (xC (.int 3)) xNil)) xNil))) (xTup (xCons (xTup (xCons (xTup xNil) (xCons (xC (.int 1)) xNil))) xNil))))))))))))))))
structure Tx (P : Program) (w : World) (K : PySem.W.Frag) (mg : Str → Option Value) : Prop where
  n_abs : mg "abs" = none
  n_all : mg "all" = none
  n_any : mg "any" = none
  n_bool : mg "bool" = none
  n_enumerate : mg "enumerate" = none
  n_int : mg "int" = none
  n_isinstance : mg "isinstance" = none
  n_len : mg "len" = none
  n_list : mg "list" = none
  n_max : mg "max" = none
  n_min : mg "min" = none
  n_range : mg "range" = none
  n_repr : mg "repr" = none
  n_sorted : mg "sorted" = none
  n_str : mg "str" = none
  n_tuple : mg "tuple" = none
  n_zip : mg "zip" = none
  g_Lseed : mg "_law_seed" = some (.ref (He.ga K "_law_seed"))
  g_Lchoose : mg "_law_choose" = some (.ref (He.ga K "_law_choose"))
  g_Lmixed : mg "_law_mixed" = some (.ref (He.ga K "_law_mixed"))
  g_Lwritten : mg "_law_written" = some (.ref (He.ga K "_law_written"))
  g_number_in : mg "number_in" = some (.ref (He.ga K "number_in"))
  g_is_integer : mg "is_integer" = some (.ref (He.ga K "is_integer"))
  g_is_number : mg "is_number" = some (.ref (He.ga K "is_number"))
  g_is_bool : mg "is_bool" = some (.ref (He.ga K "is_bool"))
  g_is_sequence : mg "is_sequence" = some (.ref (He.ga K "is_sequence"))
  g_are_known : mg "are_known" = some (.ref (He.ga K "are_known"))
  g_Frame : mg "Frame" = some (.ref (He.ga K "Frame"))
  g_known_in : mg "known_in" = some (.ref (He.ga K "known_in"))
  g_are_hours : mg "are_hours" = some (.ref (He.ga K "are_hours"))
  g_Rule : mg "Rule" = some (.ref (He.ga K "Rule"))
  g_Lrule_told : mg "_law_rule_told" = some (.ref (He.ga K "_law_rule_told"))
  g_is_block : mg "is_block" = some (.ref (He.ga K "is_block"))
  g_is_view : mg "is_view" = some (.ref (He.ga K "is_view"))
  g_is_look : mg "is_look" = some (.ref (He.ga K "is_look"))
  g_need_looks : mg "need_looks" = some (.ref (He.ga K "need_looks"))
  g_prepared : mg "prepared" = some (.ref (He.ga K "prepared"))
  g_begun : mg "begun" = some (.ref (He.ga K "begun"))
  g_is_let : mg "is_let" = some (.ref (He.ga K "is_let"))
  g_WORDS : mg "WORDS" = some (.ref (He.ga K "WORDS"))
  g_settled : mg "settled" = some (.ref (He.ga K "settled"))
  g_begun_part : mg "begun_part" = some (.ref (He.ga K "begun_part"))
  g_grown_part : mg "grown_part" = some (.ref (He.ga K "grown_part"))
  g_led : mg "led" = some (.ref (He.ga K "led"))
  g_follow : mg "follow" = some (.ref (He.ga K "follow"))
  g_can_come : mg "can_come" = some (.ref (He.ga K "can_come"))
  g_is_hopeful : mg "is_hopeful" = some (.ref (He.ga K "is_hopeful"))
  g_part_grown : mg "part_grown" = some (.ref (He.ga K "part_grown"))
  g_closed : mg "closed" = some (.ref (He.ga K "closed"))
  g_part_begun : mg "part_begun" = some (.ref (He.ga K "part_begun"))
  g_parts_behind : mg "parts_behind" = some (.ref (He.ga K "parts_behind"))
  g_put_away : mg "put_away" = some (.ref (He.ga K "put_away"))
  g_lightened_part : mg "lightened_part" = some (.ref (He.ga K "lightened_part"))
  g_lightened : mg "lightened" = some (.ref (He.ga K "lightened"))
  g_steps : mg "steps" = some (.ref (He.ga K "steps"))
  g_is_closing : mg "is_closing" = some (.ref (He.ga K "is_closing"))
  g_view_of : mg "view_of" = some (.ref (He.ga K "view_of"))
  g_table : mg "table" = some (.ref (He.ga K "table"))
  g_is_meeting : mg "is_meeting" = some (.ref (He.ga K "is_meeting"))
  g_are_meetings : mg "are_meetings" = some (.ref (He.ga K "are_meetings"))
  g_Day : mg "Day" = some (.ref (He.ga K "Day"))
  g_day_of : mg "day_of" = some (.ref (He.ga K "day_of"))
  g_parting : mg "parting" = some (.ref (He.ga K "parting"))
  g_finer : mg "finer" = some (.ref (He.ga K "finer"))
  g_views : mg "views" = some (.ref (He.ga K "views"))
  c_DIGITS : GK (TB P w) K mg "DIGITS" c_DIGITS
  c_MOST_DIGITS : GK (TB P w) K mg "MOST_DIGITS" c_MOST_DIGITS
  c_MARKS : GK (TB P w) K mg "MARKS" c_MARKS
  c_SORTS : GK (TB P w) K mg "SORTS" c_SORTS
  c_WORDS : GK (TB P w) K mg "WORDS" c_WORDS
  c_LETTERS : GK (TB P w) K mg "LETTERS" c_LETTERS
  k_Day : Cf (TB P w) K 7
  k_Frame : Cf (TB P w) K 9
  k_Rule : Cf (TB P w) K 8
  m_Rule_word_of : Meth K (He.ga K "Rule") "word_of" (He.ma K (He.ga K "Rule") "word_of")
  m_Rule_down : Meth K (He.ga K "Rule") "down" (He.ma K (He.ga K "Rule") "down")
  m_Rule_up : Meth K (He.ga K "Rule") "up" (He.ma K (He.ga K "Rule") "up")
  m_Rule_joins : Meth K (He.ga K "Rule") "joins" (He.ma K (He.ga K "Rule") "joins")
  m_Rule_shown : Meth K (He.ga K "Rule") "shown" (He.ma K (He.ga K "Rule") "shown")
  r_Frame_read : ClX.CRead K (He.ga K "Frame") (.type "type")
  cm_Frame_read : ClX.CMet K (He.ga K "Frame") (.type "type") "read" (He.ma K (He.ga K "Frame") "read") (cmA K "Frame" "read")
  e_Frame_init : ∀ H, SqT K H (He.dflAt ("Frame", some "__init__") 3 K) []
  x_WORDS : TidxOk K "WORDS"
  i_Rule : IsOk (TB P w) K "Rule" is_Rule
  mk_Frame : Mk K (He.ga K "Frame") (He.ma K (He.ga K "Frame") "__init__")
  mk_Rule : Mk K (He.ga K "Rule") (He.ma K (He.ga K "Rule") "__init__")
  mk_Day : Mk K (He.ga K "Day") (He.ma K (He.ga K "Day") "__init__")
  d_Lseed : ∃ fd, FunD K "_law_seed" "_law_seed" (defArgs s_Lseed) (defBody s_Lseed) (defScope s_Lseed) [] [] (He.ga K "_law_seed") fd
  d_Lchoose : ∃ fd, FunD K "_law_choose" "_law_choose" (defArgs s_Lchoose) (defBody s_Lchoose) (defScope s_Lchoose) [] [] (He.ga K "_law_choose") fd
  d_Lmixed : ∃ fd, FunD K "_law_mixed" "_law_mixed" (defArgs s_Lmixed) (defBody s_Lmixed) (defScope s_Lmixed) [] [] (He.ga K "_law_mixed") fd
  d_Lwritten : ∃ fd, FunD K "_law_written" "_law_written" (defArgs s_Lwritten) (defBody s_Lwritten) (defScope s_Lwritten) [] [] (He.ga K "_law_written") fd
  d_number_in : ∃ fd, FunD K "number_in" "number_in" (defArgs s_number_in) (defBody s_number_in) (defScope s_number_in) [] [] (He.ga K "number_in") fd
  d_is_integer : ∃ fd, FunD K "is_integer" "is_integer" (defArgs s_is_integer) (defBody s_is_integer) (defScope s_is_integer) [] [] (He.ga K "is_integer") fd
  d_is_number : ∃ fd, FunD K "is_number" "is_number" (defArgs s_is_number) (defBody s_is_number) (defScope s_is_number) [] [] (He.ga K "is_number") fd
  d_is_bool : ∃ fd, FunD K "is_bool" "is_bool" (defArgs s_is_bool) (defBody s_is_bool) (defScope s_is_bool) [] [] (He.ga K "is_bool") fd
  d_is_sequence : ∃ fd, FunD K "is_sequence" "is_sequence" (defArgs s_is_sequence) (defBody s_is_sequence) (defScope s_is_sequence) [] [] (He.ga K "is_sequence") fd
  d_are_known : ∃ fd, FunD K "are_known" "are_known" (defArgs s_are_known) (defBody s_are_known) (defScope s_are_known) [] [] (He.ga K "are_known") fd
  d_Frame_init : ∃ fd, FunD K "__init__" "Frame.__init__" (defArgs s_Frame_init) (defBody s_Frame_init) (defScope s_Frame_init) [He.Dv.v K (.int 1), He.Dv.v K (.non), He.Dv.v K (.bl false), He.Dv.v K (.adr (He.dflAt ("Frame", some "__init__") 3))] [] (He.ma K (He.ga K "Frame") "__init__") fd
  d_known_in : ∃ fd, FunD K "known_in" "known_in" (defArgs s_known_in) (defBody s_known_in) (defScope s_known_in) [] [] (He.ga K "known_in") fd
  d_Frame_read : ∃ fd, FunD K "read" "Frame.read" (defArgs s_Frame_read) (defBody s_Frame_read) (defScope s_Frame_read) [] [] (cmA K "Frame" "read") fd
  d_are_hours : ∃ fd, FunD K "are_hours" "are_hours" (defArgs s_are_hours) (defBody s_are_hours) (defScope s_are_hours) [] [] (He.ga K "are_hours") fd
  d_Rule_init : ∃ fd, FunD K "__init__" "Rule.__init__" (defArgs s_Rule_init) (defBody s_Rule_init) (defScope s_Rule_init) [He.Dv.v K (.int 1), He.Dv.v K (.int 0), He.Dv.v K (.int 0), He.Dv.v K (.str "busy"), He.Dv.v K (.non)] [] (He.ma K (He.ga K "Rule") "__init__") fd
  d_Lrule_told : ∃ fd, FunD K "_law_rule_told" "_law_rule_told" (defArgs s_Lrule_told) (defBody s_Lrule_told) (defScope s_Lrule_told) [] [] (He.ga K "_law_rule_told") fd
  d_is_block : ∃ fd, FunD K "is_block" "is_block" (defArgs s_is_block) (defBody s_is_block) (defScope s_is_block) [] [] (He.ga K "is_block") fd
  d_is_view : ∃ fd, FunD K "is_view" "is_view" (defArgs s_is_view) (defBody s_is_view) (defScope s_is_view) [] [] (He.ga K "is_view") fd
  d_is_look : ∃ fd, FunD K "is_look" "is_look" (defArgs s_is_look) (defBody s_is_look) (defScope s_is_look) [] [] (He.ga K "is_look") fd
  d_need_looks : ∃ fd, FunD K "need_looks" "need_looks" (defArgs s_need_looks) (defBody s_need_looks) (defScope s_need_looks) [] [] (He.ga K "need_looks") fd
  d_prepared : ∃ fd, FunD K "prepared" "prepared" (defArgs s_prepared) (defBody s_prepared) (defScope s_prepared) [] [] (He.ga K "prepared") fd
  d_begun : ∃ fd, FunD K "begun" "begun" (defArgs s_begun) (defBody s_begun) (defScope s_begun) [] [] (He.ga K "begun") fd
  d_is_let : ∃ fd, FunD K "is_let" "is_let" (defArgs s_is_let) (defBody s_is_let) (defScope s_is_let) [] [] (He.ga K "is_let") fd
  d_Rule_word_of : ∃ fd, FunD K "word_of" "Rule.word_of" (defArgs s_Rule_word_of) (defBody s_Rule_word_of) (defScope s_Rule_word_of) [] [] (He.ma K (He.ga K "Rule") "word_of") fd
  d_Rule_down : ∃ fd, FunD K "down" "Rule.down" (defArgs s_Rule_down) (defBody s_Rule_down) (defScope s_Rule_down) [] [] (He.ma K (He.ga K "Rule") "down") fd
  d_Rule_up : ∃ fd, FunD K "up" "Rule.up" (defArgs s_Rule_up) (defBody s_Rule_up) (defScope s_Rule_up) [] [] (He.ma K (He.ga K "Rule") "up") fd
  d_Rule_joins : ∃ fd, FunD K "joins" "Rule.joins" (defArgs s_Rule_joins) (defBody s_Rule_joins) (defScope s_Rule_joins) [] [] (He.ma K (He.ga K "Rule") "joins") fd
  d_Rule_shown : ∃ fd, FunD K "shown" "Rule.shown" (defArgs s_Rule_shown) (defBody s_Rule_shown) (defScope s_Rule_shown) [] [] (He.ma K (He.ga K "Rule") "shown") fd
  d_settled : ∃ fd, FunD K "settled" "settled" (defArgs s_settled) (defBody s_settled) (defScope s_settled) [] [] (He.ga K "settled") fd
  d_begun_part : ∃ fd, FunD K "begun_part" "begun_part" (defArgs s_begun_part) (defBody s_begun_part) (defScope s_begun_part) [] [] (He.ga K "begun_part") fd
  d_grown_part : ∃ fd, FunD K "grown_part" "grown_part" (defArgs s_grown_part) (defBody s_grown_part) (defScope s_grown_part) [] [] (He.ga K "grown_part") fd
  d_led : ∃ fd, FunD K "led" "led" (defArgs s_led) (defBody s_led) (defScope s_led) [] [] (He.ga K "led") fd
  d_follow : ∃ fd, FunD K "follow" "follow" (defArgs s_follow) (defBody s_follow) (defScope s_follow) [] [] (He.ga K "follow") fd
  d_can_come : ∃ fd, FunD K "can_come" "can_come" (defArgs s_can_come) (defBody s_can_come) (defScope s_can_come) [] [] (He.ga K "can_come") fd
  d_is_hopeful : ∃ fd, FunD K "is_hopeful" "is_hopeful" (defArgs s_is_hopeful) (defBody s_is_hopeful) (defScope s_is_hopeful) [] [] (He.ga K "is_hopeful") fd
  d_part_grown : ∃ fd, FunD K "part_grown" "part_grown" (defArgs s_part_grown) (defBody s_part_grown) (defScope s_part_grown) [] [] (He.ga K "part_grown") fd
  d_closed : ∃ fd, FunD K "closed" "closed" (defArgs s_closed) (defBody s_closed) (defScope s_closed) [] [] (He.ga K "closed") fd
  d_part_begun : ∃ fd, FunD K "part_begun" "part_begun" (defArgs s_part_begun) (defBody s_part_begun) (defScope s_part_begun) [] [] (He.ga K "part_begun") fd
  d_parts_behind : ∃ fd, FunD K "parts_behind" "parts_behind" (defArgs s_parts_behind) (defBody s_parts_behind) (defScope s_parts_behind) [] [] (He.ga K "parts_behind") fd
  d_put_away : ∃ fd, FunD K "put_away" "put_away" (defArgs s_put_away) (defBody s_put_away) (defScope s_put_away) [] [] (He.ga K "put_away") fd
  d_lightened_part : ∃ fd, FunD K "lightened_part" "lightened_part" (defArgs s_lightened_part) (defBody s_lightened_part) (defScope s_lightened_part) [] [] (He.ga K "lightened_part") fd
  d_lightened : ∃ fd, FunD K "lightened" "lightened" (defArgs s_lightened) (defBody s_lightened) (defScope s_lightened) [] [] (He.ga K "lightened") fd
  d_steps : ∃ fd, FunD K "steps" "steps" (defArgs s_steps) (defBody s_steps) (defScope s_steps) [] [] (He.ga K "steps") fd
  d_is_closing : ∃ fd, FunD K "is_closing" "is_closing" (defArgs s_is_closing) (defBody s_is_closing) (defScope s_is_closing) [] [] (He.ga K "is_closing") fd
  d_view_of : ∃ fd, FunD K "view_of" "view_of" (defArgs s_view_of) (defBody s_view_of) (defScope s_view_of) [] [] (He.ga K "view_of") fd
  d_table : ∃ fd, FunD K "table" "table" (defArgs s_table) (defBody s_table) (defScope s_table) [] [] (He.ga K "table") fd
  d_is_meeting : ∃ fd, FunD K "is_meeting" "is_meeting" (defArgs s_is_meeting) (defBody s_is_meeting) (defScope s_is_meeting) [] [] (He.ga K "is_meeting") fd
  d_are_meetings : ∃ fd, FunD K "are_meetings" "are_meetings" (defArgs s_are_meetings) (defBody s_are_meetings) (defScope s_are_meetings) [] [] (He.ga K "are_meetings") fd
  d_Day_init : ∃ fd, FunD K "__init__" "Day.__init__" (defArgs s_Day_init) (defBody s_Day_init) (defScope s_Day_init) [He.Dv.v K (.adr (He.dflAt ("Day", some "__init__") 0))] [] (He.ma K (He.ga K "Day") "__init__") fd
  d_day_of : ∃ fd, FunD K "day_of" "day_of" (defArgs s_day_of) (defBody s_day_of) (defScope s_day_of) [] [] (He.ga K "day_of") fd
  d_parting : ∃ fd, FunD K "parting" "parting" (defArgs s_parting) (defBody s_parting) (defScope s_parting) [] [] (He.ga K "parting") fd
  d_finer : ∃ fd, FunD K "finer" "finer" (defArgs s_finer) (defBody s_finer) (defScope s_finer) [] [] (He.ga K "finer") fd
  d_views : ∃ fd, FunD K "views" "views" (defArgs s_views) (defBody s_views) (defScope s_views) [] [] (He.ga K "views") fd
  d_law : ∃ fd, FunD K "law" "law" (defArgs s_law) (defBody s_law) (defScope s_law) [] [] (He.ga K "law") fd
section
variable {P : Program} {w : World} {K : PySem.W.Frag} {mg : Str → Option Value} {base : Heap}
theorem fo_Lseed (X : Tx P w K mg) {fd : FuncData} (FD : FunD K "_law_seed" "_law_seed" (defArgs s_Lseed) (defBody s_Lseed) (defScope s_Lseed) [] [] (He.ga K "_law_seed") fd) : FnG P w K mg base (CX P w) 1 (He.ga K "_law_seed") fd ["_law_script", "_law_k"] (spF (TB P w) K f_Lseed) := by
  refine fn_ok FD sc_Lseed (fun cdv A outer s H E hr => ?_)
  have tk := takes_of (X := cxOf (CX P w) P w K mg base ["_law_script", "_law_k", "_law_cell"] "_law_seed" (defScope s_Lseed) (He.ga K "_law_seed") cdv A outer s H E) rfl rfl rfl rfl
  have hp := passes_of (X := cxOf (CX P w) P w K mg base ["_law_script", "_law_k", "_law_cell"] "_law_seed" (defScope s_Lseed) (He.ga K "_law_seed") cdv A outer s H E) rfl
  exact (jss_cons (js_set 2 sc_Lseed.nd (je_op op_add lift_add (je_op op_mul lift_mul je_int (je_var 1)) je_int))
 (jss_cons (js_if (jt_cmp op_lt' lift_lt (je_var 1) (je_callB call_len lift_len X.n_len (ja_cons (je_var 0) ja_nil)))
 (jss_one (js_set 2 sc_Lseed.nd (je_callB call_abs lift_abs X.n_abs (ja_cons (je_ix (je_var 0) (je_var 1)) ja_nil))))
 (jss_one (js_if (jt_cmp op_gt' lift_gt (je_callB call_len lift_len X.n_len (ja_cons (je_var 0) ja_nil)) je_int)
 (jss_one (js_set 2 sc_Lseed.nd (je_op op_add lift_add (je_var 2) (je_op op_mul lift_mul (je_op op_mod lift_mod (je_callTy call_int1 lift_int1 X.n_int (ja_cons (je_callB call_abs lift_abs X.n_abs (ja_cons (je_ix (je_var 0) (je_op op_mod lift_mod (je_callTy call_int1 lift_int1 X.n_int (ja_cons (je_var 1) ja_nil)) (je_callB call_len lift_len X.n_len (ja_cons (je_var 0) ja_nil)))) ja_nil)) ja_nil)) je_int) je_int))))
 jss_nil)))
 (jss_one (js_ret (je_lst (ja_cons (je_if (jt_cmp op_ge' lift_ge (je_var 2) (je_op op_pow lift_pow je_int je_int)) (je_var 2) je_int) (ja_cons (je_op op_add lift_add (je_op op_mod lift_mod (je_callTy call_int1 lift_int1 X.n_int (ja_cons (je_op op_add lift_add (je_op op_mul lift_mul (je_op op_mod lift_mod (je_callTy call_int1 lift_int1 X.n_int (ja_cons (je_var 2) ja_nil)) je_int) je_int) (je_op op_mul lift_mul je_int (je_var 1))) ja_nil)) je_int) je_int) ja_nil)))))))
theorem ok_Lseed (X : Tx P w K mg) : Callee (TB P w) P w K mg base 1 (He.ga K "_law_seed") ["_law_script", "_law_k"] f_Lseed [] := by
  obtain ⟨fd, FD⟩ := X.d_Lseed
  exact ⟨fd, [], fo_Lseed X FD, FD.kp, .nil, FD.bindsN fun _ _ _ _ _ _ us hl => match us, hl with | [_, _], _ => rfl⟩
theorem fo_Lchoose (X : Tx P w K mg) {fd : FuncData} (FD : FunD K "_law_choose" "_law_choose" (defArgs s_Lchoose) (defBody s_Lchoose) (defScope s_Lchoose) [] [] (He.ga K "_law_choose") fd) : FnG P w K mg base (CX P w) 1 (He.ga K "_law_choose") fd ["_law_box", "_law_many"] (spF (TB P w) K f_Lchoose) := by
  refine fn_ok FD sc_Lchoose (fun cdv A outer s H E hr => ?_)
  have tk := takes_of (X := cxOf (CX P w) P w K mg base ["_law_box", "_law_many", "_law_digit", "_law_raw"] "_law_choose" (defScope s_Lchoose) (He.ga K "_law_choose") cdv A outer s H E) rfl rfl rfl rfl
  have hp := passes_of (X := cxOf (CX P w) P w K mg base ["_law_box", "_law_many", "_law_digit", "_law_raw"] "_law_choose" (defScope s_Lchoose) (He.ga K "_law_choose") cdv A outer s H E) rfl
  exact (jss_cons (js_if (jt_cmp op_gt' lift_gt (je_ix (je_var 0) je_int) je_int)
 (jss_cons (js_set 2 sc_Lchoose.nd (je_op op_mod lift_mod (je_callTy call_int1 lift_int1 X.n_int (ja_cons (je_ix (je_var 0) je_int) ja_nil)) (je_var 1)))
 (jss_cons (js_asg (je_op op_fdiv lift_fdiv (je_ix (je_var 0) je_int) (je_var 1)) (jg_ix (je_var 0) je_int))
 (jss_one (js_ret (je_var 2)))))
 jss_nil)
 (jss_cons (js_set 3 sc_Lchoose.nd (je_op op_mod lift_mod (je_callTy call_int1 lift_int1 X.n_int (ja_cons (je_op op_add lift_add (je_op op_mul lift_mul (je_ix (je_var 0) je_int) je_int) je_int) ja_nil)) je_int))
 (jss_cons (js_asg (je_op op_add lift_add (je_op op_mod lift_mod (je_callTy call_int1 lift_int1 X.n_int (ja_cons (je_op op_add lift_add (je_op op_mul lift_mul (je_var 3) je_int) je_int) ja_nil)) je_int) je_int) (jg_ix (je_var 0) je_int))
 (jss_one (js_ret (je_op op_mod lift_mod (je_callTy call_int1 lift_int1 X.n_int (ja_cons (je_op op_fdiv lift_fdiv (je_op op_add lift_add (je_op op_mul lift_mul (je_var 3) je_int) (je_ix (je_var 0) je_int)) je_int) ja_nil)) (je_var 1)))))))
theorem ok_Lchoose (X : Tx P w K mg) : Callee (TB P w) P w K mg base 1 (He.ga K "_law_choose") ["_law_box", "_law_many"] f_Lchoose [] := by
  obtain ⟨fd, FD⟩ := X.d_Lchoose
  exact ⟨fd, [], fo_Lchoose X FD, FD.kp, .nil, FD.bindsN fun _ _ _ _ _ _ us hl => match us, hl with | [_, _], _ => rfl⟩
theorem fo_Lmixed (X : Tx P w K mg) {fd : FuncData} (FD : FunD K "_law_mixed" "_law_mixed" (defArgs s_Lmixed) (defBody s_Lmixed) (defScope s_Lmixed) [] [] (He.ga K "_law_mixed") fd) : FnG P w K mg base (CX P w) 2 (He.ga K "_law_mixed") fd ["_law_box", "_law_some"] (spF (TB P w) K f_Lmixed) := by
  refine fn_ok FD sc_Lmixed (fun cdv A outer s H E hr => ?_)
  have tk := takes_of (X := cxOf (CX P w) P w K mg base ["_law_box", "_law_some", "_law_others", "_law_found"] "_law_mixed" (defScope s_Lmixed) (He.ga K "_law_mixed") cdv A outer s H E) rfl rfl rfl rfl
  have hp := passes_of (X := cxOf (CX P w) P w K mg base ["_law_box", "_law_some", "_law_others", "_law_found"] "_law_mixed" (defScope s_Lmixed) (He.ga K "_law_mixed") cdv A outer s H E) rfl
  exact (jss_cons (js_par 2 3 rfl sc_Lmixed.nd (by decide) (ja_cons (je_callTy call_list_of lift_list X.n_list (ja_cons (je_var 1) ja_nil)) (ja_cons (je_lst ja_nil) ja_nil)))
 (jss_cons (js_while hp (jt_cmp (op_neD hr.units) lift_neD (je_var 2) (je_lstF ja_nil))
 (jss_one (js_expr (je_bm PySem.F.plainAttrs_list PySem.F.slot_list_append PySem.F.type_list_append mt_append lift_append (je_var 3) (ja_cons (je_bm PySem.F.plainAttrs_list PySem.F.slot_list_pop PySem.F.type_list_pop mt_popAt lift_popI (je_var 2) (ja_cons (jc_B (ok_Lchoose X) (hr.mono (by decide)) X.g_Lchoose Dfl.nil tk (ja_cons (je_var 0) (ja_cons (je_callB call_lenX lift_lenX X.n_len (ja_cons (je_var 2) ja_nil)) ja_nil))) ja_nil)) ja_nil)))))
 (jss_one (js_ret (je_var 3)))))
theorem ok_Lmixed (X : Tx P w K mg) : Callee (TB P w) P w K mg base 2 (He.ga K "_law_mixed") ["_law_box", "_law_some"] f_Lmixed [] := by
  obtain ⟨fd, FD⟩ := X.d_Lmixed
  exact ⟨fd, [], fo_Lmixed X FD, FD.kp, .nil, FD.bindsN fun _ _ _ _ _ _ us hl => match us, hl with | [_, _], _ => rfl⟩
theorem fo_Lwritten (X : Tx P w K mg) {fd : FuncData} (FD : FunD K "_law_written" "_law_written" (defArgs s_Lwritten) (defBody s_Lwritten) (defScope s_Lwritten) [] [] (He.ga K "_law_written") fd) : FnG P w K mg base (CX P w) 1 (He.ga K "_law_written") fd [] (spF (TB P w) K f_Lwritten) := by
  refine fn_ok FD sc_Lwritten (fun cdv A outer s H E hr => ?_)
  have tk := takes_of (X := cxOf (CX P w) P w K mg base ["_law_found"] "_law_written" (defScope s_Lwritten) (He.ga K "_law_written") cdv A outer s H E) rfl rfl rfl rfl
  have hp := passes_of (X := cxOf (CX P w) P w K mg base ["_law_found"] "_law_written" (defScope s_Lwritten) (He.ga K "_law_written") cdv A outer s H E) rfl
  exact (jss_cons (js_set 0 sc_Lwritten.nd (je_lst (ja_cons (je_tup (ja_cons (je_str [108, 101, 110, 103, 116, 104, 32, 54, 32, 115, 104, 111, 114, 116, 101, 115, 116, 32, 49]) (ja_cons (je_str [50, 32, 48, 32, 48, 32, 98, 117, 115, 121]) (ja_cons (je_str [52, 32, 48, 32, 48, 32, 98, 117, 115, 121]) (ja_cons je_bl ja_nil))))) ja_nil)))
 (jss_cons (js_expr (je_bm PySem.F.plainAttrs_list PySem.F.slot_list_append PySem.F.type_list_append mt_append lift_append (je_var 0) (ja_cons (je_tup (ja_cons (je_str [108, 101, 110, 103, 116, 104, 32, 54, 32, 115, 104, 111, 114, 116, 101, 115, 116, 32, 49]) (ja_cons (je_str [50, 32, 48, 32, 48, 32, 98, 117, 115, 121]) (ja_cons (je_str [51, 32, 48, 32, 48, 32, 98, 117, 115, 121]) (ja_cons je_bl ja_nil))))) ja_nil)))
 (jss_cons (js_expr (je_bm PySem.F.plainAttrs_list PySem.F.slot_list_append PySem.F.type_list_append mt_append lift_append (je_var 0) (ja_cons (je_tup (ja_cons (je_str [108, 101, 110, 103, 116, 104, 32, 54, 32, 115, 104, 111, 114, 116, 101, 115, 116, 32, 49]) (ja_cons (je_str [52, 32, 48, 32, 48, 32, 98, 117, 115, 121]) (ja_cons (je_str [50, 32, 48, 32, 48, 32, 98, 117, 115, 121]) (ja_cons je_bl ja_nil))))) ja_nil)))
 (jss_cons (js_expr (je_bm PySem.F.plainAttrs_list PySem.F.slot_list_append PySem.F.type_list_append mt_append lift_append (je_var 0) (ja_cons (je_tup (ja_cons (je_str [108, 101, 110, 103, 116, 104, 32, 53, 32, 115, 104, 111, 114, 116, 101, 115, 116, 32, 49]) (ja_cons (je_str [49, 32, 48, 32, 48, 32, 98, 117, 115, 121]) (ja_cons (je_str [49, 32, 50, 32, 48, 32, 98, 117, 115, 121]) (ja_cons je_bl ja_nil))))) ja_nil)))
 (jss_cons (js_expr (je_bm PySem.F.plainAttrs_list PySem.F.slot_list_append PySem.F.type_list_append mt_append lift_append (je_var 0) (ja_cons (je_tup (ja_cons (je_str [108, 101, 110, 103, 116, 104, 32, 53, 32, 115, 104, 111, 114, 116, 101, 115, 116, 32, 49]) (ja_cons (je_str [49, 32, 50, 32, 48, 32, 98, 117, 115, 121]) (ja_cons (je_str [49, 32, 48, 32, 48, 32, 98, 117, 115, 121]) (ja_cons je_bl ja_nil))))) ja_nil)))
 (jss_cons (js_expr (je_bm PySem.F.plainAttrs_list PySem.F.slot_list_append PySem.F.type_list_append mt_append lift_append (je_var 0) (ja_cons (je_tup (ja_cons (je_str [108, 101, 110, 103, 116, 104, 32, 53, 32, 115, 104, 111, 114, 116, 101, 115, 116, 32, 50]) (ja_cons (je_str [49, 32, 48, 32, 48, 32, 98, 117, 115, 121]) (ja_cons (je_str [49, 32, 48, 32, 51, 32, 98, 117, 115, 121]) (ja_cons je_bl ja_nil))))) ja_nil)))
 (jss_cons (js_expr (je_bm PySem.F.plainAttrs_list PySem.F.slot_list_append PySem.F.type_list_append mt_append lift_append (je_var 0) (ja_cons (je_tup (ja_cons (je_str [108, 101, 110, 103, 116, 104, 32, 52, 32, 115, 104, 111, 114, 116, 101, 115, 116, 32, 49, 32, 112, 114, 105, 118, 97, 116, 101]) (ja_cons (je_str [49, 32, 48, 32, 48, 32, 97, 112, 97, 114, 116]) (ja_cons (je_str [49, 32, 48, 32, 48, 32, 98, 117, 115, 121]) (ja_cons je_bl ja_nil))))) ja_nil)))
 (jss_cons (js_expr (je_bm PySem.F.plainAttrs_list PySem.F.slot_list_append PySem.F.type_list_append mt_append lift_append (je_var 0) (ja_cons (je_tup (ja_cons (je_str [108, 101, 110, 103, 116, 104, 32, 52, 32, 115, 104, 111, 114, 116, 101, 115, 116, 32, 49, 32, 112, 114, 105, 118, 97, 116, 101]) (ja_cons (je_str [49, 32, 48, 32, 48, 32, 97, 112, 97, 114, 116]) (ja_cons (je_str [49, 32, 48, 32, 48, 32, 110, 111, 110, 101]) (ja_cons je_bl ja_nil))))) ja_nil)))
 (jss_cons (js_expr (je_bm PySem.F.plainAttrs_list PySem.F.slot_list_append PySem.F.type_list_append mt_append lift_append (je_var 0) (ja_cons (je_tup (ja_cons (je_str [108, 101, 110, 103, 116, 104, 32, 52, 32, 115, 104, 111, 114, 116, 101, 115, 116, 32, 49, 32, 112, 114, 105, 118, 97, 116, 101]) (ja_cons (je_str [49, 32, 48, 32, 48, 32, 110, 111, 110, 101]) (ja_cons (je_str [49, 32, 48, 32, 48, 32, 97, 112, 97, 114, 116]) (ja_cons je_bl ja_nil))))) ja_nil)))
 (jss_one (js_ret (je_op op_plusL lift_plusL (je_var 0) (je_lst (ja_cons (je_tup (ja_cons (je_str [108, 101, 110, 103, 116, 104, 32, 52, 32, 115, 104, 111, 114, 116, 101, 115, 116, 32, 49]) (ja_cons (je_str [49, 32, 48, 32, 48, 32, 110, 111, 110, 101]) (ja_cons (je_str [49, 32, 48, 32, 48, 32, 111, 110, 101]) (ja_cons je_bl ja_nil))))) ja_nil))))))))))))))
theorem ok_Lwritten (X : Tx P w K mg) : Callee (TB P w) P w K mg base 1 (He.ga K "_law_written") [] f_Lwritten [] := by
  obtain ⟨fd, FD⟩ := X.d_Lwritten
  exact ⟨fd, [], fo_Lwritten X FD, FD.kp, .nil, FD.bindsN fun _ _ _ _ _ _ us hl => match us, hl with | [], _ => rfl⟩
theorem fo_number_in (X : Tx P w K mg) {fd : FuncData} (FD : FunD K "number_in" "number_in" (defArgs s_number_in) (defBody s_number_in) (defScope s_number_in) [] [] (He.ga K "number_in") fd) : FnG P w K mg base (CX P w) 1 (He.ga K "number_in") fd ["word", "digits"] (spF (TB P w) K f_number_in) := by
  refine fn_ok FD sc_number_in (fun cdv A outer s H E hr => ?_)
  have tk := takes_of (X := cxOf (CX P w) P w K mg base ["word", "digits", "sign"] "number_in" (defScope s_number_in) (He.ga K "number_in") cdv A outer s H E) rfl rfl rfl rfl
  have hp := passes_of (X := cxOf (CX P w) P w K mg base ["word", "digits", "sign"] "number_in" (defScope s_number_in) (He.ga K "number_in") cdv A outer s H E) rfl
  exact (jss_cons (js_if (jt_w (jw_or (jt_not (jt_chain op_lt' lift_lt op_le' lift_le je_int (je_callB call_lenX lift_lenX X.n_len (ja_cons (je_var 0) ja_nil)) (je_var 1))) (jw_one (jt_not (jt_val (je_callB (cr_all rfl) lift_all X.n_all (ja_cons (je_lcF [("sign", 2)] rfl sc_number_in.nd (ji_any (je_var 0)) (blkOk_by (N := ["word", "digits", "sign"]) (sc := defScope s_number_in) (by decide +kernel)) (by decide) (fun _ _ _ _ _ => (jgw_name 2 sc_number_in.nd)) (fun _ _ _ _ _ => jts_nil) (fun _ _ _ _ _ => (je_cmp (op_inY hr) (lift_inY rfl) (je_var 2) (je_gk X.c_DIGITS)))) ja_nil)))))))
 (jss_one (js_ret je_non))
 jss_nil)
 (jss_cons (js_if (jt_w (jw_and (jt_cmp (op_eqD hr.units) lift_eqD (je_ixX rfl hr.units (je_var 0) je_int) (je_str [48])) (jw_one (jt_cmp (op_neD hr.units) lift_neD (je_var 0) (je_str [48])))))
 (jss_one (js_ret je_non))
 jss_nil)
 (jss_one (js_ret (je_callTy cr_intX lift_intX X.n_int (ja_cons (je_var 0) ja_nil))))))
theorem ok_number_in (X : Tx P w K mg) : Callee (TB P w) P w K mg base 1 (He.ga K "number_in") ["word", "digits"] f_number_in [] := by
  obtain ⟨fd, FD⟩ := X.d_number_in
  exact ⟨fd, [], fo_number_in X FD, FD.kp, .nil, FD.bindsN fun _ _ _ _ _ _ us hl => match us, hl with | [_, _], _ => rfl⟩
theorem fo_is_integer (X : Tx P w K mg) {fd : FuncData} (FD : FunD K "is_integer" "is_integer" (defArgs s_is_integer) (defBody s_is_integer) (defScope s_is_integer) [] [] (He.ga K "is_integer") fd) : FnG P w K mg base (CX P w) 1 (He.ga K "is_integer") fd ["value"] (spF (TB P w) K f_is_integer) := by
  refine fn_ok FD sc_is_integer (fun cdv A outer s H E hr => ?_)
  have tk := takes_of (X := cxOf (CX P w) P w K mg base ["value"] "is_integer" (defScope s_is_integer) (He.ga K "is_integer") cdv A outer s H E) rfl rfl rfl rfl
  have hp := passes_of (X := cxOf (CX P w) P w K mg base ["value"] "is_integer" (defScope s_is_integer) (He.ga K "is_integer") cdv A outer s H E) rfl
  exact (jss_one (js_ret (je_and (je_isi .int (je_var 0) X.n_isinstance X.n_int) (je_one (je_not (je_isi .bool (je_var 0) X.n_isinstance X.n_bool))))))
theorem ok_is_integer (X : Tx P w K mg) : Callee (TB P w) P w K mg base 1 (He.ga K "is_integer") ["value"] f_is_integer [] := by
  obtain ⟨fd, FD⟩ := X.d_is_integer
  exact ⟨fd, [], fo_is_integer X FD, FD.kp, .nil, FD.bindsN fun _ _ _ _ _ _ us hl => match us, hl with | [_], _ => rfl⟩
theorem fo_is_number (X : Tx P w K mg) {fd : FuncData} (FD : FunD K "is_number" "is_number" (defArgs s_is_number) (defBody s_is_number) (defScope s_is_number) [] [] (He.ga K "is_number") fd) : FnG P w K mg base (CX P w) 2 (He.ga K "is_number") fd ["value"] (spF (TB P w) K f_is_number) := by
  refine fn_ok FD sc_is_number (fun cdv A outer s H E hr => ?_)
  have tk := takes_of (X := cxOf (CX P w) P w K mg base ["value"] "is_number" (defScope s_is_number) (He.ga K "is_number") cdv A outer s H E) rfl rfl rfl rfl
  have hp := passes_of (X := cxOf (CX P w) P w K mg base ["value"] "is_number" (defScope s_is_number) (He.ga K "is_number") cdv A outer s H E) rfl
  exact (jss_one (js_ret (je_and (jc_P (ok_is_integer X) (hr.mono (by decide)) X.g_is_integer Dfl.nil tk (ja_cons (je_var 0) ja_nil)) (je_one (je_cmp op_ge' lift_ge (je_var 0) je_int)))))
theorem ok_is_number (X : Tx P w K mg) : Callee (TB P w) P w K mg base 2 (He.ga K "is_number") ["value"] f_is_number [] := by
  obtain ⟨fd, FD⟩ := X.d_is_number
  exact ⟨fd, [], fo_is_number X FD, FD.kp, .nil, FD.bindsN fun _ _ _ _ _ _ us hl => match us, hl with | [_], _ => rfl⟩
theorem fo_is_bool (X : Tx P w K mg) {fd : FuncData} (FD : FunD K "is_bool" "is_bool" (defArgs s_is_bool) (defBody s_is_bool) (defScope s_is_bool) [] [] (He.ga K "is_bool") fd) : FnG P w K mg base (CX P w) 1 (He.ga K "is_bool") fd ["value"] (spF (TB P w) K f_is_bool) := by
  refine fn_ok FD sc_is_bool (fun cdv A outer s H E hr => ?_)
  have tk := takes_of (X := cxOf (CX P w) P w K mg base ["value"] "is_bool" (defScope s_is_bool) (He.ga K "is_bool") cdv A outer s H E) rfl rfl rfl rfl
  have hp := passes_of (X := cxOf (CX P w) P w K mg base ["value"] "is_bool" (defScope s_is_bool) (He.ga K "is_bool") cdv A outer s H E) rfl
  exact (jss_one (js_ret (je_isi .bool (je_var 0) X.n_isinstance X.n_bool)))
theorem ok_is_bool (X : Tx P w K mg) : Callee (TB P w) P w K mg base 1 (He.ga K "is_bool") ["value"] f_is_bool [] := by
  obtain ⟨fd, FD⟩ := X.d_is_bool
  exact ⟨fd, [], fo_is_bool X FD, FD.kp, .nil, FD.bindsN fun _ _ _ _ _ _ us hl => match us, hl with | [_], _ => rfl⟩
theorem fo_is_sequence (X : Tx P w K mg) {fd : FuncData} (FD : FunD K "is_sequence" "is_sequence" (defArgs s_is_sequence) (defBody s_is_sequence) (defScope s_is_sequence) [] [] (He.ga K "is_sequence") fd) : FnG P w K mg base (CX P w) 1 (He.ga K "is_sequence") fd ["value"] (spF (TB P w) K f_is_sequence) := by
  refine fn_ok FD sc_is_sequence (fun cdv A outer s H E hr => ?_)
  have tk := takes_of (X := cxOf (CX P w) P w K mg base ["value"] "is_sequence" (defScope s_is_sequence) (He.ga K "is_sequence") cdv A outer s H E) rfl rfl rfl rfl
  have hp := passes_of (X := cxOf (CX P w) P w K mg base ["value"] "is_sequence" (defScope s_is_sequence) (He.ga K "is_sequence") cdv A outer s H E) rfl
  exact (jss_one (js_ret (je_isi2 .list .tuple (je_var 0) X.n_isinstance X.n_list X.n_tuple)))
theorem ok_is_sequence (X : Tx P w K mg) : Callee (TB P w) P w K mg base 1 (He.ga K "is_sequence") ["value"] f_is_sequence [] := by
  obtain ⟨fd, FD⟩ := X.d_is_sequence
  exact ⟨fd, [], fo_is_sequence X FD, FD.kp, .nil, FD.bindsN fun _ _ _ _ _ _ us hl => match us, hl with | [_], _ => rfl⟩
theorem fo_are_known (X : Tx P w K mg) {fd : FuncData} (FD : FunD K "are_known" "are_known" (defArgs s_are_known) (defBody s_are_known) (defScope s_are_known) [] [] (He.ga K "are_known") fd) : FnG P w K mg base (CX P w) 3 (He.ga K "are_known") fd ["length", "value"] (spF (TB P w) K f_are_known) := by
  refine fn_ok FD sc_are_known (fun cdv A outer s H E hr => ?_)
  have tk := takes_of (X := cxOf (CX P w) P w K mg base ["length", "value", "pair", "tick", "is_taken"] "are_known" (defScope s_are_known) (He.ga K "are_known") cdv A outer s H E) rfl rfl rfl rfl
  have hp := passes_of (X := cxOf (CX P w) P w K mg base ["length", "value", "pair", "tick", "is_taken"] "are_known" (defScope s_are_known) (He.ga K "are_known") cdv A outer s H E) rfl
  exact (jss_cons (js_if (jt_w (jw_or (jt_not (jt_val (jc_P (ok_is_sequence X) (hr.mono (by decide)) X.g_is_sequence Dfl.nil tk (ja_cons (je_var 1) ja_nil)))) (jw_one (jt_not (jt_val (je_callB (cr_all rfl) lift_all X.n_all (ja_cons (je_lcF [("pair", 2)] rfl sc_are_known.nd (ji_any (je_var 1)) (blkOk_by (N := ["length", "value", "pair", "tick", "is_taken"]) (sc := defScope s_are_known) (by decide +kernel)) (by decide) (fun _ _ _ _ _ => (jgw_name 2 sc_are_known.nd)) (fun _ _ _ _ _ => jts_nil) (fun _ _ _ _ _ => (je_and (je_isi .tuple (je_var 2) X.n_isinstance X.n_tuple) (je_one (je_cmp (op_eqD hr.units) lift_eqD (je_callB call_lenX lift_lenX X.n_len (ja_cons (je_var 2) ja_nil)) je_int))))) ja_nil)))))))
 (jss_one (js_ret je_bl))
 jss_nil)
 (jss_one (js_ret (je_callB (cr_all rfl) lift_all X.n_all (ja_cons (je_lcF [("tick", 3), ("is_taken", 4)] rfl sc_are_known.nd (ji_any (je_var 1)) (blkOk_by (N := ["length", "value", "pair", "tick", "is_taken"]) (sc := defScope s_are_known) (by decide +kernel)) (by decide) (fun _ _ _ _ _ => (jgw_tup rfl (jgsw_cons (jgw_name 3 sc_are_known.nd) (jgsw_cons (jgw_name 4 sc_are_known.nd) jgsw_nil)))) (fun _ _ _ _ _ => jts_nil) (fun _ _ _ _ _ => (je_and (jc_P (ok_is_number X) (hr.mono (by decide)) X.g_is_number Dfl.nil takesNo (ja_cons (je_var 3) ja_nil)) (je_and (je_cmp op_lt' lift_lt (je_var 3) (je_var 0)) (je_one (jc_P (ok_is_bool X) (hr.mono (by decide)) X.g_is_bool Dfl.nil takesNo (ja_cons (je_var 4) ja_nil))))))) ja_nil)))))
theorem ok_are_known (X : Tx P w K mg) : Callee (TB P w) P w K mg base 3 (He.ga K "are_known") ["length", "value"] f_are_known [] := by
  obtain ⟨fd, FD⟩ := X.d_are_known
  exact ⟨fd, [], fo_are_known X FD, FD.kp, .nil, FD.bindsN fun _ _ _ _ _ _ us hl => match us, hl with | [_, _], _ => rfl⟩
theorem d_Frame_init_3 (X : Tx P w K mg) : Dfl (TB P w) K d_Frame_init_v3 [He.Dv.v K (.non), He.Dv.v K (.bl false), He.Dv.v K (.adr (He.dflAt ("Frame", some "__init__") 3))] := fun io n F => (.cons (.non) (.cons (.bl _) (.cons (.tup (X.e_Frame_init F) .nil) .nil)))
theorem d_Frame_init_4 (X : Tx P w K mg) : Dfl (TB P w) K d_Frame_init_v4 [He.Dv.v K (.int 1), He.Dv.v K (.non), He.Dv.v K (.bl false), He.Dv.v K (.adr (He.dflAt ("Frame", some "__init__") 3))] := fun io n F => (.cons (.int _) (.cons (.non) (.cons (.bl _) (.cons (.tup (X.e_Frame_init F) .nil) .nil))))
theorem fo_Frame_init (X : Tx P w K mg) {fd : FuncData} (FD : FunD K "__init__" "Frame.__init__" (defArgs s_Frame_init) (defBody s_Frame_init) (defScope s_Frame_init) [He.Dv.v K (.int 1), He.Dv.v K (.non), He.Dv.v K (.bl false), He.Dv.v K (.adr (He.dflAt ("Frame", some "__init__") 3))] [] (He.ma K (He.ga K "Frame") "__init__") fd) : FnG P w K mg base (CX P w) 4 (He.ma K (He.ga K "Frame") "__init__") fd ["self", "length", "shortest", "most", "private", "known"] (spF (TB P w) K f_Frame_init) := by
  refine fn_ok FD sc_Frame_init (fun cdv A outer s H E hr => ?_)
  have tk := takes_of (X := cxOf (CX P w) P w K mg base ["self", "length", "shortest", "most", "private", "known"] "Frame.__init__" (defScope s_Frame_init) (He.ma K (He.ga K "Frame") "__init__") cdv A outer s H E) rfl rfl rfl rfl
  have hp := passes_of (X := cxOf (CX P w) P w K mg base ["self", "length", "shortest", "most", "private", "known"] "Frame.__init__" (defScope s_Frame_init) (He.ma K (He.ga K "Frame") "__init__") cdv A outer s H E) rfl
  exact (jss_cons (js_if (jt_w (jw_or (jt_not (jt_val (jc_P (ok_is_integer X) (hr.mono (by decide)) X.g_is_integer Dfl.nil tk (ja_cons (je_var 1) ja_nil)))) (jw_one (jt_cmp op_lt' lift_lt (je_var 1) je_int))))
 (jss_one js_never)
 jss_nil)
 (jss_cons (js_if (jt_w (jw_or (jt_not (jt_val (jc_P (ok_is_integer X) (hr.mono (by decide)) X.g_is_integer Dfl.nil tk (ja_cons (je_var 2) ja_nil)))) (jw_one (jt_cmp op_lt' lift_lt (je_var 2) je_int))))
 (jss_one js_never)
 jss_nil)
 (jss_cons (js_if (jt_w (jw_and (jt_notN (je_var 3)) (jw_one (jt_not (jt_val (jc_P (ok_is_number X) (hr.mono (by decide)) X.g_is_number Dfl.nil tk (ja_cons (je_var 3) ja_nil)))))))
 (jss_one js_never)
 jss_nil)
 (jss_cons (js_if (jt_not (jt_val (jc_P (ok_is_bool X) (hr.mono (by decide)) X.g_is_bool Dfl.nil tk (ja_cons (je_var 4) ja_nil))))
 (jss_one js_never)
 jss_nil)
 (jss_cons (js_if (jt_not (jt_val (jc_P (ok_are_known X) (hr.mono (by decide)) X.g_are_known Dfl.nil tk (ja_cons (je_var 1) (ja_cons (je_var 5) ja_nil)))))
 (jss_one js_never)
 jss_nil)
 (jss_cons (js_setattr (AttOk.cons rfl X.k_Day (AttOk.cons rfl X.k_Frame AttOk.nil)) (je_var 1) (je_var 0))
 (jss_cons (js_setattr (AttOk.cons rfl X.k_Frame AttOk.nil) (je_var 2) (je_var 0))
 (jss_cons (js_setattr (AttOk.cons rfl X.k_Frame AttOk.nil) (je_var 3) (je_var 0))
 (jss_cons (js_setattr (AttOk.cons rfl X.k_Rule (AttOk.cons rfl X.k_Frame AttOk.nil)) (je_var 4) (je_var 0))
 (jss_one (js_setattr (AttOk.cons rfl X.k_Frame AttOk.nil) (je_callTy call_tuple_of lift_tuple X.n_tuple (ja_cons (je_var 5) ja_nil)) (je_var 0))))))))))))
theorem ok_Frame_init (X : Tx P w K mg) : Callee (TB P w) P w K mg base 4 (He.ma K (He.ga K "Frame") "__init__") ["self", "length", "shortest", "most", "private", "known"] f_Frame_init [] := by
  obtain ⟨fd, FD⟩ := X.d_Frame_init
  obtain ⟨ds, hv, hb⟩ := FD.binds1 (ps := ["self", "length", "shortest", "most", "private", "known"]) 6 4 (by simp) rfl (fun _ _ _ _ _ _ _ us its h1 h2 => match us, its, h1, h2 with | [_, _, _, _, _, _], [_, _, _, _], _, _ => ⟨_, rfl, rfl⟩)
  exact ⟨fd, ds, fo_Frame_init X FD, FD.kp, hv, hb⟩
theorem ok_Frame_init_3 (X : Tx P w K mg) : Callee (TB P w) P w K mg base 4 (He.ma K (He.ga K "Frame") "__init__") ["self", "length", "shortest", "most", "private", "known"] f_Frame_init [He.Dv.v K (.non), He.Dv.v K (.bl false), He.Dv.v K (.adr (He.dflAt ("Frame", some "__init__") 3))] := by
  obtain ⟨fd, FD⟩ := X.d_Frame_init
  obtain ⟨ds, hv, hb⟩ := FD.binds1 (ps := ["self", "length", "shortest", "most", "private", "known"]) 3 1 (by simp) rfl (fun _ _ _ _ _ _ _ us its h1 h2 => match us, its, h1, h2 with | [_, _, _], [_, _, _, _], _, _ => ⟨_, rfl, rfl⟩)
  exact ⟨fd, ds, fo_Frame_init X FD, FD.kp, hv, hb⟩
theorem ok_Frame_init_4 (X : Tx P w K mg) : Callee (TB P w) P w K mg base 4 (He.ma K (He.ga K "Frame") "__init__") ["self", "length", "shortest", "most", "private", "known"] f_Frame_init [He.Dv.v K (.int 1), He.Dv.v K (.non), He.Dv.v K (.bl false), He.Dv.v K (.adr (He.dflAt ("Frame", some "__init__") 3))] := by
  obtain ⟨fd, FD⟩ := X.d_Frame_init
  obtain ⟨ds, hv, hb⟩ := FD.binds1 (ps := ["self", "length", "shortest", "most", "private", "known"]) 2 0 (by simp) rfl (fun _ _ _ _ _ _ _ us its h1 h2 => match us, its, h1, h2 with | [_, _], [_, _, _, _], _, _ => ⟨_, rfl, rfl⟩)
  exact ⟨fd, ds, fo_Frame_init X FD, FD.kp, hv, hb⟩
theorem nr_Frame_init : ∀ as h v h', f_Frame_init h as = .ok v h' → v = .non := fnOf_non (nr_seq (nr_if nr_bad nr_skip) (nr_seq (nr_if nr_bad nr_skip) (nr_seq (nr_if nr_bad nr_skip) (nr_seq (nr_if nr_bad nr_skip) (nr_seq (nr_if nr_bad nr_skip) (nr_seq nr_att (nr_seq nr_att (nr_seq nr_att (nr_seq nr_att nr_att)))))))))
theorem fo_known_in (X : Tx P w K mg) {fd : FuncData} (FD : FunD K "known_in" "known_in" (defArgs s_known_in) (defBody s_known_in) (defScope s_known_in) [] [] (He.ga K "known_in") fd) : FnG P w K mg base (CX P w) 2 (He.ga K "known_in") fd ["words"] (spF (TB P w) K f_known_in) := by
  refine fn_ok FD sc_known_in (fun cdv A outer s H E hr => ?_)
  have tk := takes_of (X := cxOf (CX P w) P w K mg base ["words", "found", "mark", "tick", "is_taken"] "known_in" (defScope s_known_in) (He.ga K "known_in") cdv A outer s H E) rfl rfl rfl rfl
  have hp := passes_of (X := cxOf (CX P w) P w K mg base ["words", "found", "mark", "tick", "is_taken"] "known_in" (defScope s_known_in) (He.ga K "known_in") cdv A outer s H E) rfl
  exact (jss_cons (js_setLcF 1 [("mark", 2), ("tick", 3)] rfl sc_known_in.nd (ji_zip2 X.n_zip (ja_cons (je_step (k := 2) (by decide) (je_var 0) jo_none jo_none) (ja_cons (je_step (k := 2) (by decide) (je_var 0) (jo_some je_int) jo_none) ja_nil))) (blkOk_by (N := ["words", "found", "mark", "tick", "is_taken"]) (sc := defScope s_known_in) (by decide +kernel)) (by decide) (fun _ _ _ _ _ => (jgw_tup rfl (jgsw_cons (jgw_name 2 sc_known_in.nd) (jgsw_cons (jgw_name 3 sc_known_in.nd) jgsw_nil)))) (fun _ _ _ _ _ => jts_nil) (fun _ _ _ _ _ => (je_tup (ja_cons (jc_P (ok_number_in X) (hr.mono (by decide)) X.g_number_in Dfl.nil takesNo (ja_cons (je_var 3) (ja_cons (je_gk X.c_MOST_DIGITS) ja_nil))) (ja_cons (je_cmp (op_eqD hr.units) lift_eqD (je_var 2) (je_str [116, 97, 107, 101, 110])) ja_nil)))))
 (jss_cons (js_if (jt_w (jw_or (jt_cmp (op_eqD hr.units) lift_eqD (je_op op_mod lift_mod (je_callB call_lenX lift_lenX X.n_len (ja_cons (je_var 0) ja_nil)) je_int) je_int) (jw_one (jt_not (jt_val (je_callB (cr_all rfl) lift_all X.n_all (ja_cons (je_lcF [("mark", 2)] rfl sc_known_in.nd (ji_any (je_step (k := 2) (by decide) (je_var 0) jo_none jo_none)) (blkOk_by (N := ["words", "found", "mark", "tick", "is_taken"]) (sc := defScope s_known_in) (by decide +kernel)) (by decide) (fun _ _ _ _ _ => (jgw_name 2 sc_known_in.nd)) (fun _ _ _ _ _ => jts_nil) (fun _ _ _ _ _ => (je_cmp (op_inY hr) (lift_inY rfl) (je_var 2) (je_gk X.c_MARKS)))) ja_nil)))))))
 (jss_one js_never)
 jss_nil)
 (jss_cons (js_if (jt_val (je_callB (cr_any rfl) lift_any X.n_any (ja_cons (je_lcF [("tick", 3), ("is_taken", 4)] rfl sc_known_in.nd (ji_any (je_var 1)) (blkOk_by (N := ["words", "found", "mark", "tick", "is_taken"]) (sc := defScope s_known_in) (by decide +kernel)) (by decide) (fun _ _ _ _ _ => (jgw_tup rfl (jgsw_cons (jgw_name 3 sc_known_in.nd) (jgsw_cons (jgw_name 4 sc_known_in.nd) jgsw_nil)))) (fun _ _ _ _ _ => jts_nil) (fun _ _ _ _ _ => (je_isN (je_var 3)))) ja_nil)))
 (jss_one js_never)
 jss_nil)
 (jss_one (js_ret (je_var 1))))))
theorem ok_known_in (X : Tx P w K mg) : Callee (TB P w) P w K mg base 2 (He.ga K "known_in") ["words"] f_known_in [] := by
  obtain ⟨fd, FD⟩ := X.d_known_in
  exact ⟨fd, [], fo_known_in X FD, FD.kp, .nil, FD.bindsN fun _ _ _ _ _ _ us hl => match us, hl with | [_], _ => rfl⟩
theorem fo_Frame_read (X : Tx P w K mg) {fd : FuncData} (FD : FunD K "read" "Frame.read" (defArgs s_Frame_read) (defBody s_Frame_read) (defScope s_Frame_read) [] [] (cmA K "Frame" "read") fd) : FnG P w K mg base (CX P w) 6 (cmA K "Frame" "read") fd ["cls", "text"] (spF (TB P w) K f_Frame_read) := by
  refine fn_ok FD sc_Frame_read (fun cdv A outer s H E hr => ?_)
  have tk := takes_of (X := cxOf (CX P w) P w K mg base ["cls", "text", "words", "most", "numbers", "rest", "is_private", "word"] "Frame.read" (defScope s_Frame_read) (cmA K "Frame" "read") cdv A outer s H E) rfl rfl rfl rfl
  have hp := passes_of (X := cxOf (CX P w) P w K mg base ["cls", "text", "words", "most", "numbers", "rest", "is_private", "word"] "Frame.read" (defScope s_Frame_read) (cmA K "Frame" "read") cdv A outer s H E) rfl
  exact (jss_cons (js_if (jt_not (jt_val (je_isi .str (je_var 1) X.n_isinstance X.n_str)))
 (jss_one js_never)
 jss_nil)
 (jss_cons (js_par 2 3 rfl sc_Frame_read.nd (by decide) (ja_cons (je_bm PySem.F.plainAttrs_str PySem.F.slot_str_split PySem.F.type_str_split mt_split lift_split (je_var 1) (ja_cons (je_str [32]) ja_nil)) (ja_cons je_non ja_nil)))
 (jss_cons (js_setLcF 4 [("word", 7)] rfl sc_Frame_read.nd (ji_any (je_step (k := 2) (by decide) (je_var 2) (jo_some je_int) (jo_some je_int))) (blkOk_by (N := ["cls", "text", "words", "most", "numbers", "rest", "is_private", "word"]) (sc := defScope s_Frame_read) (by decide +kernel)) (by decide) (fun _ _ _ _ _ => (jgw_name 7 sc_Frame_read.nd)) (fun _ _ _ _ _ => jts_nil) (fun _ _ _ _ _ => (jc_P (ok_number_in X) (hr.mono (by decide)) X.g_number_in Dfl.nil takesNo (ja_cons (je_var 7) (ja_cons (je_gk X.c_MOST_DIGITS) ja_nil)))))
 (jss_cons (js_if (jt_w (jw_or (jt_cmp (op_neD hr.units) lift_neD (je_callTy call_tuple_of lift_tuple X.n_tuple (ja_cons (je_step (k := 2) (by decide) (je_var 2) jo_none (jo_some je_int)) ja_nil)) (je_tup (ja_cons (je_str [108, 101, 110, 103, 116, 104]) (ja_cons (je_str [115, 104, 111, 114, 116, 101, 115, 116]) ja_nil)))) (jw_or (jt_cmp (op_neD hr.units) lift_neD (je_callB call_lenX lift_lenX X.n_len (ja_cons (je_var 4) ja_nil)) je_int) (jw_one (jt_cmp (op_inY hr) (lift_inY rfl) je_non (je_var 4))))))
 (jss_one js_never)
 jss_nil)
 (jss_cons (js_set 5 sc_Frame_read.nd (je_slice (je_var 2) (jo_some je_int) jo_none))
 (jss_cons (js_if (jt_w (jw_and (jt_cmp op_gt' lift_gt (je_callB call_lenX lift_lenX X.n_len (ja_cons (je_var 5) ja_nil)) je_int) (jw_one (jt_cmp (op_eqD hr.units) lift_eqD (je_ixX rfl hr.units (je_var 5) je_int) (je_str [109, 111, 115, 116])))))
 (jss_cons (js_par 3 5 rfl sc_Frame_read.nd (by decide) (ja_cons (jc_P (ok_number_in X) (hr.mono (by decide)) X.g_number_in Dfl.nil tk (ja_cons (je_ixX rfl hr.units (je_var 5) je_int) (ja_cons (je_gk X.c_MOST_DIGITS) ja_nil))) (ja_cons (je_slice (je_var 5) (jo_some je_int) jo_none) ja_nil)))
 (jss_one (js_if (jt_isN (je_var 3))
 (jss_one js_never)
 jss_nil)))
 jss_nil)
 (jss_cons (js_set 6 sc_Frame_read.nd (je_and (je_cmp op_gt' lift_gt (je_callB call_lenX lift_lenX X.n_len (ja_cons (je_var 5) ja_nil)) je_int) (je_one (je_cmp (op_eqD hr.units) lift_eqD (je_ixX rfl hr.units (je_var 5) je_int) (je_str [112, 114, 105, 118, 97, 116, 101])))))
 (jss_one (js_ret (jc_L 0 nr_Frame_init X.mk_Frame (ok_Frame_init X) (hr.mono (by decide)) rfl Dfl.nil tk (ja_cons (je_ixX rfl hr.units (je_var 4) je_int) (ja_cons (je_ixX rfl hr.units (je_var 4) je_int) (ja_cons (je_var 3) (ja_cons (je_var 6) (ja_cons (jc_P (ok_known_in X) (hr.mono (by decide)) X.g_known_in Dfl.nil tk (ja_cons (je_if (jt_val (je_var 6)) (je_slice (je_var 5) (jo_some je_int) jo_none) (je_var 5)) ja_nil)) ja_nil)))))))))))))))
theorem ok_Frame_read (X : Tx P w K mg) : Callee (TB P w) P w K mg base 6 (cmA K "Frame" "read") ["cls", "text"] f_Frame_read [] := by
  obtain ⟨fd, FD⟩ := X.d_Frame_read
  exact ⟨fd, [], fo_Frame_read X FD, FD.kp, .nil, FD.bindsN fun _ _ _ _ _ _ us hl => match us, hl with | [_, _], _ => rfl⟩
theorem fo_are_hours (X : Tx P w K mg) {fd : FuncData} (FD : FunD K "are_hours" "are_hours" (defArgs s_are_hours) (defBody s_are_hours) (defScope s_are_hours) [] [] (He.ga K "are_hours") fd) : FnG P w K mg base (CX P w) 3 (He.ga K "are_hours") fd ["value"] (spF (TB P w) K f_are_hours) := by
  refine fn_ok FD sc_are_hours (fun cdv A outer s H E hr => ?_)
  have tk := takes_of (X := cxOf (CX P w) P w K mg base ["value"] "are_hours" (defScope s_are_hours) (He.ga K "are_hours") cdv A outer s H E) rfl rfl rfl rfl
  have hp := passes_of (X := cxOf (CX P w) P w K mg base ["value"] "are_hours" (defScope s_are_hours) (He.ga K "are_hours") cdv A outer s H E) rfl
  exact (jss_cons (js_if (jt_isN (je_var 0))
 (jss_one (js_ret je_bl))
 jss_nil)
 (jss_cons (js_if (jt_w (jw_or (jt_not (jt_val (je_isi .tuple (je_var 0) X.n_isinstance X.n_tuple))) (jw_or (jt_cmp (op_neD hr.units) lift_neD (je_callB call_lenX lift_lenX X.n_len (ja_cons (je_var 0) ja_nil)) je_int) (jw_or (jt_not (jt_val (jc_P (ok_is_number X) (hr.mono (by decide)) X.g_is_number Dfl.nil tk (ja_cons (je_ixX rfl hr.units (je_var 0) je_int) ja_nil)))) (jw_one (jt_not (jt_val (jc_P (ok_is_number X) (hr.mono (by decide)) X.g_is_number Dfl.nil tk (ja_cons (je_ixX rfl hr.units (je_var 0) je_int) ja_nil)))))))))
 (jss_one (js_ret je_bl))
 jss_nil)
 (jss_one (js_ret (je_cmp op_lt' lift_lt (je_ixX rfl hr.units (je_var 0) je_int) (je_ixX rfl hr.units (je_var 0) je_int))))))
theorem ok_are_hours (X : Tx P w K mg) : Callee (TB P w) P w K mg base 3 (He.ga K "are_hours") ["value"] f_are_hours [] := by
  obtain ⟨fd, FD⟩ := X.d_are_hours
  exact ⟨fd, [], fo_are_hours X FD, FD.kp, .nil, FD.bindsN fun _ _ _ _ _ _ us hl => match us, hl with | [_], _ => rfl⟩
theorem d_Rule_init_1 : Dfl (TB P w) K d_Rule_init_v1 [He.Dv.v K (.non)] := Dfl.of (ds := [.non]) (by kernel_rfl)
theorem d_Rule_init_2 : Dfl (TB P w) K d_Rule_init_v2 [He.Dv.v K (.str "busy"), He.Dv.v K (.non)] := Dfl.of (ds := [.str "busy", .non]) (by kernel_rfl)
theorem d_Rule_init_4 : Dfl (TB P w) K d_Rule_init_v4 [He.Dv.v K (.int 0), He.Dv.v K (.int 0), He.Dv.v K (.str "busy"), He.Dv.v K (.non)] := Dfl.of (ds := [.int 0, .int 0, .str "busy", .non]) (by kernel_rfl)
theorem d_Rule_init_5 : Dfl (TB P w) K d_Rule_init_v5 [He.Dv.v K (.int 1), He.Dv.v K (.int 0), He.Dv.v K (.int 0), He.Dv.v K (.str "busy"), He.Dv.v K (.non)] := Dfl.of (ds := [.int 1, .int 0, .int 0, .str "busy", .non]) (by kernel_rfl)
theorem fo_Rule_init (X : Tx P w K mg) {fd : FuncData} (FD : FunD K "__init__" "Rule.__init__" (defArgs s_Rule_init) (defBody s_Rule_init) (defScope s_Rule_init) [He.Dv.v K (.int 1), He.Dv.v K (.int 0), He.Dv.v K (.int 0), He.Dv.v K (.str "busy"), He.Dv.v K (.non)] [] (He.ma K (He.ga K "Rule") "__init__") fd) : FnG P w K mg base (CX P w) 4 (He.ma K (He.ga K "Rule") "__init__") fd ["self", "step", "gap", "least", "private", "hours"] (spF (TB P w) K f_Rule_init) := by
  refine fn_ok FD sc_Rule_init (fun cdv A outer s H E hr => ?_)
  have tk := takes_of (X := cxOf (CX P w) P w K mg base ["self", "step", "gap", "least", "private", "hours"] "Rule.__init__" (defScope s_Rule_init) (He.ma K (He.ga K "Rule") "__init__") cdv A outer s H E) rfl rfl rfl rfl
  have hp := passes_of (X := cxOf (CX P w) P w K mg base ["self", "step", "gap", "least", "private", "hours"] "Rule.__init__" (defScope s_Rule_init) (He.ma K (He.ga K "Rule") "__init__") cdv A outer s H E) rfl
  exact (jss_cons (js_if (jt_w (jw_or (jt_not (jt_val (jc_P (ok_is_integer X) (hr.mono (by decide)) X.g_is_integer Dfl.nil tk (ja_cons (je_var 1) ja_nil)))) (jw_one (jt_cmp op_lt' lift_lt (je_var 1) je_int))))
 (jss_one js_never)
 jss_nil)
 (jss_cons (js_if (jt_not (jt_val (jc_P (ok_is_number X) (hr.mono (by decide)) X.g_is_number Dfl.nil tk (ja_cons (je_var 2) ja_nil))))
 (jss_one js_never)
 jss_nil)
 (jss_cons (js_if (jt_not (jt_val (jc_P (ok_is_number X) (hr.mono (by decide)) X.g_is_number Dfl.nil tk (ja_cons (je_var 3) ja_nil))))
 (jss_one js_never)
 jss_nil)
 (jss_cons (js_if (jt_w (jw_or (jt_not (jt_val (je_isi .str (je_var 4) X.n_isinstance X.n_str))) (jw_one (jt_cmp (op_notInX hr) (lift_notInX rfl) (je_var 4) (je_gk X.c_SORTS)))))
 (jss_one js_never)
 jss_nil)
 (jss_cons (js_if (jt_not (jt_val (jc_P (ok_are_hours X) (hr.mono (by decide)) X.g_are_hours Dfl.nil tk (ja_cons (je_var 5) ja_nil))))
 (jss_one js_never)
 jss_nil)
 (jss_cons (js_setattr (AttOk.cons rfl X.k_Rule AttOk.nil) (je_var 1) (je_var 0))
 (jss_cons (js_setattr (AttOk.cons rfl X.k_Rule AttOk.nil) (je_var 2) (je_var 0))
 (jss_cons (js_setattr (AttOk.cons rfl X.k_Rule AttOk.nil) (je_var 3) (je_var 0))
 (jss_cons (js_setattr (AttOk.cons rfl X.k_Rule (AttOk.cons rfl X.k_Frame AttOk.nil)) (je_var 4) (je_var 0))
 (jss_one (js_setattr (AttOk.cons rfl X.k_Rule AttOk.nil) (je_var 5) (je_var 0))))))))))))
theorem ok_Rule_init (X : Tx P w K mg) : Callee (TB P w) P w K mg base 4 (He.ma K (He.ga K "Rule") "__init__") ["self", "step", "gap", "least", "private", "hours"] f_Rule_init [] := by
  obtain ⟨fd, FD⟩ := X.d_Rule_init
  obtain ⟨ds, hv, hb⟩ := FD.binds1 (ps := ["self", "step", "gap", "least", "private", "hours"]) 6 5 (by simp) rfl (fun _ _ _ _ _ _ _ us its h1 h2 => match us, its, h1, h2 with | [_, _, _, _, _, _], [_, _, _, _, _], _, _ => ⟨_, rfl, rfl⟩)
  exact ⟨fd, ds, fo_Rule_init X FD, FD.kp, hv, hb⟩
theorem ok_Rule_init_1 (X : Tx P w K mg) : Callee (TB P w) P w K mg base 4 (He.ma K (He.ga K "Rule") "__init__") ["self", "step", "gap", "least", "private", "hours"] f_Rule_init [He.Dv.v K (.non)] := by
  obtain ⟨fd, FD⟩ := X.d_Rule_init
  obtain ⟨ds, hv, hb⟩ := FD.binds1 (ps := ["self", "step", "gap", "least", "private", "hours"]) 5 4 (by simp) rfl (fun _ _ _ _ _ _ _ us its h1 h2 => match us, its, h1, h2 with | [_, _, _, _, _], [_, _, _, _, _], _, _ => ⟨_, rfl, rfl⟩)
  exact ⟨fd, ds, fo_Rule_init X FD, FD.kp, hv, hb⟩
theorem ok_Rule_init_2 (X : Tx P w K mg) : Callee (TB P w) P w K mg base 4 (He.ma K (He.ga K "Rule") "__init__") ["self", "step", "gap", "least", "private", "hours"] f_Rule_init [He.Dv.v K (.str "busy"), He.Dv.v K (.non)] := by
  obtain ⟨fd, FD⟩ := X.d_Rule_init
  obtain ⟨ds, hv, hb⟩ := FD.binds1 (ps := ["self", "step", "gap", "least", "private", "hours"]) 4 3 (by simp) rfl (fun _ _ _ _ _ _ _ us its h1 h2 => match us, its, h1, h2 with | [_, _, _, _], [_, _, _, _, _], _, _ => ⟨_, rfl, rfl⟩)
  exact ⟨fd, ds, fo_Rule_init X FD, FD.kp, hv, hb⟩
theorem ok_Rule_init_4 (X : Tx P w K mg) : Callee (TB P w) P w K mg base 4 (He.ma K (He.ga K "Rule") "__init__") ["self", "step", "gap", "least", "private", "hours"] f_Rule_init [He.Dv.v K (.int 0), He.Dv.v K (.int 0), He.Dv.v K (.str "busy"), He.Dv.v K (.non)] := by
  obtain ⟨fd, FD⟩ := X.d_Rule_init
  obtain ⟨ds, hv, hb⟩ := FD.binds1 (ps := ["self", "step", "gap", "least", "private", "hours"]) 2 1 (by simp) rfl (fun _ _ _ _ _ _ _ us its h1 h2 => match us, its, h1, h2 with | [_, _], [_, _, _, _, _], _, _ => ⟨_, rfl, rfl⟩)
  exact ⟨fd, ds, fo_Rule_init X FD, FD.kp, hv, hb⟩
theorem ok_Rule_init_5 (X : Tx P w K mg) : Callee (TB P w) P w K mg base 4 (He.ma K (He.ga K "Rule") "__init__") ["self", "step", "gap", "least", "private", "hours"] f_Rule_init [He.Dv.v K (.int 1), He.Dv.v K (.int 0), He.Dv.v K (.int 0), He.Dv.v K (.str "busy"), He.Dv.v K (.non)] := by
  obtain ⟨fd, FD⟩ := X.d_Rule_init
  obtain ⟨ds, hv, hb⟩ := FD.binds1 (ps := ["self", "step", "gap", "least", "private", "hours"]) 1 0 (by simp) rfl (fun _ _ _ _ _ _ _ us its h1 h2 => match us, its, h1, h2 with | [_], [_, _, _, _, _], _, _ => ⟨_, rfl, rfl⟩)
  exact ⟨fd, ds, fo_Rule_init X FD, FD.kp, hv, hb⟩
theorem nr_Rule_init : ∀ as h v h', f_Rule_init h as = .ok v h' → v = .non := fnOf_non (nr_seq (nr_if nr_bad nr_skip) (nr_seq (nr_if nr_bad nr_skip) (nr_seq (nr_if nr_bad nr_skip) (nr_seq (nr_if nr_bad nr_skip) (nr_seq (nr_if nr_bad nr_skip) (nr_seq nr_att (nr_seq nr_att (nr_seq nr_att (nr_seq nr_att nr_att)))))))))
theorem fo_Lrule_told (X : Tx P w K mg) {fd : FuncData} (FD : FunD K "_law_rule_told" "_law_rule_told" (defArgs s_Lrule_told) (defBody s_Lrule_told) (defScope s_Lrule_told) [] [] (He.ga K "_law_rule_told") fd) : FnG P w K mg base (CX P w) 6 (He.ga K "_law_rule_told") fd ["_law_text"] (spF (TB P w) K f_Lrule_told) := by
  refine fn_ok FD sc_Lrule_told (fun cdv A outer s H E hr => ?_)
  have tk := takes_of (X := cxOf (CX P w) P w K mg base ["_law_text", "_law_words"] "_law_rule_told" (defScope s_Lrule_told) (He.ga K "_law_rule_told") cdv A outer s H E) rfl rfl rfl rfl
  have hp := passes_of (X := cxOf (CX P w) P w K mg base ["_law_text", "_law_words"] "_law_rule_told" (defScope s_Lrule_told) (He.ga K "_law_rule_told") cdv A outer s H E) rfl
  exact (jss_cons (js_set 1 sc_Lrule_told.nd (je_bm PySem.F.plainAttrs_str PySem.F.slot_str_split PySem.F.type_str_split mt_split lift_split (je_var 0) (ja_cons (je_str [32]) ja_nil)))
 (jss_one (js_ret (jc_K nr_Rule_init X.mk_Rule (ok_Rule_init_1 X) (hr.mono (by decide)) X.g_Rule d_Rule_init_1 tk (ja_cons (je_callTy cr_intX lift_intX X.n_int (ja_cons (je_ixX rfl hr.units (je_var 1) je_int) ja_nil)) (ja_cons (je_callTy cr_intX lift_intX X.n_int (ja_cons (je_ixX rfl hr.units (je_var 1) je_int) ja_nil)) (ja_cons (je_callTy cr_intX lift_intX X.n_int (ja_cons (je_ixX rfl hr.units (je_var 1) je_int) ja_nil)) (ja_cons (je_ixX rfl hr.units (je_var 1) je_int) ja_nil))))))))
theorem ok_Lrule_told (X : Tx P w K mg) : Callee (TB P w) P w K mg base 6 (He.ga K "_law_rule_told") ["_law_text"] f_Lrule_told [] := by
  obtain ⟨fd, FD⟩ := X.d_Lrule_told
  exact ⟨fd, [], fo_Lrule_told X FD, FD.kp, .nil, FD.bindsN fun _ _ _ _ _ _ us hl => match us, hl with | [_], _ => rfl⟩
theorem fo_is_block (X : Tx P w K mg) {fd : FuncData} (FD : FunD K "is_block" "is_block" (defArgs s_is_block) (defBody s_is_block) (defScope s_is_block) [] [] (He.ga K "is_block") fd) : FnG P w K mg base (CX P w) 3 (He.ga K "is_block") fd ["value"] (spF (TB P w) K f_is_block) := by
  refine fn_ok FD sc_is_block (fun cdv A outer s H E hr => ?_)
  have tk := takes_of (X := cxOf (CX P w) P w K mg base ["value"] "is_block" (defScope s_is_block) (He.ga K "is_block") cdv A outer s H E) rfl rfl rfl rfl
  have hp := passes_of (X := cxOf (CX P w) P w K mg base ["value"] "is_block" (defScope s_is_block) (He.ga K "is_block") cdv A outer s H E) rfl
  exact (jss_cons (js_if (jt_w (jw_or (jt_not (jt_val (je_isi .tuple (je_var 0) X.n_isinstance X.n_tuple))) (jw_or (jt_cmp (op_neD hr.units) lift_neD (je_callB call_lenX lift_lenX X.n_len (ja_cons (je_var 0) ja_nil)) je_int) (jw_or (jt_not (jt_val (jc_P (ok_is_number X) (hr.mono (by decide)) X.g_is_number Dfl.nil tk (ja_cons (je_ixX rfl hr.units (je_var 0) je_int) ja_nil)))) (jw_one (jt_not (jt_val (jc_P (ok_is_number X) (hr.mono (by decide)) X.g_is_number Dfl.nil tk (ja_cons (je_ixX rfl hr.units (je_var 0) je_int) ja_nil)))))))))
 (jss_one (js_ret je_bl))
 jss_nil)
 (jss_one (js_ret (je_and (je_cmp op_lt' lift_lt (je_ixX rfl hr.units (je_var 0) je_int) (je_ixX rfl hr.units (je_var 0) je_int)) (je_and (je_isi .str (je_ixX rfl hr.units (je_var 0) je_int) X.n_isinstance X.n_str) (je_one (je_cmp (op_inY hr) (lift_inY rfl) (je_ixX rfl hr.units (je_var 0) je_int) (je_gk X.c_WORDS))))))))
theorem ok_is_block (X : Tx P w K mg) : Callee (TB P w) P w K mg base 3 (He.ga K "is_block") ["value"] f_is_block [] := by
  obtain ⟨fd, FD⟩ := X.d_is_block
  exact ⟨fd, [], fo_is_block X FD, FD.kp, .nil, FD.bindsN fun _ _ _ _ _ _ us hl => match us, hl with | [_], _ => rfl⟩
theorem fo_is_view (X : Tx P w K mg) {fd : FuncData} (FD : FunD K "is_view" "is_view" (defArgs s_is_view) (defBody s_is_view) (defScope s_is_view) [] [] (He.ga K "is_view") fd) : FnG P w K mg base (CX P w) 4 (He.ga K "is_view") fd ["value"] (spF (TB P w) K f_is_view) := by
  refine fn_ok FD sc_is_view (fun cdv A outer s H E hr => ?_)
  have tk := takes_of (X := cxOf (CX P w) P w K mg base ["value", "block", "one", "other"] "is_view" (defScope s_is_view) (He.ga K "is_view") cdv A outer s H E) rfl rfl rfl rfl
  have hp := passes_of (X := cxOf (CX P w) P w K mg base ["value", "block", "one", "other"] "is_view" (defScope s_is_view) (He.ga K "is_view") cdv A outer s H E) rfl
  exact (jss_cons (js_if (jt_w (jw_or (jt_not (jt_val (je_isi .tuple (je_var 0) X.n_isinstance X.n_tuple))) (jw_one (jt_not (jt_val (je_callB (cr_all rfl) lift_all X.n_all (ja_cons (je_lcF [("block", 1)] rfl sc_is_view.nd (ji_any (je_var 0)) (blkOk_by (N := ["value", "block", "one", "other"]) (sc := defScope s_is_view) (by decide +kernel)) (by decide) (fun _ _ _ _ _ => (jgw_name 1 sc_is_view.nd)) (fun _ _ _ _ _ => jts_nil) (fun _ _ _ _ _ => (jc_P (ok_is_block X) (hr.mono (by decide)) X.g_is_block Dfl.nil takesNo (ja_cons (je_var 1) ja_nil)))) ja_nil)))))))
 (jss_one (js_ret je_bl))
 jss_nil)
 (jss_one (js_ret (je_callB (cr_all rfl) lift_all X.n_all (ja_cons (je_lcF [("one", 2), ("other", 3)] rfl sc_is_view.nd (ji_zip2 X.n_zip (ja_cons (je_var 0) (ja_cons (je_slice (je_var 0) (jo_some je_int) jo_none) ja_nil))) (blkOk_by (N := ["value", "block", "one", "other"]) (sc := defScope s_is_view) (by decide +kernel)) (by decide) (fun _ _ _ _ _ => (jgw_tup rfl (jgsw_cons (jgw_name 2 sc_is_view.nd) (jgsw_cons (jgw_name 3 sc_is_view.nd) jgsw_nil)))) (fun _ _ _ _ _ => jts_nil) (fun _ _ _ _ _ => (je_cmp op_lt' lift_lt (je_var 2) (je_var 3)))) ja_nil)))))
theorem ok_is_view (X : Tx P w K mg) : Callee (TB P w) P w K mg base 4 (He.ga K "is_view") ["value"] f_is_view [] := by
  obtain ⟨fd, FD⟩ := X.d_is_view
  exact ⟨fd, [], fo_is_view X FD, FD.kp, .nil, FD.bindsN fun _ _ _ _ _ _ us hl => match us, hl with | [_], _ => rfl⟩
theorem fo_is_look (X : Tx P w K mg) {fd : FuncData} (FD : FunD K "is_look" "is_look" (defArgs s_is_look) (defBody s_is_look) (defScope s_is_look) [] [] (He.ga K "is_look") fd) : FnG P w K mg base (CX P w) 5 (He.ga K "is_look") fd ["value"] (spF (TB P w) K f_is_look) := by
  refine fn_ok FD sc_is_look (fun cdv A outer s H E hr => ?_)
  have tk := takes_of (X := cxOf (CX P w) P w K mg base ["value"] "is_look" (defScope s_is_look) (He.ga K "is_look") cdv A outer s H E) rfl rfl rfl rfl
  have hp := passes_of (X := cxOf (CX P w) P w K mg base ["value"] "is_look" (defScope s_is_look) (He.ga K "is_look") cdv A outer s H E) rfl
  exact (jss_one (js_ret (je_and (je_isi .tuple (je_var 0) X.n_isinstance X.n_tuple) (je_and (je_cmp (op_eqD hr.units) lift_eqD (je_callB call_lenX lift_lenX X.n_len (ja_cons (je_var 0) ja_nil)) je_int) (je_and (je_isO (je_ixX rfl hr.units (je_var 0) je_int) X.i_Rule X.n_isinstance X.g_Rule) (je_one (jc_P (ok_is_view X) (hr.mono (by decide)) X.g_is_view Dfl.nil tk (ja_cons (je_ixX rfl hr.units (je_var 0) je_int) ja_nil))))))))
theorem ok_is_look (X : Tx P w K mg) : Callee (TB P w) P w K mg base 5 (He.ga K "is_look") ["value"] f_is_look [] := by
  obtain ⟨fd, FD⟩ := X.d_is_look
  exact ⟨fd, [], fo_is_look X FD, FD.kp, .nil, FD.bindsN fun _ _ _ _ _ _ us hl => match us, hl with | [_], _ => rfl⟩
theorem fo_need_looks (X : Tx P w K mg) {fd : FuncData} (FD : FunD K "need_looks" "need_looks" (defArgs s_need_looks) (defBody s_need_looks) (defScope s_need_looks) [] [] (He.ga K "need_looks") fd) : FnG P w K mg base (CX P w) 6 (He.ga K "need_looks") fd ["looks"] (spF (TB P w) K f_need_looks) := by
  refine fn_ok FD sc_need_looks (fun cdv A outer s H E hr => ?_)
  have tk := takes_of (X := cxOf (CX P w) P w K mg base ["looks", "at", "look"] "need_looks" (defScope s_need_looks) (He.ga K "need_looks") cdv A outer s H E) rfl rfl rfl rfl
  have hp := passes_of (X := cxOf (CX P w) P w K mg base ["looks", "at", "look"] "need_looks" (defScope s_need_looks) (He.ga K "need_looks") cdv A outer s H E) rfl
  exact (jss_cons (js_if (jt_not (jt_val (jc_P (ok_is_sequence X) (hr.mono (by decide)) X.g_is_sequence Dfl.nil tk (ja_cons (je_var 0) ja_nil))))
 (jss_one js_never)
 jss_nil)
 (jss_cons (js_for hp rfl (ji_enum X.n_enumerate (ja_cons (je_var 0) ja_nil)) (jg_tup rfl (jgs_cons (jg_name 1 sc_need_looks.nd) (jgs_cons (jg_name 2 sc_need_looks.nd) jgs_nil)))
 (jss_one (js_if (jt_not (jt_val (jc_P (ok_is_look X) (hr.mono (by decide)) X.g_is_look Dfl.nil tk (ja_cons (je_var 2) ja_nil))))
 (jss_one js_never)
 jss_nil)))
 (jss_one (js_ret (je_callTy call_tuple_of lift_tuple X.n_tuple (ja_cons (je_var 0) ja_nil))))))
theorem ok_need_looks (X : Tx P w K mg) : Callee (TB P w) P w K mg base 6 (He.ga K "need_looks") ["looks"] f_need_looks [] := by
  obtain ⟨fd, FD⟩ := X.d_need_looks
  exact ⟨fd, [], fo_need_looks X FD, FD.kp, .nil, FD.bindsN fun _ _ _ _ _ _ us hl => match us, hl with | [_], _ => rfl⟩
theorem fo_prepared (X : Tx P w K mg) {fd : FuncData} (FD : FunD K "prepared" "prepared" (defArgs s_prepared) (defBody s_prepared) (defScope s_prepared) [] [] (He.ga K "prepared") fd) : FnG P w K mg base (CX P w) 7 (He.ga K "prepared") fd ["looks"] (spF (TB P w) K f_prepared) := by
  refine fn_ok FD sc_prepared (fun cdv A outer s H E hr => ?_)
  have tk := takes_of (X := cxOf (CX P w) P w K mg base ["looks", "found", "rule", "view", "word", "begin", "end", "other"] "prepared" (defScope s_prepared) (He.ga K "prepared") cdv A outer s H E) rfl rfl rfl rfl
  have hp := passes_of (X := cxOf (CX P w) P w K mg base ["looks", "found", "rule", "view", "word", "begin", "end", "other"] "prepared" (defScope s_prepared) (He.ga K "prepared") cdv A outer s H E) rfl
  exact (jss_cons (js_set 1 sc_prepared.nd (je_lst ja_nil))
 (jss_cons (js_for hp rfl (ji_any (jc_P (ok_need_looks X) (hr.mono (by decide)) X.g_need_looks Dfl.nil tk (ja_cons (je_var 0) ja_nil))) (jg_tup rfl (jgs_cons (jg_name 2 sc_prepared.nd) (jgs_cons (jg_name 3 sc_prepared.nd) jgs_nil)))
 (jss_one (js_expr (je_bm PySem.F.plainAttrs_list PySem.F.slot_list_append PySem.F.type_list_append mt_append lift_append (je_var 1) (ja_cons (je_tup (ja_cons (je_var 2) (ja_cons (je_callTy call_tuple_of lift_tuple X.n_tuple (ja_cons (je_lcF [("word", 4)] rfl sc_prepared.nd (ji_any (je_gk X.c_WORDS)) (blkOk_by (N := ["looks", "found", "rule", "view", "word", "begin", "end", "other"]) (sc := defScope s_prepared) (by decide +kernel)) (by decide) (fun _ _ _ _ _ => (jgw_name 4 sc_prepared.nd)) (fun _ _ _ _ _ => jts_nil) (fun _ _ _ _ _ => (je_lcF [("begin", 5), ("end", 6), ("other", 7)] rfl sc_prepared.nd (ji_any (je_var 3)) (blkOk_by (N := ["looks", "found", "rule", "view", "word", "begin", "end", "other"]) (by kernel_rfl)) (by decide) (fun _ _ _ _ _ => (jgw_tup rfl (jgsw_cons (jgw_name 5 sc_prepared.nd) (jgsw_cons (jgw_name 6 sc_prepared.nd) (jgsw_cons (jgw_name 7 sc_prepared.nd) jgsw_nil))))) (fun _ _ _ _ _ => (jts_one (jt_cmp (op_eqD hr.units) lift_eqD (je_var 7) (je_var 4)))) (fun _ _ _ _ _ => (je_tup (ja_cons (je_var 5) (ja_cons (je_var 6) ja_nil))))))) ja_nil)) ja_nil))) ja_nil)))))
 (jss_one (js_ret (je_callTy call_tuple_of lift_tuple X.n_tuple (ja_cons (je_var 1) ja_nil))))))
theorem ok_prepared (X : Tx P w K mg) : Callee (TB P w) P w K mg base 7 (He.ga K "prepared") ["looks"] f_prepared [] := by
  obtain ⟨fd, FD⟩ := X.d_prepared
  exact ⟨fd, [], fo_prepared X FD, FD.kp, .nil, FD.bindsN fun _ _ _ _ _ _ us hl => match us, hl with | [_], _ => rfl⟩
theorem fo_begun (X : Tx P w K mg) {fd : FuncData} (FD : FunD K "begun" "begun" (defArgs s_begun) (defBody s_begun) (defScope s_begun) [] [] (He.ga K "begun") fd) : FnG P w K mg base (CX P w) 7 (He.ga K "begun") fd ["frame", "looks"] (spF (TB P w) K f_begun) := by
  refine fn_ok FD sc_begun (fun cdv A outer s H E hr => ?_)
  have tk := takes_of (X := cxOf (CX P w) P w K mg base ["frame", "looks", "look"] "begun" (defScope s_begun) (He.ga K "begun") cdv A outer s H E) rfl rfl rfl rfl
  have hp := passes_of (X := cxOf (CX P w) P w K mg base ["frame", "looks", "look"] "begun" (defScope s_begun) (He.ga K "begun") cdv A outer s H E) rfl
  exact (jss_one (js_ret (je_tup (ja_cons (je_str []) (ja_cons je_int (ja_cons je_int (ja_cons (je_callTy call_tuple_of lift_tuple X.n_tuple (ja_cons (je_lcF [("look", 2)] rfl sc_begun.nd (ji_any (jc_P (ok_need_looks X) (hr.mono (by decide)) X.g_need_looks Dfl.nil tk (ja_cons (je_var 1) ja_nil))) (blkOk_by (N := ["frame", "looks", "look"]) (sc := defScope s_begun) (by decide +kernel)) (by decide) (fun _ _ _ _ _ => (jgw_name 2 sc_begun.nd)) (fun _ _ _ _ _ => jts_nil) (fun _ _ _ _ _ => (je_tup (ja_cons (je_tup (ja_cons je_int (ja_cons je_non ja_nil))) (ja_cons (je_tup (ja_cons je_int (ja_cons je_non ja_nil))) ja_nil))))) ja_nil)) ja_nil)))))))
theorem ok_begun (X : Tx P w K mg) : Callee (TB P w) P w K mg base 7 (He.ga K "begun") ["frame", "looks"] f_begun [] := by
  obtain ⟨fd, FD⟩ := X.d_begun
  exact ⟨fd, [], fo_begun X FD, FD.kp, .nil, FD.bindsN fun _ _ _ _ _ _ us hl => match us, hl with | [_, _], _ => rfl⟩
theorem fo_is_let (X : Tx P w K mg) {fd : FuncData} (FD : FunD K "is_let" "is_let" (defArgs s_is_let) (defBody s_is_let) (defScope s_is_let) [] [] (He.ga K "is_let") fd) : FnG P w K mg base (CX P w) 1 (He.ga K "is_let") fd ["frame", "tick", "standing", "letter"] (spF (TB P w) K f_is_let) := by
  refine fn_ok FD sc_is_let (fun cdv A outer s H E hr => ?_)
  have tk := takes_of (X := cxOf (CX P w) P w K mg base ["frame", "tick", "standing", "letter", "going", "run", "many", "spot", "is_taken"] "is_let" (defScope s_is_let) (He.ga K "is_let") cdv A outer s H E) rfl rfl rfl rfl
  have hp := passes_of (X := cxOf (CX P w) P w K mg base ["frame", "tick", "standing", "letter", "going", "run", "many", "spot", "is_taken"] "is_let" (defScope s_is_let) (He.ga K "is_let") cdv A outer s H E) rfl
  exact (jss_cons (js_asg (je_slice (je_var 2) jo_none (jo_some je_int)) (jg_tup rfl (jgs_cons (jg_name 4 sc_is_let.nd) (jgs_cons (jg_name 5 sc_is_let.nd) (jgs_cons (jg_name 6 sc_is_let.nd) jgs_nil)))))
 (jss_cons (js_if (jt_cmp (op_neD hr.units) lift_neD (je_lcF [("spot", 7), ("is_taken", 8)] rfl sc_is_let.nd (ji_any (je_attr (je_var 0) (AttOk.cons rfl X.k_Frame AttOk.nil))) (blkOk_by (N := ["frame", "tick", "standing", "letter", "going", "run", "many", "spot", "is_taken"]) (sc := defScope s_is_let) (by decide +kernel)) (by decide) (fun _ _ _ _ _ => (jgw_tup rfl (jgsw_cons (jgw_name 7 sc_is_let.nd) (jgsw_cons (jgw_name 8 sc_is_let.nd) jgsw_nil)))) (fun _ _ _ _ _ => (jts_one (jt_w (jw_and (jt_cmp (op_eqD hr.units) lift_eqD (je_var 7) (je_var 1)) (jw_one (jt_cmp (op_eqD hr.units) lift_eqD (je_var 8) (je_cmp (op_eqD hr.units) lift_eqD (je_var 3) (je_str [102, 114, 101, 101])))))))) (fun _ _ _ _ _ => je_int)) (je_lstF ja_nil))
 (jss_one (js_ret je_bl))
 jss_nil)
 (jss_cons (js_if (jt_cmp (op_eqD hr.units) lift_eqD (je_var 3) (je_str [111, 110]))
 (jss_one (js_ret (je_cmp (op_neD hr.units) lift_neD (je_var 4) (je_str []))))
 jss_nil)
 (jss_cons (js_if (jt_w (jw_and (jt_cmp (op_neD hr.units) lift_neD (je_var 4) (je_str [])) (jw_one (jt_cmp op_lt' lift_lt (je_var 5) (je_attr (je_var 0) (AttOk.cons rfl X.k_Frame AttOk.nil))))))
 (jss_one (js_ret je_bl))
 jss_nil)
 (jss_cons (js_if (jt_cmp (op_eqD hr.units) lift_eqD (je_var 3) (je_str [102, 114, 101, 101]))
 (jss_one (js_ret je_bl))
 jss_nil)
 (jss_one (js_ret (je_and (je_or (je_cmp (op_eqD hr.units) lift_eqD (je_var 3) (je_str [98, 117, 115, 121])) (je_one (je_attr (je_var 0) (AttOk.cons rfl X.k_Rule (AttOk.cons rfl X.k_Frame AttOk.nil))))) (je_one (je_or (je_isN (je_attr (je_var 0) (AttOk.cons rfl X.k_Frame AttOk.nil))) (je_one (je_cmp op_lt' lift_lt (je_var 6) (je_attr (je_var 0) (AttOk.cons rfl X.k_Frame AttOk.nil))))))))))))))
theorem ok_is_let (X : Tx P w K mg) : Callee (TB P w) P w K mg base 1 (He.ga K "is_let") ["frame", "tick", "standing", "letter"] f_is_let [] := by
  obtain ⟨fd, FD⟩ := X.d_is_let
  exact ⟨fd, [], fo_is_let X FD, FD.kp, .nil, FD.bindsN fun _ _ _ _ _ _ us hl => match us, hl with | [_, _, _, _], _ => rfl⟩
theorem nf_Rule_word_of : ("word_of" : Str) ∉ TBf 8 := by decide +kernel
theorem fo_Rule_word_of (X : Tx P w K mg) {fd : FuncData} (FD : FunD K "word_of" "Rule.word_of" (defArgs s_Rule_word_of) (defBody s_Rule_word_of) (defScope s_Rule_word_of) [] [] (He.ma K (He.ga K "Rule") "word_of") fd) : FnG P w K mg base (CX P w) 1 (He.ma K (He.ga K "Rule") "word_of") fd ["self", "is_private"] (spF (TB P w) K f_Rule_word_of) := by
  refine fn_ok FD sc_Rule_word_of (fun cdv A outer s H E hr => ?_)
  have tk := takes_of (X := cxOf (CX P w) P w K mg base ["self", "is_private"] "Rule.word_of" (defScope s_Rule_word_of) (He.ma K (He.ga K "Rule") "word_of") cdv A outer s H E) rfl rfl rfl rfl
  have hp := passes_of (X := cxOf (CX P w) P w K mg base ["self", "is_private"] "Rule.word_of" (defScope s_Rule_word_of) (He.ma K (He.ga K "Rule") "word_of") cdv A outer s H E) rfl
  exact (jss_cons (js_if (jt_w (jw_or (jt_not (jt_val (je_var 1))) (jw_one (jt_cmp (op_eqD hr.units) lift_eqD (je_attr (je_var 0) (AttOk.cons rfl X.k_Rule (AttOk.cons rfl X.k_Frame AttOk.nil))) (je_str [98, 117, 115, 121])))))
 (jss_one (js_ret (je_ixX rfl hr.units (je_gk X.c_WORDS) je_int)))
 jss_nil)
 (jss_one (js_ret (je_if (jt_cmp (op_eqD hr.units) lift_eqD (je_attr (je_var 0) (AttOk.cons rfl X.k_Rule (AttOk.cons rfl X.k_Frame AttOk.nil))) (je_str [110, 111, 110, 101])) je_non (je_ixX rfl hr.units (je_gk X.c_WORDS) je_int)))))
theorem ok_Rule_word_of (X : Tx P w K mg) : Callee (TB P w) P w K mg base 1 (He.ma K (He.ga K "Rule") "word_of") ["self", "is_private"] f_Rule_word_of [] := by
  obtain ⟨fd, FD⟩ := X.d_Rule_word_of
  exact ⟨fd, [], fo_Rule_word_of X FD, FD.kp, .nil, FD.bindsN fun _ _ _ _ _ _ us hl => match us, hl with | [_, _], _ => rfl⟩
theorem nf_Rule_down : ("down" : Str) ∉ TBf 8 := by decide +kernel
theorem fo_Rule_down (X : Tx P w K mg) {fd : FuncData} (FD : FunD K "down" "Rule.down" (defArgs s_Rule_down) (defBody s_Rule_down) (defScope s_Rule_down) [] [] (He.ma K (He.ga K "Rule") "down") fd) : FnG P w K mg base (CX P w) 1 (He.ma K (He.ga K "Rule") "down") fd ["self", "tick"] (spF (TB P w) K f_Rule_down) := by
  refine fn_ok FD sc_Rule_down (fun cdv A outer s H E hr => ?_)
  have tk := takes_of (X := cxOf (CX P w) P w K mg base ["self", "tick"] "Rule.down" (defScope s_Rule_down) (He.ma K (He.ga K "Rule") "down") cdv A outer s H E) rfl rfl rfl rfl
  have hp := passes_of (X := cxOf (CX P w) P w K mg base ["self", "tick"] "Rule.down" (defScope s_Rule_down) (He.ma K (He.ga K "Rule") "down") cdv A outer s H E) rfl
  exact (jss_one (js_ret (je_op op_mul lift_mul (je_op op_fdiv lift_fdiv (je_var 1) (je_attr (je_var 0) (AttOk.cons rfl X.k_Rule AttOk.nil))) (je_attr (je_var 0) (AttOk.cons rfl X.k_Rule AttOk.nil)))))
theorem ok_Rule_down (X : Tx P w K mg) : Callee (TB P w) P w K mg base 1 (He.ma K (He.ga K "Rule") "down") ["self", "tick"] f_Rule_down [] := by
  obtain ⟨fd, FD⟩ := X.d_Rule_down
  exact ⟨fd, [], fo_Rule_down X FD, FD.kp, .nil, FD.bindsN fun _ _ _ _ _ _ us hl => match us, hl with | [_, _], _ => rfl⟩
theorem nf_Rule_up : ("up" : Str) ∉ TBf 8 := by decide +kernel
theorem fo_Rule_up (X : Tx P w K mg) {fd : FuncData} (FD : FunD K "up" "Rule.up" (defArgs s_Rule_up) (defBody s_Rule_up) (defScope s_Rule_up) [] [] (He.ma K (He.ga K "Rule") "up") fd) : FnG P w K mg base (CX P w) 1 (He.ma K (He.ga K "Rule") "up") fd ["self", "tick"] (spF (TB P w) K f_Rule_up) := by
  refine fn_ok FD sc_Rule_up (fun cdv A outer s H E hr => ?_)
  have tk := takes_of (X := cxOf (CX P w) P w K mg base ["self", "tick"] "Rule.up" (defScope s_Rule_up) (He.ma K (He.ga K "Rule") "up") cdv A outer s H E) rfl rfl rfl rfl
  have hp := passes_of (X := cxOf (CX P w) P w K mg base ["self", "tick"] "Rule.up" (defScope s_Rule_up) (He.ma K (He.ga K "Rule") "up") cdv A outer s H E) rfl
  exact (jss_one (js_ret (je_op op_mul lift_mul (je_op op_fdiv lift_fdiv (je_op op_sub lift_sub (je_op op_plus lift_plus (je_var 1) (je_attr (je_var 0) (AttOk.cons rfl X.k_Rule AttOk.nil))) je_int) (je_attr (je_var 0) (AttOk.cons rfl X.k_Rule AttOk.nil))) (je_attr (je_var 0) (AttOk.cons rfl X.k_Rule AttOk.nil)))))
theorem ok_Rule_up (X : Tx P w K mg) : Callee (TB P w) P w K mg base 1 (He.ma K (He.ga K "Rule") "up") ["self", "tick"] f_Rule_up [] := by
  obtain ⟨fd, FD⟩ := X.d_Rule_up
  exact ⟨fd, [], fo_Rule_up X FD, FD.kp, .nil, FD.bindsN fun _ _ _ _ _ _ us hl => match us, hl with | [_, _], _ => rfl⟩
theorem nf_Rule_joins : ("joins" : Str) ∉ TBf 8 := by decide +kernel
theorem fo_Rule_joins (X : Tx P w K mg) {fd : FuncData} (FD : FunD K "joins" "Rule.joins" (defArgs s_Rule_joins) (defBody s_Rule_joins) (defScope s_Rule_joins) [] [] (He.ma K (He.ga K "Rule") "joins") fd) : FnG P w K mg base (CX P w) 1 (He.ma K (He.ga K "Rule") "joins") fd ["self", "word", "end", "low"] (spF (TB P w) K f_Rule_joins) := by
  refine fn_ok FD sc_Rule_joins (fun cdv A outer s H E hr => ?_)
  have tk := takes_of (X := cxOf (CX P w) P w K mg base ["self", "word", "end", "low"] "Rule.joins" (defScope s_Rule_joins) (He.ma K (He.ga K "Rule") "joins") cdv A outer s H E) rfl rfl rfl rfl
  have hp := passes_of (X := cxOf (CX P w) P w K mg base ["self", "word", "end", "low"] "Rule.joins" (defScope s_Rule_joins) (He.ma K (He.ga K "Rule") "joins") cdv A outer s H E) rfl
  exact (jss_one (js_ret (je_or (je_cmp op_le' lift_le (je_op op_sub lift_sub (je_var 3) (je_var 2)) (je_attr (je_var 0) (AttOk.cons rfl X.k_Rule AttOk.nil))) (je_one (je_and (je_cmp (op_eqD hr.units) lift_eqD (je_var 1) (je_ixX rfl hr.units (je_gk X.c_WORDS) je_int)) (je_one (je_cmp (op_eqD hr.units) lift_eqD (je_attr (je_var 0) (AttOk.cons rfl X.k_Rule (AttOk.cons rfl X.k_Frame AttOk.nil))) (je_str [111, 110, 101]))))))))
theorem ok_Rule_joins (X : Tx P w K mg) : Callee (TB P w) P w K mg base 1 (He.ma K (He.ga K "Rule") "joins") ["self", "word", "end", "low"] f_Rule_joins [] := by
  obtain ⟨fd, FD⟩ := X.d_Rule_joins
  exact ⟨fd, [], fo_Rule_joins X FD, FD.kp, .nil, FD.bindsN fun _ _ _ _ _ _ us hl => match us, hl with | [_, _, _, _], _ => rfl⟩
theorem nf_Rule_shown : ("shown" : Str) ∉ TBf 8 := by decide +kernel
theorem fo_Rule_shown (X : Tx P w K mg) {fd : FuncData} (FD : FunD K "shown" "Rule.shown" (defArgs s_Rule_shown) (defBody s_Rule_shown) (defScope s_Rule_shown) [] [] (He.ma K (He.ga K "Rule") "shown") fd) : FnG P w K mg base (CX P w) 1 (He.ma K (He.ga K "Rule") "shown") fd ["self", "begin", "end"] (spF (TB P w) K f_Rule_shown) := by
  refine fn_ok FD sc_Rule_shown (fun cdv A outer s H E hr => ?_)
  have tk := takes_of (X := cxOf (CX P w) P w K mg base ["self", "begin", "end"] "Rule.shown" (defScope s_Rule_shown) (He.ma K (He.ga K "Rule") "shown") cdv A outer s H E) rfl rfl rfl rfl
  have hp := passes_of (X := cxOf (CX P w) P w K mg base ["self", "begin", "end"] "Rule.shown" (defScope s_Rule_shown) (He.ma K (He.ga K "Rule") "shown") cdv A outer s H E) rfl
  exact (jss_cons (js_if (jt_cmp op_lt' lift_lt (je_op op_sub lift_sub (je_var 2) (je_var 1)) (je_attr (je_var 0) (AttOk.cons rfl X.k_Rule AttOk.nil)))
 (jss_one (js_ret je_non))
 jss_nil)
 (jss_cons (js_if (jt_notN (je_attr (je_var 0) (AttOk.cons rfl X.k_Rule AttOk.nil)))
 (jss_one (js_par 1 2 rfl sc_Rule_shown.nd (by decide) (ja_cons (je_callB (call_max2 rfl) lift_max2 X.n_max (ja_cons (je_callTy cr_intX lift_intX X.n_int (ja_cons (je_var 1) ja_nil)) (ja_cons (je_callTy cr_intX lift_intX X.n_int (ja_cons (je_ixX rfl hr.units (je_attr (je_var 0) (AttOk.cons rfl X.k_Rule AttOk.nil)) je_int) ja_nil)) ja_nil))) (ja_cons (je_callB (call_min2 rfl) lift_min2 X.n_min (ja_cons (je_callTy cr_intX lift_intX X.n_int (ja_cons (je_var 2) ja_nil)) (ja_cons (je_callTy cr_intX lift_intX X.n_int (ja_cons (je_ixX rfl hr.units (je_attr (je_var 0) (AttOk.cons rfl X.k_Rule AttOk.nil)) je_int) ja_nil)) ja_nil))) ja_nil))))
 jss_nil)
 (jss_one (js_ret (je_if (jt_cmp op_lt' lift_lt (je_var 1) (je_var 2)) (je_tup (ja_cons (je_var 1) (ja_cons (je_var 2) ja_nil))) je_non)))))
theorem ok_Rule_shown (X : Tx P w K mg) : Callee (TB P w) P w K mg base 1 (He.ma K (He.ga K "Rule") "shown") ["self", "begin", "end"] f_Rule_shown [] := by
  obtain ⟨fd, FD⟩ := X.d_Rule_shown
  exact ⟨fd, [], fo_Rule_shown X FD, FD.kp, .nil, FD.bindsN fun _ _ _ _ _ _ us hl => match us, hl with | [_, _, _], _ => rfl⟩
theorem fo_settled (X : Tx P w K mg) {fd : FuncData} (FD : FunD K "settled" "settled" (defArgs s_settled) (defBody s_settled) (defScope s_settled) [] [] (He.ga K "settled") fd) : FnG P w K mg base (CX P w) 2 (He.ga K "settled") fd ["rule", "due", "part"] (spF (TB P w) K f_settled) := by
  refine fn_ok FD sc_settled (fun cdv A outer s H E hr => ?_)
  have tk := takes_of (X := cxOf (CX P w) P w K mg base ["rule", "due", "part", "behind", "block", "seen"] "settled" (defScope s_settled) (He.ga K "settled") cdv A outer s H E) rfl rfl rfl rfl
  have hp := passes_of (X := cxOf (CX P w) P w K mg base ["rule", "due", "part", "behind", "block", "seen"] "settled" (defScope s_settled) (He.ga K "settled") cdv A outer s H E) rfl
  exact (jss_cons (js_asg (je_var 2) (jg_tup rfl (jgs_cons (jg_name 3 sc_settled.nd) (jgs_cons (jg_name 4 sc_settled.nd) jgs_nil))))
 (jss_cons (js_set 5 sc_settled.nd (je_if (jt_isN (je_var 4)) je_non (jc_M (je_var 0) X.k_Rule X.m_Rule_shown nf_Rule_shown (ok_Rule_shown X) (hr.mono (by decide)) Dfl.nil tk (ja_cons (je_ixX rfl hr.units (je_var 4) je_int) (ja_cons (je_ixX rfl hr.units (je_var 4) je_int) ja_nil)))))
 (jss_cons (js_if (jt_isN (je_var 5))
 (jss_one (js_ret (je_var 3)))
 jss_nil)
 (jss_one (js_ret (je_if (jt_cmp (op_eqD hr.units) lift_eqD (je_slice (je_var 1) (jo_some (je_var 3)) (jo_some (je_op op_plus lift_plus (je_var 3) je_int))) (je_lstF (ja_cons (je_var 5) ja_nil))) (je_op op_plus lift_plus (je_var 3) je_int) je_non))))))
theorem ok_settled (X : Tx P w K mg) : Callee (TB P w) P w K mg base 2 (He.ga K "settled") ["rule", "due", "part"] f_settled [] := by
  obtain ⟨fd, FD⟩ := X.d_settled
  exact ⟨fd, [], fo_settled X FD, FD.kp, .nil, FD.bindsN fun _ _ _ _ _ _ us hl => match us, hl with | [_, _, _], _ => rfl⟩
theorem fo_begun_part (X : Tx P w K mg) {fd : FuncData} (FD : FunD K "begun_part" "begun_part" (defArgs s_begun_part) (defBody s_begun_part) (defScope s_begun_part) [] [] (He.ga K "begun_part") fd) : FnG P w K mg base (CX P w) 3 (He.ga K "begun_part") fd ["rule", "due", "word", "tick", "part"] (spF (TB P w) K f_begun_part) := by
  refine fn_ok FD sc_begun_part (fun cdv A outer s H E hr => ?_)
  have tk := takes_of (X := cxOf (CX P w) P w K mg base ["rule", "due", "word", "tick", "part", "low", "high", "behind", "block"] "begun_part" (defScope s_begun_part) (He.ga K "begun_part") cdv A outer s H E) rfl rfl rfl rfl
  have hp := passes_of (X := cxOf (CX P w) P w K mg base ["rule", "due", "word", "tick", "part", "low", "high", "behind", "block"] "begun_part" (defScope s_begun_part) (He.ga K "begun_part") cdv A outer s H E) rfl
  exact (jss_cons (js_par 5 6 rfl sc_begun_part.nd (by decide) (ja_cons (jc_M (je_var 0) X.k_Rule X.m_Rule_down nf_Rule_down (ok_Rule_down X) (hr.mono (by decide)) Dfl.nil tk (ja_cons (je_var 3) ja_nil)) (ja_cons (jc_M (je_var 0) X.k_Rule X.m_Rule_up nf_Rule_up (ok_Rule_up X) (hr.mono (by decide)) Dfl.nil tk (ja_cons (je_op op_plus lift_plus (je_var 3) je_int) ja_nil)) ja_nil)))
 (jss_cons (js_asg (je_var 4) (jg_tup rfl (jgs_cons (jg_name 7 sc_begun_part.nd) (jgs_cons (jg_name 8 sc_begun_part.nd) jgs_nil))))
 (jss_cons (js_if (jt_w (jw_and (jt_notN (je_var 8)) (jw_one (jt_val (jc_M (je_var 0) X.k_Rule X.m_Rule_joins nf_Rule_joins (ok_Rule_joins X) (hr.mono (by decide)) Dfl.nil tk (ja_cons (je_var 2) (ja_cons (je_ixX rfl hr.units (je_var 8) je_int) (ja_cons (je_var 5) ja_nil))))))))
 (jss_one (js_ret (je_tup (ja_cons (je_var 7) (ja_cons (je_tup (ja_cons (je_ixX rfl hr.units (je_var 8) je_int) (ja_cons (je_callB (call_max2 rfl) lift_max2 X.n_max (ja_cons (je_callTy cr_intX lift_intX X.n_int (ja_cons (je_ixX rfl hr.units (je_var 8) je_int) ja_nil)) (ja_cons (je_callTy cr_intX lift_intX X.n_int (ja_cons (je_var 6) ja_nil)) ja_nil))) ja_nil))) ja_nil)))))
 jss_nil)
 (jss_cons (js_set 7 sc_begun_part.nd (jc_P (ok_settled X) (hr.mono (by decide)) X.g_settled Dfl.nil tk (ja_cons (je_var 0) (ja_cons (je_var 1) (ja_cons (je_var 4) ja_nil)))))
 (jss_one (js_ret (je_if (jt_isN (je_var 7)) je_non (je_tup (ja_cons (je_var 7) (ja_cons (je_tup (ja_cons (je_var 5) (ja_cons (je_var 6) ja_nil))) ja_nil))))))))))
theorem ok_begun_part (X : Tx P w K mg) : Callee (TB P w) P w K mg base 3 (He.ga K "begun_part") ["rule", "due", "word", "tick", "part"] f_begun_part [] := by
  obtain ⟨fd, FD⟩ := X.d_begun_part
  exact ⟨fd, [], fo_begun_part X FD, FD.kp, .nil, FD.bindsN fun _ _ _ _ _ _ us hl => match us, hl with | [_, _, _, _, _], _ => rfl⟩
theorem fo_grown_part (X : Tx P w K mg) {fd : FuncData} (FD : FunD K "grown_part" "grown_part" (defArgs s_grown_part) (defBody s_grown_part) (defScope s_grown_part) [] [] (He.ga K "grown_part") fd) : FnG P w K mg base (CX P w) 2 (He.ga K "grown_part") fd ["rule", "due", "word", "tick", "part"] (spF (TB P w) K f_grown_part) := by
  refine fn_ok FD sc_grown_part (fun cdv A outer s H E hr => ?_)
  have tk := takes_of (X := cxOf (CX P w) P w K mg base ["rule", "due", "word", "tick", "part", "behind", "block"] "grown_part" (defScope s_grown_part) (He.ga K "grown_part") cdv A outer s H E) rfl rfl rfl rfl
  have hp := passes_of (X := cxOf (CX P w) P w K mg base ["rule", "due", "word", "tick", "part", "behind", "block"] "grown_part" (defScope s_grown_part) (He.ga K "grown_part") cdv A outer s H E) rfl
  exact (jss_cons (js_asg (je_var 4) (jg_tup rfl (jgs_cons (jg_name 5 sc_grown_part.nd) (jgs_cons (jg_name 6 sc_grown_part.nd) jgs_nil))))
 (jss_cons (js_if (jt_isN (je_var 6))
 (jss_one (js_ret (je_var 4)))
 jss_nil)
 (jss_one (js_ret (je_tup (ja_cons (je_var 5) (ja_cons (je_tup (ja_cons (je_ixX rfl hr.units (je_var 6) je_int) (ja_cons (je_callB (call_max2 rfl) lift_max2 X.n_max (ja_cons (je_callTy cr_intX lift_intX X.n_int (ja_cons (je_ixX rfl hr.units (je_var 6) je_int) ja_nil)) (ja_cons (je_callTy cr_intX lift_intX X.n_int (ja_cons (jc_M (je_var 0) X.k_Rule X.m_Rule_up nf_Rule_up (ok_Rule_up X) (hr.mono (by decide)) Dfl.nil tk (ja_cons (je_op op_plus lift_plus (je_var 3) je_int) ja_nil)) ja_nil)) ja_nil))) ja_nil))) ja_nil)))))))
theorem ok_grown_part (X : Tx P w K mg) : Callee (TB P w) P w K mg base 2 (He.ga K "grown_part") ["rule", "due", "word", "tick", "part"] f_grown_part [] := by
  obtain ⟨fd, FD⟩ := X.d_grown_part
  exact ⟨fd, [], fo_grown_part X FD, FD.kp, .nil, FD.bindsN fun _ _ _ _ _ _ us hl => match us, hl with | [_, _, _, _, _], _ => rfl⟩
theorem fo_led (X : Tx P w K mg) {fd : FuncData} (FD : FunD K "led" "led" (defArgs s_led) (defBody s_led) (defScope s_led) [] [] (He.ga K "led") fd) : FnG P w K mg base (CX P w) 4 (He.ga K "led") fd ["given", "tick", "making", "is_private", "change"] (spF (TB P w) K f_led) := by
  refine fn_ok FD sc_led (fun cdv A outer s H E hr => ?_)
  have tk := takes_of (X := cxOf (CX P w) P w K mg base ["given", "tick", "making", "is_private", "change", "found", "rule", "dues", "parts", "word", "later", "spot"] "led" (defScope s_led) (He.ga K "led") cdv A outer s H E) rfl rfl rfl rfl
  have hp := passes_of (X := cxOf (CX P w) P w K mg base ["given", "tick", "making", "is_private", "change", "found", "rule", "dues", "parts", "word", "later", "spot"] "led" (defScope s_led) (He.ga K "led") cdv A outer s H E) rfl
  exact (jss_cons (js_set 5 sc_led.nd (je_lst ja_nil))
 (jss_cons (js_for hp rfl (ji_zip2 X.n_zip (ja_cons (je_var 0) (ja_cons (je_var 2) ja_nil))) (jg_tup rfl (jgs_cons (jg_tup rfl (jgs_cons (jg_name 6 sc_led.nd) (jgs_cons (jg_name 7 sc_led.nd) jgs_nil))) (jgs_cons (jg_name 8 sc_led.nd) jgs_nil)))
 (jss_cons (js_par 9 10 rfl sc_led.nd (by decide) (ja_cons (jc_M (je_var 6) X.k_Rule X.m_Rule_word_of nf_Rule_word_of (ok_Rule_word_of X) (hr.mono (by decide)) Dfl.nil tk (ja_cons (je_var 3) ja_nil)) (ja_cons (je_callTy call_list_of lift_list X.n_list (ja_cons (je_var 8) ja_nil)) ja_nil)))
 (jss_cons (js_if (jt_notN (je_var 9))
 (jss_cons (js_set 11 sc_led.nd (je_tidx X.g_WORDS X.c_WORDS X.x_WORDS (ja_cons (je_var 9) ja_nil)))
 (jss_cons (js_asg (jc_V 4 (ft_cons (g := 101) (ok_grown_part X) (hr.mono (by decide)) (ft_cons (g := 100) (ok_begun_part X) (hr.mono (by decide)) ft_nil)) tk (ja_cons (je_var 6) (ja_cons (je_ixX rfl hr.units (je_var 7) (je_var 11)) (ja_cons (je_var 9) (ja_cons (je_var 1) (ja_cons (je_ixX rfl hr.units (je_var 8) (je_var 11)) ja_nil)))))) (jg_ixX rfl hr.units (je_var 10) (je_var 11)))
 (jss_one (js_if (jt_isN (je_ixX rfl hr.units (je_var 10) (je_var 11)))
 (jss_one (js_ret je_non))
 jss_nil))))
 jss_nil)
 (jss_one (js_expr (je_bm PySem.F.plainAttrs_list PySem.F.slot_list_append PySem.F.type_list_append mt_append lift_append (je_var 5) (ja_cons (je_callTy call_tuple_of lift_tuple X.n_tuple (ja_cons (je_var 10) ja_nil)) ja_nil)))))))
 (jss_one (js_ret (je_callTy call_tuple_of lift_tuple X.n_tuple (ja_cons (je_var 5) ja_nil))))))
theorem ok_led (X : Tx P w K mg) : Callee (TB P w) P w K mg base 4 (He.ga K "led") ["given", "tick", "making", "is_private", "change"] f_led [] := by
  obtain ⟨fd, FD⟩ := X.d_led
  exact ⟨fd, [], fo_led X FD, FD.kp, .nil, FD.bindsN fun _ _ _ _ _ _ us hl => match us, hl with | [_, _, _, _, _], _ => rfl⟩
theorem fo_follow (X : Tx P w K mg) {fd : FuncData} (FD : FunD K "follow" "follow" (defArgs s_follow) (defBody s_follow) (defScope s_follow) [] [] (He.ga K "follow") fd) : FnG P w K mg base (CX P w) 5 (He.ga K "follow") fd ["frame", "given", "tick", "standing", "letter"] (spF (TB P w) K f_follow) := by
  refine fn_ok FD sc_follow (fun cdv A outer s H E hr => ?_)
  have tk := takes_of (X := cxOf (CX P w) P w K mg base ["frame", "given", "tick", "standing", "letter", "going", "run", "many", "making"] "follow" (defScope s_follow) (He.ga K "follow") cdv A outer s H E) rfl rfl rfl rfl
  have hp := passes_of (X := cxOf (CX P w) P w K mg base ["frame", "given", "tick", "standing", "letter", "going", "run", "many", "making"] "follow" (defScope s_follow) (He.ga K "follow") cdv A outer s H E) rfl
  exact (jss_cons (js_if (jt_not (jt_val (jc_P (ok_is_let X) (hr.mono (by decide)) X.g_is_let Dfl.nil tk (ja_cons (je_var 0) (ja_cons (je_var 2) (ja_cons (je_var 3) (ja_cons (je_var 4) ja_nil)))))))
 (jss_one (js_ret je_non))
 jss_nil)
 (jss_cons (js_asg (je_var 3) (jg_tup rfl (jgs_cons (jg_name 5 sc_follow.nd) (jgs_cons (jg_name 6 sc_follow.nd) (jgs_cons (jg_name 7 sc_follow.nd) (jgs_cons (jg_name 8 sc_follow.nd) jgs_nil))))))
 (jss_cons (js_if (jt_cmp (op_eqD hr.units) lift_eqD (je_var 4) (je_str [102, 114, 101, 101]))
 (jss_one (js_ret (je_tup (ja_cons (je_str []) (ja_cons je_int (ja_cons (je_var 7) (ja_cons (je_var 8) ja_nil)))))))
 jss_nil)
 (jss_cons (js_if (jt_cmp (op_eqD hr.units) lift_eqD (je_var 4) (je_str [111, 110]))
 (jss_cons (js_set 8 sc_follow.nd (jc_P (ok_led X) (hr.mono (by decide)) X.g_led Dfl.nil tk (ja_cons (je_var 1) (ja_cons (je_var 2) (ja_cons (je_var 8) (ja_cons (je_cmp (op_eqD hr.units) lift_eqD (je_var 5) (je_str [112, 114, 105, 118, 97, 116, 101])) (ja_cons (je_glo 101 X.g_grown_part) ja_nil)))))))
 (jss_one (js_ret (je_tup (ja_cons (je_var 5) (ja_cons (je_callB (call_min2 rfl) lift_min2 X.n_min (ja_cons (je_callTy cr_intX lift_intX X.n_int (ja_cons (je_attr (je_var 0) (AttOk.cons rfl X.k_Frame AttOk.nil)) ja_nil)) (ja_cons (je_op op_plus lift_plus (je_var 6) je_int) ja_nil))) (ja_cons (je_var 7) (ja_cons (je_var 8) ja_nil))))))))
 jss_nil)
 (jss_cons (js_set 8 sc_follow.nd (jc_P (ok_led X) (hr.mono (by decide)) X.g_led Dfl.nil tk (ja_cons (je_var 1) (ja_cons (je_var 2) (ja_cons (je_var 8) (ja_cons (je_cmp (op_eqD hr.units) lift_eqD (je_var 4) (je_str [112, 114, 105, 118, 97, 116, 101])) (ja_cons (je_glo 100 X.g_begun_part) ja_nil)))))))
 (jss_cons (js_if (jt_isN (je_var 8))
 (jss_one (js_ret je_non))
 jss_nil)
 (jss_one (js_ret (je_tup (ja_cons (je_var 4) (ja_cons je_int (ja_cons (je_if (jt_isN (je_attr (je_var 0) (AttOk.cons rfl X.k_Frame AttOk.nil))) (je_var 7) (je_op op_plus lift_plus (je_var 7) je_int)) (ja_cons (je_var 8) ja_nil)))))))))))))
theorem ok_follow (X : Tx P w K mg) : Callee (TB P w) P w K mg base 5 (He.ga K "follow") ["frame", "given", "tick", "standing", "letter"] f_follow [] := by
  obtain ⟨fd, FD⟩ := X.d_follow
  exact ⟨fd, [], fo_follow X FD, FD.kp, .nil, FD.bindsN fun _ _ _ _ _ _ us hl => match us, hl with | [_, _, _, _, _], _ => rfl⟩
theorem fo_can_come (X : Tx P w K mg) {fd : FuncData} (FD : FunD K "can_come" "can_come" (defArgs s_can_come) (defBody s_can_come) (defScope s_can_come) [] [] (He.ga K "can_come") fd) : FnG P w K mg base (CX P w) 2 (He.ga K "can_come") fd ["rule", "word", "due", "block", "low"] (spF (TB P w) K f_can_come) := by
  refine fn_ok FD sc_can_come (fun cdv A outer s H E hr => ?_)
  have tk := takes_of (X := cxOf (CX P w) P w K mg base ["rule", "word", "due", "block", "low", "seen"] "can_come" (defScope s_can_come) (He.ga K "can_come") cdv A outer s H E) rfl rfl rfl rfl
  have hp := passes_of (X := cxOf (CX P w) P w K mg base ["rule", "word", "due", "block", "low", "seen"] "can_come" (defScope s_can_come) (He.ga K "can_come") cdv A outer s H E) rfl
  exact (jss_cons (js_if (jt_isN (je_var 3))
 (jss_one (js_ret (je_or (je_cmp (op_eqD hr.units) lift_eqD (je_var 2) (je_lstF ja_nil)) (je_one (je_cmp op_le' lift_le (je_var 4) (je_ixX rfl hr.units (je_ixX rfl hr.units (je_var 2) je_int) je_int))))))
 jss_nil)
 (jss_cons (js_set 5 sc_can_come.nd (jc_M (je_var 0) X.k_Rule X.m_Rule_shown nf_Rule_shown (ok_Rule_shown X) (hr.mono (by decide)) Dfl.nil tk (ja_cons (je_ixX rfl hr.units (je_var 3) je_int) (ja_cons (je_ixX rfl hr.units (je_var 3) je_int) ja_nil))))
 (jss_cons (js_if (jt_isN (je_var 5))
 (jss_one (js_ret je_bl))
 jss_nil)
 (jss_cons (js_if (jt_w (jw_or (jt_cmp (op_eqD hr.units) lift_eqD (je_var 2) (je_lstF ja_nil)) (jw_or (jt_cmp (op_neD hr.units) lift_neD (je_ixX rfl hr.units (je_var 5) je_int) (je_ixX rfl hr.units (je_ixX rfl hr.units (je_var 2) je_int) je_int)) (jw_one (jt_cmp op_gt' lift_gt (je_ixX rfl hr.units (je_var 5) je_int) (je_ixX rfl hr.units (je_ixX rfl hr.units (je_var 2) je_int) je_int))))))
 (jss_one (js_ret je_bl))
 jss_nil)
 (jss_one (js_ret (je_or (je_cmp (op_eqD hr.units) lift_eqD (je_var 5) (je_ixX rfl hr.units (je_var 2) je_int)) (je_one (jc_M (je_var 0) X.k_Rule X.m_Rule_joins nf_Rule_joins (ok_Rule_joins X) (hr.mono (by decide)) Dfl.nil tk (ja_cons (je_var 1) (ja_cons (je_ixX rfl hr.units (je_var 3) je_int) (ja_cons (je_var 4) ja_nil))))))))))))
theorem ok_can_come (X : Tx P w K mg) : Callee (TB P w) P w K mg base 2 (He.ga K "can_come") ["rule", "word", "due", "block", "low"] f_can_come [] := by
  obtain ⟨fd, FD⟩ := X.d_can_come
  exact ⟨fd, [], fo_can_come X FD, FD.kp, .nil, FD.bindsN fun _ _ _ _ _ _ us hl => match us, hl with | [_, _, _, _, _], _ => rfl⟩
theorem fo_is_hopeful (X : Tx P w K mg) {fd : FuncData} (FD : FunD K "is_hopeful" "is_hopeful" (defArgs s_is_hopeful) (defBody s_is_hopeful) (defScope s_is_hopeful) [] [] (He.ga K "is_hopeful") fd) : FnG P w K mg base (CX P w) 3 (He.ga K "is_hopeful") fd ["given", "tick", "standing"] (spF (TB P w) K f_is_hopeful) := by
  refine fn_ok FD sc_is_hopeful (fun cdv A outer s H E hr => ?_)
  have tk := takes_of (X := cxOf (CX P w) P w K mg base ["given", "tick", "standing", "rule", "dues", "parts", "word", "due", "behind", "block"] "is_hopeful" (defScope s_is_hopeful) (He.ga K "is_hopeful") cdv A outer s H E) rfl rfl rfl rfl
  have hp := passes_of (X := cxOf (CX P w) P w K mg base ["given", "tick", "standing", "rule", "dues", "parts", "word", "due", "behind", "block"] "is_hopeful" (defScope s_is_hopeful) (He.ga K "is_hopeful") cdv A outer s H E) rfl
  exact (jss_cons (js_for hp rfl (ji_zip2 X.n_zip (ja_cons (je_var 0) (ja_cons (je_ixX rfl hr.units (je_var 2) je_int) ja_nil))) (jg_tup rfl (jgs_cons (jg_tup rfl (jgs_cons (jg_name 3 sc_is_hopeful.nd) (jgs_cons (jg_name 4 sc_is_hopeful.nd) jgs_nil))) (jgs_cons (jg_name 5 sc_is_hopeful.nd) jgs_nil)))
 (jss_one (js_for hp rfl (ji_zip3 X.n_zip (ja_cons (je_gk X.c_WORDS) (ja_cons (je_var 4) (ja_cons (je_var 5) ja_nil)))) (jg_tup rfl (jgs_cons (jg_name 6 sc_is_hopeful.nd) (jgs_cons (jg_name 7 sc_is_hopeful.nd) (jgs_cons (jg_tup rfl (jgs_cons (jg_name 8 sc_is_hopeful.nd) (jgs_cons (jg_name 9 sc_is_hopeful.nd) jgs_nil))) jgs_nil))))
 (jss_one (js_if (jt_not (jt_val (jc_P (ok_can_come X) (hr.mono (by decide)) X.g_can_come Dfl.nil tk (ja_cons (je_var 3) (ja_cons (je_var 6) (ja_cons (je_slice (je_var 7) (jo_some (je_var 8)) (jo_some (je_op op_plus lift_plus (je_var 8) je_int))) (ja_cons (je_var 9) (ja_cons (jc_M (je_var 3) X.k_Rule X.m_Rule_down nf_Rule_down (ok_Rule_down X) (hr.mono (by decide)) Dfl.nil tk (ja_cons (je_var 1) ja_nil)) ja_nil))))))))
 (jss_one (js_ret je_bl))
 jss_nil)))))
 (jss_one (js_ret je_bl)))
theorem ok_is_hopeful (X : Tx P w K mg) : Callee (TB P w) P w K mg base 3 (He.ga K "is_hopeful") ["given", "tick", "standing"] f_is_hopeful [] := by
  obtain ⟨fd, FD⟩ := X.d_is_hopeful
  exact ⟨fd, [], fo_is_hopeful X FD, FD.kp, .nil, FD.bindsN fun _ _ _ _ _ _ us hl => match us, hl with | [_, _, _], _ => rfl⟩
theorem fo_part_grown (X : Tx P w K mg) {fd : FuncData} (FD : FunD K "part_grown" "part_grown" (defArgs s_part_grown) (defBody s_part_grown) (defScope s_part_grown) [] [] (He.ga K "part_grown") fd) : FnG P w K mg base (CX P w) 2 (He.ga K "part_grown") fd ["rule", "tick", "part"] (spF (TB P w) K f_part_grown) := by
  refine fn_ok FD sc_part_grown (fun cdv A outer s H E hr => ?_)
  have tk := takes_of (X := cxOf (CX P w) P w K mg base ["rule", "tick", "part", "done", "block"] "part_grown" (defScope s_part_grown) (He.ga K "part_grown") cdv A outer s H E) rfl rfl rfl rfl
  have hp := passes_of (X := cxOf (CX P w) P w K mg base ["rule", "tick", "part", "done", "block"] "part_grown" (defScope s_part_grown) (He.ga K "part_grown") cdv A outer s H E) rfl
  exact (jss_cons (js_asg (je_var 2) (jg_tup rfl (jgs_cons (jg_name 3 sc_part_grown.nd) (jgs_cons (jg_name 4 sc_part_grown.nd) jgs_nil))))
 (jss_cons (js_if (jt_isN (je_var 4))
 (jss_one (js_ret (je_var 2)))
 jss_nil)
 (jss_one (js_ret (je_tup (ja_cons (je_var 3) (ja_cons (je_tup (ja_cons (je_ixX rfl hr.units (je_var 4) je_int) (ja_cons (je_callB (call_max2 rfl) lift_max2 X.n_max (ja_cons (je_callTy cr_intX lift_intX X.n_int (ja_cons (je_ixX rfl hr.units (je_var 4) je_int) ja_nil)) (ja_cons (je_callTy cr_intX lift_intX X.n_int (ja_cons (jc_M (je_var 0) X.k_Rule X.m_Rule_up nf_Rule_up (ok_Rule_up X) (hr.mono (by decide)) Dfl.nil tk (ja_cons (je_op op_plus lift_plus (je_var 1) je_int) ja_nil)) ja_nil)) ja_nil))) ja_nil))) ja_nil)))))))
theorem ok_part_grown (X : Tx P w K mg) : Callee (TB P w) P w K mg base 2 (He.ga K "part_grown") ["rule", "tick", "part"] f_part_grown [] := by
  obtain ⟨fd, FD⟩ := X.d_part_grown
  exact ⟨fd, [], fo_part_grown X FD, FD.kp, .nil, FD.bindsN fun _ _ _ _ _ _ us hl => match us, hl with | [_, _, _], _ => rfl⟩
theorem fo_closed (X : Tx P w K mg) {fd : FuncData} (FD : FunD K "closed" "closed" (defArgs s_closed) (defBody s_closed) (defScope s_closed) [] [] (He.ga K "closed") fd) : FnG P w K mg base (CX P w) 2 (He.ga K "closed") fd ["rule", "part"] (spF (TB P w) K f_closed) := by
  refine fn_ok FD sc_closed (fun cdv A outer s H E hr => ?_)
  have tk := takes_of (X := cxOf (CX P w) P w K mg base ["rule", "part", "done", "block", "seen"] "closed" (defScope s_closed) (He.ga K "closed") cdv A outer s H E) rfl rfl rfl rfl
  have hp := passes_of (X := cxOf (CX P w) P w K mg base ["rule", "part", "done", "block", "seen"] "closed" (defScope s_closed) (He.ga K "closed") cdv A outer s H E) rfl
  exact (jss_cons (js_asg (je_var 1) (jg_tup rfl (jgs_cons (jg_name 2 sc_closed.nd) (jgs_cons (jg_name 3 sc_closed.nd) jgs_nil))))
 (jss_cons (js_set 4 sc_closed.nd (je_if (jt_isN (je_var 3)) je_non (jc_M (je_var 0) X.k_Rule X.m_Rule_shown nf_Rule_shown (ok_Rule_shown X) (hr.mono (by decide)) Dfl.nil tk (ja_cons (je_ixX rfl hr.units (je_var 3) je_int) (ja_cons (je_ixX rfl hr.units (je_var 3) je_int) ja_nil)))))
 (jss_one (js_ret (je_if (jt_isN (je_var 4)) (je_var 2) (je_tup (ja_star (je_var 2) (ja_cons (je_var 4) ja_nil))))))))
theorem ok_closed (X : Tx P w K mg) : Callee (TB P w) P w K mg base 2 (He.ga K "closed") ["rule", "part"] f_closed [] := by
  obtain ⟨fd, FD⟩ := X.d_closed
  exact ⟨fd, [], fo_closed X FD, FD.kp, .nil, FD.bindsN fun _ _ _ _ _ _ us hl => match us, hl with | [_, _], _ => rfl⟩
theorem fo_part_begun (X : Tx P w K mg) {fd : FuncData} (FD : FunD K "part_begun" "part_begun" (defArgs s_part_begun) (defBody s_part_begun) (defScope s_part_begun) [] [] (He.ga K "part_begun") fd) : FnG P w K mg base (CX P w) 3 (He.ga K "part_begun") fd ["rule", "word", "tick", "part"] (spF (TB P w) K f_part_begun) := by
  refine fn_ok FD sc_part_begun (fun cdv A outer s H E hr => ?_)
  have tk := takes_of (X := cxOf (CX P w) P w K mg base ["rule", "word", "tick", "part", "low", "high", "done", "block"] "part_begun" (defScope s_part_begun) (He.ga K "part_begun") cdv A outer s H E) rfl rfl rfl rfl
  have hp := passes_of (X := cxOf (CX P w) P w K mg base ["rule", "word", "tick", "part", "low", "high", "done", "block"] "part_begun" (defScope s_part_begun) (He.ga K "part_begun") cdv A outer s H E) rfl
  exact (jss_cons (js_par 4 5 rfl sc_part_begun.nd (by decide) (ja_cons (jc_M (je_var 0) X.k_Rule X.m_Rule_down nf_Rule_down (ok_Rule_down X) (hr.mono (by decide)) Dfl.nil tk (ja_cons (je_var 2) ja_nil)) (ja_cons (jc_M (je_var 0) X.k_Rule X.m_Rule_up nf_Rule_up (ok_Rule_up X) (hr.mono (by decide)) Dfl.nil tk (ja_cons (je_op op_plus lift_plus (je_var 2) je_int) ja_nil)) ja_nil)))
 (jss_cons (js_asg (je_var 3) (jg_tup rfl (jgs_cons (jg_name 6 sc_part_begun.nd) (jgs_cons (jg_name 7 sc_part_begun.nd) jgs_nil))))
 (jss_cons (js_if (jt_w (jw_and (jt_notN (je_var 7)) (jw_one (jt_val (jc_M (je_var 0) X.k_Rule X.m_Rule_joins nf_Rule_joins (ok_Rule_joins X) (hr.mono (by decide)) Dfl.nil tk (ja_cons (je_var 1) (ja_cons (je_ixX rfl hr.units (je_var 7) je_int) (ja_cons (je_var 4) ja_nil))))))))
 (jss_one (js_ret (je_tup (ja_cons (je_var 6) (ja_cons (je_tup (ja_cons (je_ixX rfl hr.units (je_var 7) je_int) (ja_cons (je_callB (call_max2 rfl) lift_max2 X.n_max (ja_cons (je_callTy cr_intX lift_intX X.n_int (ja_cons (je_ixX rfl hr.units (je_var 7) je_int) ja_nil)) (ja_cons (je_callTy cr_intX lift_intX X.n_int (ja_cons (je_var 5) ja_nil)) ja_nil))) ja_nil))) ja_nil)))))
 jss_nil)
 (jss_one (js_ret (je_tup (ja_cons (jc_P (ok_closed X) (hr.mono (by decide)) X.g_closed Dfl.nil tk (ja_cons (je_var 0) (ja_cons (je_var 3) ja_nil))) (ja_cons (je_tup (ja_cons (je_var 4) (ja_cons (je_var 5) ja_nil))) ja_nil))))))))
theorem ok_part_begun (X : Tx P w K mg) : Callee (TB P w) P w K mg base 3 (He.ga K "part_begun") ["rule", "word", "tick", "part"] f_part_begun [] := by
  obtain ⟨fd, FD⟩ := X.d_part_begun
  exact ⟨fd, [], fo_part_begun X FD, FD.kp, .nil, FD.bindsN fun _ _ _ _ _ _ us hl => match us, hl with | [_, _, _, _], _ => rfl⟩
theorem fo_parts_behind (X : Tx P w K mg) {fd : FuncData} (FD : FunD K "parts_behind" "parts_behind" (defArgs s_parts_behind) (defBody s_parts_behind) (defScope s_parts_behind) [] [] (He.ga K "parts_behind") fd) : FnG P w K mg base (CX P w) 4 (He.ga K "parts_behind") fd ["rule", "tick", "parts", "going", "letter"] (spF (TB P w) K f_parts_behind) := by
  refine fn_ok FD sc_parts_behind (fun cdv A outer s H E hr => ?_)
  have tk := takes_of (X := cxOf (CX P w) P w K mg base ["rule", "tick", "parts", "going", "letter", "word", "later", "spot"] "parts_behind" (defScope s_parts_behind) (He.ga K "parts_behind") cdv A outer s H E) rfl rfl rfl rfl
  have hp := passes_of (X := cxOf (CX P w) P w K mg base ["rule", "tick", "parts", "going", "letter", "word", "later", "spot"] "parts_behind" (defScope s_parts_behind) (He.ga K "parts_behind") cdv A outer s H E) rfl
  exact (jss_cons (js_if (jt_cmp (op_eqD hr.units) lift_eqD (je_var 4) (je_str [102, 114, 101, 101]))
 (jss_one (js_ret (je_var 2)))
 jss_nil)
 (jss_cons (js_set 5 sc_parts_behind.nd (jc_M (je_var 0) X.k_Rule X.m_Rule_word_of nf_Rule_word_of (ok_Rule_word_of X) (hr.mono (by decide)) Dfl.nil tk (ja_cons (je_cmp (op_eqD hr.units) lift_eqD (je_if (jt_cmp (op_eqD hr.units) lift_eqD (je_var 4) (je_str [111, 110])) (je_var 3) (je_var 4)) (je_str [112, 114, 105, 118, 97, 116, 101])) ja_nil)))
 (jss_cons (js_if (jt_isN (je_var 5))
 (jss_one (js_ret (je_var 2)))
 jss_nil)
 (jss_cons (js_par 6 7 rfl sc_parts_behind.nd (by decide) (ja_cons (je_callTy call_list_of lift_list X.n_list (ja_cons (je_var 2) ja_nil)) (ja_cons (je_tidx X.g_WORDS X.c_WORDS X.x_WORDS (ja_cons (je_var 5) ja_nil)) ja_nil)))
 (jss_cons (js_if (jt_cmp (op_eqD hr.units) lift_eqD (je_var 4) (je_str [111, 110]))
 (jss_one (js_asg (jc_P (ok_part_grown X) (hr.mono (by decide)) X.g_part_grown Dfl.nil tk (ja_cons (je_var 0) (ja_cons (je_var 1) (ja_cons (je_ixX rfl hr.units (je_var 2) (je_var 7)) ja_nil)))) (jg_ixX rfl hr.units (je_var 6) (je_var 7))))
 (jss_one (js_asg (jc_P (ok_part_begun X) (hr.mono (by decide)) X.g_part_begun Dfl.nil tk (ja_cons (je_var 0) (ja_cons (je_var 5) (ja_cons (je_var 1) (ja_cons (je_ixX rfl hr.units (je_var 2) (je_var 7)) ja_nil))))) (jg_ixX rfl hr.units (je_var 6) (je_var 7)))))
 (jss_one (js_ret (je_callTy call_tuple_of lift_tuple X.n_tuple (ja_cons (je_var 6) ja_nil)))))))))
theorem ok_parts_behind (X : Tx P w K mg) : Callee (TB P w) P w K mg base 4 (He.ga K "parts_behind") ["rule", "tick", "parts", "going", "letter"] f_parts_behind [] := by
  obtain ⟨fd, FD⟩ := X.d_parts_behind
  exact ⟨fd, [], fo_parts_behind X FD, FD.kp, .nil, FD.bindsN fun _ _ _ _ _ _ us hl => match us, hl with | [_, _, _, _, _], _ => rfl⟩
theorem fo_put_away (X : Tx P w K mg) {fd : FuncData} (FD : FunD K "put_away" "put_away" (defArgs s_put_away) (defBody s_put_away) (defScope s_put_away) [] [] (He.ga K "put_away") fd) : FnG P w K mg base (CX P w) 3 (He.ga K "put_away") fd ["frame", "rule", "word", "low", "part"] (spF (TB P w) K f_put_away) := by
  refine fn_ok FD sc_put_away (fun cdv A outer s H E hr => ?_)
  have tk := takes_of (X := cxOf (CX P w) P w K mg base ["frame", "rule", "word", "low", "part", "done", "block", "begin", "end"] "put_away" (defScope s_put_away) (He.ga K "put_away") cdv A outer s H E) rfl rfl rfl rfl
  have hp := passes_of (X := cxOf (CX P w) P w K mg base ["frame", "rule", "word", "low", "part", "done", "block", "begin", "end"] "put_away" (defScope s_put_away) (He.ga K "put_away") cdv A outer s H E) rfl
  exact (jss_cons (js_asg (je_var 4) (jg_tup rfl (jgs_cons (jg_name 5 sc_put_away.nd) (jgs_cons (jg_name 6 sc_put_away.nd) jgs_nil))))
 (jss_cons (js_if (jt_isN (je_var 6))
 (jss_one (js_ret (je_var 4)))
 jss_nil)
 (jss_cons (js_asg (je_var 6) (jg_tup rfl (jgs_cons (jg_name 7 sc_put_away.nd) (jgs_cons (jg_name 8 sc_put_away.nd) jgs_nil))))
 (jss_cons (js_if (jt_w (jw_or (jt_cmp op_lt' lift_lt (je_op op_sub lift_sub (jc_M (je_var 1) X.k_Rule X.m_Rule_up nf_Rule_up (ok_Rule_up X) (hr.mono (by decide)) Dfl.nil tk (ja_cons (je_attr (je_var 0) (AttOk.cons rfl X.k_Day (AttOk.cons rfl X.k_Frame AttOk.nil))) ja_nil)) (je_var 7)) (je_attr (je_var 1) (AttOk.cons rfl X.k_Rule AttOk.nil))) (jw_one (jt_w (jw_and (jt_notN (je_attr (je_var 1) (AttOk.cons rfl X.k_Rule AttOk.nil))) (jw_one (jt_cmp op_ge' lift_ge (je_var 7) (je_ixX rfl hr.units (je_attr (je_var 1) (AttOk.cons rfl X.k_Rule AttOk.nil)) je_int))))))))
 (jss_one (js_ret (je_tup (ja_cons (je_var 5) (ja_cons je_non ja_nil)))))
 jss_nil)
 (jss_cons (js_if (jt_not (jt_val (jc_M (je_var 1) X.k_Rule X.m_Rule_joins nf_Rule_joins (ok_Rule_joins X) (hr.mono (by decide)) Dfl.nil tk (ja_cons (je_var 2) (ja_cons (je_var 8) (ja_cons (je_var 3) ja_nil))))))
 (jss_one (js_ret (je_tup (ja_cons (jc_P (ok_closed X) (hr.mono (by decide)) X.g_closed Dfl.nil tk (ja_cons (je_var 1) (ja_cons (je_var 4) ja_nil))) (ja_cons je_non ja_nil)))))
 jss_nil)
 (jss_cons (js_if (jt_w (jw_and (jt_notN (je_attr (je_var 1) (AttOk.cons rfl X.k_Rule AttOk.nil))) (jw_and (jt_cmp op_lt' lift_lt (je_var 7) (je_ixX rfl hr.units (je_attr (je_var 1) (AttOk.cons rfl X.k_Rule AttOk.nil)) je_int)) (jw_one (jt_cmp op_ge' lift_ge (je_op op_sub lift_sub (je_var 8) (je_var 7)) (je_attr (je_var 1) (AttOk.cons rfl X.k_Rule AttOk.nil)))))))
 (jss_one (js_set 7 sc_put_away.nd (je_callB (call_min2 rfl) lift_min2 X.n_min (ja_cons (je_callTy cr_intX lift_intX X.n_int (ja_cons (je_ixX rfl hr.units (je_attr (je_var 1) (AttOk.cons rfl X.k_Rule AttOk.nil)) je_int) ja_nil)) (ja_cons (je_callTy cr_intX lift_intX X.n_int (ja_cons (je_op op_sub lift_sub (je_var 8) (je_attr (je_var 1) (AttOk.cons rfl X.k_Rule AttOk.nil))) ja_nil)) ja_nil)))))
 jss_nil)
 (jss_one (js_ret (je_tup (ja_cons (je_var 5) (ja_cons (je_tup (ja_cons (je_var 7) (ja_cons (je_var 8) ja_nil))) ja_nil)))))))))))
theorem ok_put_away (X : Tx P w K mg) : Callee (TB P w) P w K mg base 3 (He.ga K "put_away") ["frame", "rule", "word", "low", "part"] f_put_away [] := by
  obtain ⟨fd, FD⟩ := X.d_put_away
  exact ⟨fd, [], fo_put_away X FD, FD.kp, .nil, FD.bindsN fun _ _ _ _ _ _ us hl => match us, hl with | [_, _, _, _, _], _ => rfl⟩
theorem fo_lightened_part (X : Tx P w K mg) {fd : FuncData} (FD : FunD K "lightened_part" "lightened_part" (defArgs s_lightened_part) (defBody s_lightened_part) (defScope s_lightened_part) [] [] (He.ga K "lightened_part") fd) : FnG P w K mg base (CX P w) 2 (He.ga K "lightened_part") fd ["rule", "word", "part", "low", "far"] (spF (TB P w) K f_lightened_part) := by
  refine fn_ok FD sc_lightened_part (fun cdv A outer s H E hr => ?_)
  have tk := takes_of (X := cxOf (CX P w) P w K mg base ["rule", "word", "part", "low", "far", "behind", "block", "begin", "end"] "lightened_part" (defScope s_lightened_part) (He.ga K "lightened_part") cdv A outer s H E) rfl rfl rfl rfl
  have hp := passes_of (X := cxOf (CX P w) P w K mg base ["rule", "word", "part", "low", "far", "behind", "block", "begin", "end"] "lightened_part" (defScope s_lightened_part) (He.ga K "lightened_part") cdv A outer s H E) rfl
  exact (jss_cons (js_asg (je_var 2) (jg_tup rfl (jgs_cons (jg_name 5 sc_lightened_part.nd) (jgs_cons (jg_name 6 sc_lightened_part.nd) jgs_nil))))
 (jss_cons (js_if (jt_w (jw_or (jt_isN (je_var 6)) (jw_one (jt_cmp op_lt' lift_lt (je_op op_sub lift_sub (jc_M (je_var 0) X.k_Rule X.m_Rule_up nf_Rule_up (ok_Rule_up X) (hr.mono (by decide)) Dfl.nil tk (ja_cons (je_var 4) ja_nil)) (je_ixX rfl hr.units (je_var 6) je_int)) (je_attr (je_var 0) (AttOk.cons rfl X.k_Rule AttOk.nil))))))
 (jss_one (js_ret (je_tup (ja_cons (je_var 5) (ja_cons je_non ja_nil)))))
 jss_nil)
 (jss_cons (js_if (jt_w (jw_and (jt_notN (je_attr (je_var 0) (AttOk.cons rfl X.k_Rule AttOk.nil))) (jw_one (jt_cmp op_ge' lift_ge (je_ixX rfl hr.units (je_var 6) je_int) (je_ixX rfl hr.units (je_attr (je_var 0) (AttOk.cons rfl X.k_Rule AttOk.nil)) je_int)))))
 (jss_one (js_ret (je_tup (ja_cons (je_var 5) (ja_cons je_non ja_nil)))))
 jss_nil)
 (jss_cons (js_if (jt_not (jt_val (jc_M (je_var 0) X.k_Rule X.m_Rule_joins nf_Rule_joins (ok_Rule_joins X) (hr.mono (by decide)) Dfl.nil tk (ja_cons (je_var 1) (ja_cons (je_ixX rfl hr.units (je_var 6) je_int) (ja_cons (je_var 3) ja_nil))))))
 (jss_one (js_ret (je_tup (ja_cons (je_if (jt_isN (jc_M (je_var 0) X.k_Rule X.m_Rule_shown nf_Rule_shown (ok_Rule_shown X) (hr.mono (by decide)) Dfl.nil tk (ja_cons (je_ixX rfl hr.units (je_var 6) je_int) (ja_cons (je_ixX rfl hr.units (je_var 6) je_int) ja_nil)))) (je_var 5) (je_op op_plus lift_plus (je_var 5) je_int)) (ja_cons je_non ja_nil)))))
 jss_nil)
 (jss_cons (js_asg (je_var 6) (jg_tup rfl (jgs_cons (jg_name 7 sc_lightened_part.nd) (jgs_cons (jg_name 8 sc_lightened_part.nd) jgs_nil))))
 (jss_cons (js_if (jt_w (jw_and (jt_notN (je_attr (je_var 0) (AttOk.cons rfl X.k_Rule AttOk.nil))) (jw_and (jt_cmp op_lt' lift_lt (je_var 7) (je_ixX rfl hr.units (je_attr (je_var 0) (AttOk.cons rfl X.k_Rule AttOk.nil)) je_int)) (jw_one (jt_cmp op_ge' lift_ge (je_op op_sub lift_sub (je_var 8) (je_var 7)) (je_attr (je_var 0) (AttOk.cons rfl X.k_Rule AttOk.nil)))))))
 (jss_one (js_set 7 sc_lightened_part.nd (je_callB (call_min2 rfl) lift_min2 X.n_min (ja_cons (je_callTy cr_intX lift_intX X.n_int (ja_cons (je_ixX rfl hr.units (je_attr (je_var 0) (AttOk.cons rfl X.k_Rule AttOk.nil)) je_int) ja_nil)) (ja_cons (je_callTy cr_intX lift_intX X.n_int (ja_cons (je_op op_sub lift_sub (je_var 8) (je_attr (je_var 0) (AttOk.cons rfl X.k_Rule AttOk.nil))) ja_nil)) ja_nil)))))
 jss_nil)
 (jss_one (js_ret (je_tup (ja_cons (je_var 5) (ja_cons (je_tup (ja_cons (je_var 7) (ja_cons (je_var 8) ja_nil))) ja_nil)))))))))))
theorem ok_lightened_part (X : Tx P w K mg) : Callee (TB P w) P w K mg base 2 (He.ga K "lightened_part") ["rule", "word", "part", "low", "far"] f_lightened_part [] := by
  obtain ⟨fd, FD⟩ := X.d_lightened_part
  exact ⟨fd, [], fo_lightened_part X FD, FD.kp, .nil, FD.bindsN fun _ _ _ _ _ _ us hl => match us, hl with | [_, _, _, _, _], _ => rfl⟩
theorem fo_lightened (X : Tx P w K mg) {fd : FuncData} (FD : FunD K "lightened" "lightened" (defArgs s_lightened) (defBody s_lightened) (defScope s_lightened) [] [] (He.ga K "lightened") fd) : FnG P w K mg base (CX P w) 3 (He.ga K "lightened") fd ["given", "tick", "far", "standing"] (spF (TB P w) K f_lightened) := by
  refine fn_ok FD sc_lightened (fun cdv A outer s H E hr => ?_)
  have tk := takes_of (X := cxOf (CX P w) P w K mg base ["given", "tick", "far", "standing", "making", "rule", "dues", "parts", "low", "later", "word", "part"] "lightened" (defScope s_lightened) (He.ga K "lightened") cdv A outer s H E) rfl rfl rfl rfl
  have hp := passes_of (X := cxOf (CX P w) P w K mg base ["given", "tick", "far", "standing", "making", "rule", "dues", "parts", "low", "later", "word", "part"] "lightened" (defScope s_lightened) (He.ga K "lightened") cdv A outer s H E) rfl
  exact (jss_cons (js_set 4 sc_lightened.nd (je_lst ja_nil))
 (jss_cons (js_for hp rfl (ji_zip2 X.n_zip (ja_cons (je_var 0) (ja_cons (je_ixX rfl hr.units (je_var 3) je_int) ja_nil))) (jg_tup rfl (jgs_cons (jg_tup rfl (jgs_cons (jg_name 5 sc_lightened.nd) (jgs_cons (jg_name 6 sc_lightened.nd) jgs_nil))) (jgs_cons (jg_name 7 sc_lightened.nd) jgs_nil)))
 (jss_cons (js_par 8 9 rfl sc_lightened.nd (by decide) (ja_cons (jc_M (je_var 5) X.k_Rule X.m_Rule_down nf_Rule_down (ok_Rule_down X) (hr.mono (by decide)) Dfl.nil tk (ja_cons (je_var 1) ja_nil)) (ja_cons (je_lst ja_nil) ja_nil)))
 (jss_cons (js_for hp rfl (ji_zip2 X.n_zip (ja_cons (je_gk X.c_WORDS) (ja_cons (je_var 7) ja_nil))) (jg_tup rfl (jgs_cons (jg_name 10 sc_lightened.nd) (jgs_cons (jg_name 11 sc_lightened.nd) jgs_nil)))
 (jss_one (js_expr (je_bm PySem.F.plainAttrs_list PySem.F.slot_list_append PySem.F.type_list_append mt_append lift_append (je_var 9) (ja_cons (jc_P (ok_lightened_part X) (hr.mono (by decide)) X.g_lightened_part Dfl.nil tk (ja_cons (je_var 5) (ja_cons (je_var 10) (ja_cons (je_var 11) (ja_cons (je_var 8) (ja_cons (je_var 2) ja_nil)))))) ja_nil)))))
 (jss_one (js_expr (je_bm PySem.F.plainAttrs_list PySem.F.slot_list_append PySem.F.type_list_append mt_append lift_append (je_var 4) (ja_cons (je_callTy call_tuple_of lift_tuple X.n_tuple (ja_cons (je_var 9) ja_nil)) ja_nil)))))))
 (jss_one (js_ret (je_tup (ja_star (je_slice (je_var 3) jo_none (jo_some je_int)) (ja_cons (je_callTy call_tuple_of lift_tuple X.n_tuple (ja_cons (je_var 4) ja_nil)) ja_nil)))))))
theorem ok_lightened (X : Tx P w K mg) : Callee (TB P w) P w K mg base 3 (He.ga K "lightened") ["given", "tick", "far", "standing"] f_lightened [] := by
  obtain ⟨fd, FD⟩ := X.d_lightened
  exact ⟨fd, [], fo_lightened X FD, FD.kp, .nil, FD.bindsN fun _ _ _ _ _ _ us hl => match us, hl with | [_, _, _, _], _ => rfl⟩
theorem fo_steps (X : Tx P w K mg) {fd : FuncData} (FD : FunD K "steps" "steps" (defArgs s_steps) (defBody s_steps) (defScope s_steps) [] [] (He.ga K "steps") fd) : FnG P w K mg base (CX P w) 6 (He.ga K "steps") fd ["frame", "given", "rules", "tick", "state"] (spF (TB P w) K f_steps) := by
  refine fn_ok FD sc_steps (fun cdv A outer s H E hr => ?_)
  have tk := takes_of (X := cxOf (CX P w) P w K mg base ["frame", "given", "rules", "tick", "state", "standing", "kept", "found", "letter", "there", "later", "rule", "parts", "grown", "low", "word", "part"] "steps" (defScope s_steps) (He.ga K "steps") cdv A outer s H E) rfl rfl rfl rfl
  have hp := passes_of (X := cxOf (CX P w) P w K mg base ["frame", "given", "rules", "tick", "state", "standing", "kept", "found", "letter", "there", "later", "rule", "parts", "grown", "low", "word", "part"] "steps" (defScope s_steps) (He.ga K "steps") cdv A outer s H E) rfl
  exact (jss_cons (js_asg (je_var 4) (jg_tup rfl (jgs_cons (jg_name 5 sc_steps.nd) (jgs_cons (jg_name 6 sc_steps.nd) jgs_nil))))
 (jss_cons (js_set 7 sc_steps.nd (je_lst ja_nil))
 (jss_cons (js_for hp rfl (ji_any (je_gk X.c_LETTERS)) (jg_name 8 sc_steps.nd)
 (jss_cons (js_set 9 sc_steps.nd (jc_P (ok_follow X) (hr.mono (by decide)) X.g_follow Dfl.nil tk (ja_cons (je_var 0) (ja_cons (je_var 1) (ja_cons (je_var 3) (ja_cons (je_var 5) (ja_cons (je_var 8) ja_nil)))))))
 (jss_one (js_if (jt_w (jw_and (jt_notN (je_var 9)) (jw_one (jt_val (jc_P (ok_is_hopeful X) (hr.mono (by decide)) X.g_is_hopeful Dfl.nil tk (ja_cons (je_var 1) (ja_cons (je_op op_plus lift_plus (je_var 3) je_int) (ja_cons (je_var 9) ja_nil))))))))
 (jss_cons (js_set 10 sc_steps.nd (je_lst ja_nil))
 (jss_cons (js_for hp rfl (ji_zip2 X.n_zip (ja_cons (je_var 2) (ja_cons (je_var 6) ja_nil))) (jg_tup rfl (jgs_cons (jg_name 11 sc_steps.nd) (jgs_cons (jg_name 12 sc_steps.nd) jgs_nil)))
 (jss_cons (js_asg (je_tup (ja_cons (jc_P (ok_parts_behind X) (hr.mono (by decide)) X.g_parts_behind Dfl.nil tk (ja_cons (je_var 11) (ja_cons (je_var 3) (ja_cons (je_var 12) (ja_cons (je_ixX rfl hr.units (je_var 5) je_int) (ja_cons (je_var 8) ja_nil)))))) (ja_cons (jc_M (je_var 11) X.k_Rule X.m_Rule_down nf_Rule_down (ok_Rule_down X) (hr.mono (by decide)) Dfl.nil tk (ja_cons (je_op op_plus lift_plus (je_var 3) je_int) ja_nil)) ja_nil))) (jg_tup rfl (jgs_cons (jg_name 13 sc_steps.nd) (jgs_cons (jg_name 14 sc_steps.nd) jgs_nil))))
 (jss_one (js_expr (je_bm PySem.F.plainAttrs_list PySem.F.slot_list_append PySem.F.type_list_append mt_append lift_append (je_var 10) (ja_cons (je_callTy call_tuple_of lift_tuple X.n_tuple (ja_cons (je_lcF [("word", 15), ("part", 16)] rfl sc_steps.nd (ji_zip2 X.n_zip (ja_cons (je_gk X.c_WORDS) (ja_cons (je_var 13) ja_nil))) (blkOk_by (N := ["frame", "given", "rules", "tick", "state", "standing", "kept", "found", "letter", "there", "later", "rule", "parts", "grown", "low", "word", "part"]) (sc := defScope s_steps) (by decide +kernel)) (by decide) (fun _ _ _ _ _ => (jgw_tup rfl (jgsw_cons (jgw_name 15 sc_steps.nd) (jgsw_cons (jgw_name 16 sc_steps.nd) jgsw_nil)))) (fun _ _ _ _ _ => jts_nil) (fun _ _ _ _ _ => (jc_P (ok_put_away X) (hr.mono (by decide)) X.g_put_away Dfl.nil takesNo (ja_cons (je_var 0) (ja_cons (je_var 11) (ja_cons (je_var 15) (ja_cons (je_var 14) (ja_cons (je_var 16) ja_nil)))))))) ja_nil)) ja_nil))))))
 (jss_one (js_expr (je_bm PySem.F.plainAttrs_list PySem.F.slot_list_append PySem.F.type_list_append mt_append lift_append (je_var 7) (ja_cons (je_tup (ja_cons (je_var 8) (ja_cons (je_tup (ja_cons (jc_P (ok_lightened X) (hr.mono (by decide)) X.g_lightened Dfl.nil tk (ja_cons (je_var 1) (ja_cons (je_op op_plus lift_plus (je_var 3) je_int) (ja_cons (je_attr (je_var 0) (AttOk.cons rfl X.k_Day (AttOk.cons rfl X.k_Frame AttOk.nil))) (ja_cons (je_var 9) ja_nil))))) (ja_cons (je_callTy call_tuple_of lift_tuple X.n_tuple (ja_cons (je_var 10) ja_nil)) ja_nil))) ja_nil))) ja_nil))))))
 jss_nil))))
 (jss_one (js_ret (je_var 7))))))
theorem ok_steps (X : Tx P w K mg) : Callee (TB P w) P w K mg base 6 (He.ga K "steps") ["frame", "given", "rules", "tick", "state"] f_steps [] := by
  obtain ⟨fd, FD⟩ := X.d_steps
  exact ⟨fd, [], fo_steps X FD, FD.kp, .nil, FD.bindsN fun _ _ _ _ _ _ us hl => match us, hl with | [_, _, _, _, _], _ => rfl⟩
theorem fo_is_closing (X : Tx P w K mg) {fd : FuncData} (FD : FunD K "is_closing" "is_closing" (defArgs s_is_closing) (defBody s_is_closing) (defScope s_is_closing) [] [] (He.ga K "is_closing") fd) : FnG P w K mg base (CX P w) 3 (He.ga K "is_closing") fd ["frame", "given", "standing"] (spF (TB P w) K f_is_closing) := by
  refine fn_ok FD sc_is_closing (fun cdv A outer s H E hr => ?_)
  have tk := takes_of (X := cxOf (CX P w) P w K mg base ["frame", "given", "standing", "going", "run", "many", "making", "rule", "dues", "parts", "due", "part"] "is_closing" (defScope s_is_closing) (He.ga K "is_closing") cdv A outer s H E) rfl rfl rfl rfl
  have hp := passes_of (X := cxOf (CX P w) P w K mg base ["frame", "given", "standing", "going", "run", "many", "making", "rule", "dues", "parts", "due", "part"] "is_closing" (defScope s_is_closing) (He.ga K "is_closing") cdv A outer s H E) rfl
  exact (jss_cons (js_asg (je_var 2) (jg_tup rfl (jgs_cons (jg_name 3 sc_is_closing.nd) (jgs_cons (jg_name 4 sc_is_closing.nd) (jgs_cons (jg_name 5 sc_is_closing.nd) (jgs_cons (jg_name 6 sc_is_closing.nd) jgs_nil))))))
 (jss_cons (js_if (jt_w (jw_and (jt_cmp (op_neD hr.units) lift_neD (je_var 3) (je_str [])) (jw_one (jt_cmp op_lt' lift_lt (je_var 4) (je_attr (je_var 0) (AttOk.cons rfl X.k_Frame AttOk.nil))))))
 (jss_one (js_ret je_bl))
 jss_nil)
 (jss_cons (js_for hp rfl (ji_zip2 X.n_zip (ja_cons (je_var 1) (ja_cons (je_var 6) ja_nil))) (jg_tup rfl (jgs_cons (jg_tup rfl (jgs_cons (jg_name 7 sc_is_closing.nd) (jgs_cons (jg_name 8 sc_is_closing.nd) jgs_nil))) (jgs_cons (jg_name 9 sc_is_closing.nd) jgs_nil)))
 (jss_one (js_for hp rfl (ji_zip2 X.n_zip (ja_cons (je_var 8) (ja_cons (je_var 9) ja_nil))) (jg_tup rfl (jgs_cons (jg_name 10 sc_is_closing.nd) (jgs_cons (jg_name 11 sc_is_closing.nd) jgs_nil)))
 (jss_one (js_if (jt_cmp (op_neD hr.units) lift_neD (jc_P (ok_settled X) (hr.mono (by decide)) X.g_settled Dfl.nil tk (ja_cons (je_var 7) (ja_cons (je_var 10) (ja_cons (je_var 11) ja_nil)))) (je_callB call_lenX lift_lenX X.n_len (ja_cons (je_var 10) ja_nil)))
 (jss_one (js_ret je_bl))
 jss_nil)))))
 (jss_one (js_ret je_bl)))))
theorem ok_is_closing (X : Tx P w K mg) : Callee (TB P w) P w K mg base 3 (He.ga K "is_closing") ["frame", "given", "standing"] f_is_closing [] := by
  obtain ⟨fd, FD⟩ := X.d_is_closing
  exact ⟨fd, [], fo_is_closing X FD, FD.kp, .nil, FD.bindsN fun _ _ _ _ _ _ us hl => match us, hl with | [_, _, _], _ => rfl⟩
theorem fo_view_of (X : Tx P w K mg) {fd : FuncData} (FD : FunD K "view_of" "view_of" (defArgs s_view_of) (defBody s_view_of) (defScope s_view_of) [] [] (He.ga K "view_of") fd) : FnG P w K mg base (CX P w) 3 (He.ga K "view_of") fd ["rule", "parts"] (spF (TB P w) K f_view_of) := by
  refine fn_ok FD sc_view_of (fun cdv A outer s H E hr => ?_)
  have tk := takes_of (X := cxOf (CX P w) P w K mg base ["rule", "parts", "found", "word", "part", "begin", "end"] "view_of" (defScope s_view_of) (He.ga K "view_of") cdv A outer s H E) rfl rfl rfl rfl
  have hp := passes_of (X := cxOf (CX P w) P w K mg base ["rule", "parts", "found", "word", "part", "begin", "end"] "view_of" (defScope s_view_of) (He.ga K "view_of") cdv A outer s H E) rfl
  exact (jss_cons (js_set 2 sc_view_of.nd (je_lst ja_nil))
 (jss_cons (js_for hp rfl (ji_zip2 X.n_zip (ja_cons (je_gk X.c_WORDS) (ja_cons (je_var 1) ja_nil))) (jg_tup rfl (jgs_cons (jg_name 3 sc_view_of.nd) (jgs_cons (jg_name 4 sc_view_of.nd) jgs_nil)))
 (jss_one (js_expr (je_bm PySem.F.plainAttrs_list PySem.F.slot_list_extend PySem.F.type_list_extend (L2.MtR.or mt_extend mt_extT) lift_extendX (je_var 2) (ja_cons (je_lc [("begin", 5), ("end", 6)] rfl sc_view_of.nd (ji_any (jc_P (ok_closed X) (hr.mono (by decide)) X.g_closed Dfl.nil tk (ja_cons (je_var 0) (ja_cons (je_var 4) ja_nil)))) (blkOk_by (N := ["rule", "parts", "found", "word", "part", "begin", "end"]) (sc := defScope s_view_of) (by decide +kernel)) (by decide) (fun _ _ _ _ _ => (jgw_tup rfl (jgsw_cons (jgw_name 5 sc_view_of.nd) (jgsw_cons (jgw_name 6 sc_view_of.nd) jgsw_nil)))) (fun _ _ _ _ _ => jts_nil) (fun _ _ _ _ _ => (je_tup (ja_cons (je_var 5) (ja_cons (je_var 6) (ja_cons (je_var 3) ja_nil)))))) ja_nil)))))
 (jss_one (js_ret (je_callTy call_tuple_of lift_tuple X.n_tuple (ja_cons (je_callB (cr_sortD hr.units) lift_sortD X.n_sorted (ja_cons (je_var 2) ja_nil)) ja_nil))))))
theorem ok_view_of (X : Tx P w K mg) : Callee (TB P w) P w K mg base 3 (He.ga K "view_of") ["rule", "parts"] f_view_of [] := by
  obtain ⟨fd, FD⟩ := X.d_view_of
  exact ⟨fd, [], fo_view_of X FD, FD.kp, .nil, FD.bindsN fun _ _ _ _ _ _ us hl => match us, hl with | [_, _], _ => rfl⟩
theorem fo_table (X : Tx P w K mg) {fd : FuncData} (FD : FunD K "table" "table" (defArgs s_table) (defBody s_table) (defScope s_table) [] [] (He.ga K "table") fd) : FnG P w K mg base (CX P w) 8 (He.ga K "table") fd ["frame", "looks", "rules"] (spF (TB P w) K f_table) := by
  refine fn_ok FD sc_table (fun cdv A outer s H E hr => ?_)
  have tk := takes_of (X := cxOf (CX P w) P w K mg base ["frame", "looks", "rules", "given", "first", "here", "tick", "later", "state", "many", "letters", "letter", "there", "known", "found", "standing", "kept", "seen", "rule", "parts"] "table" (defScope s_table) (He.ga K "table") cdv A outer s H E) rfl rfl rfl rfl
  have hp := passes_of (X := cxOf (CX P w) P w K mg base ["frame", "looks", "rules", "given", "first", "here", "tick", "later", "state", "many", "letters", "letter", "there", "known", "found", "standing", "kept", "seen", "rule", "parts"] "table" (defScope s_table) (He.ga K "table") cdv A outer s H E) rfl
  exact (jss_cons (js_set 3 sc_table.nd (jc_P (ok_prepared X) (hr.mono (by decide)) X.g_prepared Dfl.nil tk (ja_cons (je_var 1) ja_nil)))
 (jss_cons (js_set 4 sc_table.nd (je_tup (ja_cons (jc_P (ok_begun X) (hr.mono (by decide)) X.g_begun Dfl.nil tk (ja_cons (je_var 0) (ja_cons (je_var 1) ja_nil))) (ja_cons (je_callTy call_tuple_of lift_tuple X.n_tuple (ja_cons (je_lcF [("rule", 18)] rfl sc_table.nd (ji_any (je_var 2)) (blkOk_by (N := ["frame", "looks", "rules", "given", "first", "here", "tick", "later", "state", "many", "letters", "letter", "there", "known", "found", "standing", "kept", "seen", "rule", "parts"]) (sc := defScope s_table) (by decide +kernel)) (by decide) (fun _ _ _ _ _ => (jgw_name 18 sc_table.nd)) (fun _ _ _ _ _ => jts_nil) (fun _ _ _ _ _ => (je_tup (ja_cons (je_tup (ja_cons (je_tup ja_nil) (ja_cons je_non ja_nil))) (ja_cons (je_tup (ja_cons (je_tup ja_nil) (ja_cons je_non ja_nil))) ja_nil))))) ja_nil)) ja_nil))))
 (jss_cons (js_set 5 sc_table.nd (je_disp rfl hr.units (jp_cons (je_var 4) (je_tup (ja_cons je_int (ja_cons (je_tup ja_nil) ja_nil))) jp_nil)))
 (jss_cons (js_for hp rfl (ji_range1 rfl X.n_range (ja_cons (je_attr (je_var 0) (AttOk.cons rfl X.k_Day (AttOk.cons rfl X.k_Frame AttOk.nil))) ja_nil)) (jg_name 6 sc_table.nd)
 (jss_cons (js_set 7 sc_table.nd je_dct0)
 (jss_cons (js_for hp rfl (ji_ditems (je_var 5)) (jg_tup rfl (jgs_cons (jg_name 8 sc_table.nd) (jgs_cons (jg_tup rfl (jgs_cons (jg_name 9 sc_table.nd) (jgs_cons (jg_name 10 sc_table.nd) jgs_nil))) jgs_nil)))
 (jss_one (js_for hp rfl (ji_any (jc_P (ok_steps X) (hr.mono (by decide)) X.g_steps Dfl.nil tk (ja_cons (je_var 0) (ja_cons (je_var 3) (ja_cons (je_var 2) (ja_cons (je_var 6) (ja_cons (je_var 8) ja_nil))))))) (jg_tup rfl (jgs_cons (jg_name 11 sc_table.nd) (jgs_cons (jg_name 12 sc_table.nd) jgs_nil)))
 (jss_cons (js_set 13 sc_table.nd (je_dget2 rfl hr.units (je_var 7) (je_var 12) (je_tup (ja_cons je_int (ja_cons (je_tup (ja_star (je_var 10) (ja_cons (je_var 11) ja_nil))) ja_nil)))))
 (jss_one (js_asg (je_tup (ja_cons (je_op op_plus lift_plus (je_ixX rfl hr.units (je_var 13) je_int) (je_var 9)) (ja_cons (je_ixX rfl hr.units (je_var 13) je_int) ja_nil))) (jg_ixX rfl hr.units (je_var 7) (je_var 12))))))))
 (jss_one (js_set 5 sc_table.nd (je_var 7))))))
 (jss_cons (js_set 14 sc_table.nd je_dct0)
 (jss_cons (js_for hp rfl (ji_ditems (je_var 5)) (jg_tup rfl (jgs_cons (jg_tup rfl (jgs_cons (jg_name 15 sc_table.nd) (jgs_cons (jg_name 16 sc_table.nd) jgs_nil))) (jgs_cons (jg_tup rfl (jgs_cons (jg_name 9 sc_table.nd) (jgs_cons (jg_name 10 sc_table.nd) jgs_nil))) jgs_nil)))
 (jss_one (js_if (jt_val (jc_P (ok_is_closing X) (hr.mono (by decide)) X.g_is_closing Dfl.nil tk (ja_cons (je_var 0) (ja_cons (je_var 3) (ja_cons (je_var 15) ja_nil)))))
 (jss_cons (js_set 17 sc_table.nd (je_callTy call_tuple_of lift_tuple X.n_tuple (ja_cons (je_lcF [("rule", 18), ("parts", 19)] rfl sc_table.nd (ji_zip2 X.n_zip (ja_cons (je_var 2) (ja_cons (je_var 16) ja_nil))) (blkOk_by (N := ["frame", "looks", "rules", "given", "first", "here", "tick", "later", "state", "many", "letters", "letter", "there", "known", "found", "standing", "kept", "seen", "rule", "parts"]) (sc := defScope s_table) (by decide +kernel)) (by decide) (fun _ _ _ _ _ => (jgw_tup rfl (jgsw_cons (jgw_name 18 sc_table.nd) (jgsw_cons (jgw_name 19 sc_table.nd) jgsw_nil)))) (fun _ _ _ _ _ => jts_nil) (fun _ _ _ _ _ => (jc_P (ok_view_of X) (hr.mono (by decide)) X.g_view_of Dfl.nil takesNo (ja_cons (je_var 18) (ja_cons (je_var 19) ja_nil))))) ja_nil)))
 (jss_cons (js_set 13 sc_table.nd (je_dget2 rfl hr.units (je_var 14) (je_var 17) (je_tup (ja_cons je_int (ja_cons (je_var 10) ja_nil)))))
 (jss_one (js_asg (je_tup (ja_cons (je_op op_plus lift_plus (je_ixX rfl hr.units (je_var 13) je_int) (je_var 9)) (ja_cons (je_ixX rfl hr.units (je_var 13) je_int) ja_nil))) (jg_ixX rfl hr.units (je_var 14) (je_var 17))))))
 jss_nil)))
 (jss_one (js_ret (je_var 14)))))))))
theorem ok_table (X : Tx P w K mg) : Callee (TB P w) P w K mg base 8 (He.ga K "table") ["frame", "looks", "rules"] f_table [] := by
  obtain ⟨fd, FD⟩ := X.d_table
  exact ⟨fd, [], fo_table X FD, FD.kp, .nil, FD.bindsN fun _ _ _ _ _ _ us hl => match us, hl with | [_, _, _], _ => rfl⟩
theorem fo_is_meeting (X : Tx P w K mg) {fd : FuncData} (FD : FunD K "is_meeting" "is_meeting" (defArgs s_is_meeting) (defBody s_is_meeting) (defScope s_is_meeting) [] [] (He.ga K "is_meeting") fd) : FnG P w K mg base (CX P w) 3 (He.ga K "is_meeting") fd ["value"] (spF (TB P w) K f_is_meeting) := by
  refine fn_ok FD sc_is_meeting (fun cdv A outer s H E hr => ?_)
  have tk := takes_of (X := cxOf (CX P w) P w K mg base ["value", "begin", "end", "is_private"] "is_meeting" (defScope s_is_meeting) (He.ga K "is_meeting") cdv A outer s H E) rfl rfl rfl rfl
  have hp := passes_of (X := cxOf (CX P w) P w K mg base ["value", "begin", "end", "is_private"] "is_meeting" (defScope s_is_meeting) (He.ga K "is_meeting") cdv A outer s H E) rfl
  exact (jss_cons (js_if (jt_w (jw_or (jt_not (jt_val (je_isi .tuple (je_var 0) X.n_isinstance X.n_tuple))) (jw_one (jt_cmp (op_neD hr.units) lift_neD (je_callB call_lenX lift_lenX X.n_len (ja_cons (je_var 0) ja_nil)) je_int))))
 (jss_one (js_ret je_bl))
 jss_nil)
 (jss_cons (js_asg (je_var 0) (jg_tup rfl (jgs_cons (jg_name 1 sc_is_meeting.nd) (jgs_cons (jg_name 2 sc_is_meeting.nd) (jgs_cons (jg_name 3 sc_is_meeting.nd) jgs_nil)))))
 (jss_one (js_ret (je_and (jc_P (ok_is_number X) (hr.mono (by decide)) X.g_is_number Dfl.nil tk (ja_cons (je_var 1) ja_nil)) (je_and (jc_P (ok_is_number X) (hr.mono (by decide)) X.g_is_number Dfl.nil tk (ja_cons (je_var 2) ja_nil)) (je_and (jc_P (ok_is_bool X) (hr.mono (by decide)) X.g_is_bool Dfl.nil tk (ja_cons (je_var 3) ja_nil)) (je_one (je_cmp op_lt' lift_lt (je_var 1) (je_var 2))))))))))
theorem ok_is_meeting (X : Tx P w K mg) : Callee (TB P w) P w K mg base 3 (He.ga K "is_meeting") ["value"] f_is_meeting [] := by
  obtain ⟨fd, FD⟩ := X.d_is_meeting
  exact ⟨fd, [], fo_is_meeting X FD, FD.kp, .nil, FD.bindsN fun _ _ _ _ _ _ us hl => match us, hl with | [_], _ => rfl⟩
theorem fo_are_meetings (X : Tx P w K mg) {fd : FuncData} (FD : FunD K "are_meetings" "are_meetings" (defArgs s_are_meetings) (defBody s_are_meetings) (defScope s_are_meetings) [] [] (He.ga K "are_meetings") fd) : FnG P w K mg base (CX P w) 4 (He.ga K "are_meetings") fd ["length", "value"] (spF (TB P w) K f_are_meetings) := by
  refine fn_ok FD sc_are_meetings (fun cdv A outer s H E hr => ?_)
  have tk := takes_of (X := cxOf (CX P w) P w K mg base ["length", "value", "last", "begin", "end", "is_private", "meeting"] "are_meetings" (defScope s_are_meetings) (He.ga K "are_meetings") cdv A outer s H E) rfl rfl rfl rfl
  have hp := passes_of (X := cxOf (CX P w) P w K mg base ["length", "value", "last", "begin", "end", "is_private", "meeting"] "are_meetings" (defScope s_are_meetings) (He.ga K "are_meetings") cdv A outer s H E) rfl
  exact (jss_cons (js_if (jt_w (jw_or (jt_not (jt_val (jc_P (ok_is_sequence X) (hr.mono (by decide)) X.g_is_sequence Dfl.nil tk (ja_cons (je_var 1) ja_nil)))) (jw_one (jt_not (jt_val (je_callB (cr_all rfl) lift_all X.n_all (ja_cons (je_lcF [("meeting", 6)] rfl sc_are_meetings.nd (ji_any (je_var 1)) (blkOk_by (N := ["length", "value", "last", "begin", "end", "is_private", "meeting"]) (sc := defScope s_are_meetings) (by decide +kernel)) (by decide) (fun _ _ _ _ _ => (jgw_name 6 sc_are_meetings.nd)) (fun _ _ _ _ _ => jts_nil) (fun _ _ _ _ _ => (jc_P (ok_is_meeting X) (hr.mono (by decide)) X.g_is_meeting Dfl.nil takesNo (ja_cons (je_var 6) ja_nil)))) ja_nil)))))))
 (jss_one (js_ret je_bl))
 jss_nil)
 (jss_cons (js_set 2 sc_are_meetings.nd je_int)
 (jss_cons (js_for hp rfl (ji_any (je_var 1)) (jg_tup rfl (jgs_cons (jg_name 3 sc_are_meetings.nd) (jgs_cons (jg_name 4 sc_are_meetings.nd) (jgs_cons (jg_name 5 sc_are_meetings.nd) jgs_nil))))
 (jss_cons (js_if (jt_w (jw_or (jt_cmp op_lt' lift_lt (je_var 3) (je_var 2)) (jw_one (jt_cmp op_gt' lift_gt (je_var 4) (je_var 0)))))
 (jss_one (js_ret je_bl))
 jss_nil)
 (jss_one (js_set 2 sc_are_meetings.nd (je_var 4)))))
 (jss_one (js_ret je_bl)))))
theorem ok_are_meetings (X : Tx P w K mg) : Callee (TB P w) P w K mg base 4 (He.ga K "are_meetings") ["length", "value"] f_are_meetings [] := by
  obtain ⟨fd, FD⟩ := X.d_are_meetings
  exact ⟨fd, [], fo_are_meetings X FD, FD.kp, .nil, FD.bindsN fun _ _ _ _ _ _ us hl => match us, hl with | [_, _], _ => rfl⟩
theorem fo_Day_init (X : Tx P w K mg) {fd : FuncData} (FD : FunD K "__init__" "Day.__init__" (defArgs s_Day_init) (defBody s_Day_init) (defScope s_Day_init) [He.Dv.v K (.adr (He.dflAt ("Day", some "__init__") 0))] [] (He.ma K (He.ga K "Day") "__init__") fd) : FnG P w K mg base (CX P w) 5 (He.ma K (He.ga K "Day") "__init__") fd ["self", "length", "meetings"] (spF (TB P w) K f_Day_init) := by
  refine fn_ok FD sc_Day_init (fun cdv A outer s H E hr => ?_)
  have tk := takes_of (X := cxOf (CX P w) P w K mg base ["self", "length", "meetings"] "Day.__init__" (defScope s_Day_init) (He.ma K (He.ga K "Day") "__init__") cdv A outer s H E) rfl rfl rfl rfl
  have hp := passes_of (X := cxOf (CX P w) P w K mg base ["self", "length", "meetings"] "Day.__init__" (defScope s_Day_init) (He.ma K (He.ga K "Day") "__init__") cdv A outer s H E) rfl
  exact (jss_cons (js_if (jt_w (jw_or (jt_not (jt_val (jc_P (ok_is_integer X) (hr.mono (by decide)) X.g_is_integer Dfl.nil tk (ja_cons (je_var 1) ja_nil)))) (jw_one (jt_cmp op_lt' lift_lt (je_var 1) je_int))))
 (jss_one js_never)
 jss_nil)
 (jss_cons (js_if (jt_not (jt_val (jc_P (ok_are_meetings X) (hr.mono (by decide)) X.g_are_meetings Dfl.nil tk (ja_cons (je_var 1) (ja_cons (je_var 2) ja_nil)))))
 (jss_one js_never)
 jss_nil)
 (jss_cons (js_setattr (AttOk.cons rfl X.k_Day (AttOk.cons rfl X.k_Frame AttOk.nil)) (je_var 1) (je_var 0))
 (jss_one (js_setattr (AttOk.cons rfl X.k_Day AttOk.nil) (je_callTy call_tuple_of lift_tuple X.n_tuple (ja_cons (je_var 2) ja_nil)) (je_var 0))))))
theorem ok_Day_init (X : Tx P w K mg) : Callee (TB P w) P w K mg base 5 (He.ma K (He.ga K "Day") "__init__") ["self", "length", "meetings"] f_Day_init [] := by
  obtain ⟨fd, FD⟩ := X.d_Day_init
  obtain ⟨ds, hv, hb⟩ := FD.binds1 (ps := ["self", "length", "meetings"]) 3 1 (by simp) rfl (fun _ _ _ _ _ _ _ us its h1 h2 => match us, its, h1, h2 with | [_, _, _], [_], _, _ => ⟨_, rfl, rfl⟩)
  exact ⟨fd, ds, fo_Day_init X FD, FD.kp, hv, hb⟩
theorem nr_Day_init : ∀ as h v h', f_Day_init h as = .ok v h' → v = .non := fnOf_non (nr_seq (nr_if nr_bad nr_skip) (nr_seq (nr_if nr_bad nr_skip) (nr_seq nr_att nr_att)))
theorem fo_day_of (X : Tx P w K mg) {fd : FuncData} (FD : FunD K "day_of" "day_of" (defArgs s_day_of) (defBody s_day_of) (defScope s_day_of) [] [] (He.ga K "day_of") fd) : FnG P w K mg base (CX P w) 7 (He.ga K "day_of") fd ["letters"] (spF (TB P w) K f_day_of) := by
  refine fn_ok FD sc_day_of (fun cdv A outer s H E hr => ?_)
  have tk := takes_of (X := cxOf (CX P w) P w K mg base ["letters", "found", "begin", "sort", "tick", "letter"] "day_of" (defScope s_day_of) (He.ga K "day_of") cdv A outer s H E) rfl rfl rfl rfl
  have hp := passes_of (X := cxOf (CX P w) P w K mg base ["letters", "found", "begin", "sort", "tick", "letter"] "day_of" (defScope s_day_of) (He.ga K "day_of") cdv A outer s H E) rfl
  exact (jss_cons (js_par3 1 2 3 rfl sc_day_of.nd (by decide) (by decide) (by decide) (ja_cons (je_lst ja_nil) (ja_cons je_non (ja_cons (je_str []) ja_nil))))
 (jss_cons (js_for hp rfl (ji_enum X.n_enumerate (ja_cons (je_lstF (ja_star (je_var 0) (ja_cons (je_str [102, 114, 101, 101]) ja_nil))) ja_nil)) (jg_tup rfl (jgs_cons (jg_name 4 sc_day_of.nd) (jgs_cons (jg_name 5 sc_day_of.nd) jgs_nil)))
 (jss_one (js_if (jt_cmp (op_neD hr.units) lift_neD (je_var 5) (je_str [111, 110]))
 (jss_cons (js_if (jt_notN (je_var 2))
 (jss_one (js_expr (je_bm PySem.F.plainAttrs_list PySem.F.slot_list_append PySem.F.type_list_append mt_append lift_append (je_var 1) (ja_cons (je_tup (ja_cons (je_var 2) (ja_cons (je_var 4) (ja_cons (je_cmp (op_eqD hr.units) lift_eqD (je_var 3) (je_str [112, 114, 105, 118, 97, 116, 101])) ja_nil)))) ja_nil))))
 jss_nil)
 (jss_one (js_asg (je_if (jt_cmp (op_eqD hr.units) lift_eqD (je_var 5) (je_str [102, 114, 101, 101])) (je_tup (ja_cons je_non (ja_cons (je_str []) ja_nil))) (je_tup (ja_cons (je_var 4) (ja_cons (je_var 5) ja_nil)))) (jg_tup rfl (jgs_cons (jg_name 2 sc_day_of.nd) (jgs_cons (jg_name 3 sc_day_of.nd) jgs_nil))))))
 jss_nil)))
 (jss_one (js_ret (jc_K nr_Day_init X.mk_Day (ok_Day_init X) (hr.mono (by decide)) X.g_Day Dfl.nil tk (ja_cons (je_callB call_lenX lift_lenX X.n_len (ja_cons (je_var 0) ja_nil)) (ja_cons (je_var 1) ja_nil)))))))
theorem ok_day_of (X : Tx P w K mg) : Callee (TB P w) P w K mg base 7 (He.ga K "day_of") ["letters"] f_day_of [] := by
  obtain ⟨fd, FD⟩ := X.d_day_of
  exact ⟨fd, [], fo_day_of X FD, FD.kp, .nil, FD.bindsN fun _ _ _ _ _ _ us hl => match us, hl with | [_], _ => rfl⟩
theorem fo_parting (X : Tx P w K mg) {fd : FuncData} (FD : FunD K "parting" "parting" (defArgs s_parting) (defBody s_parting) (defScope s_parting) [] [] (He.ga K "parting") fd) : FnG P w K mg base (CX P w) 9 (He.ga K "parting") fd ["frame", "p", "q"] (spF (TB P w) K f_parting) := by
  refine fn_ok FD sc_parting (fun cdv A outer s H E hr => ?_)
  have tk := takes_of (X := cxOf (CX P w) P w K mg base ["frame", "p", "q", "known", "one", "other", "many", "letters"] "parting" (defScope s_parting) (He.ga K "parting") cdv A outer s H E) rfl rfl rfl rfl
  have hp := passes_of (X := cxOf (CX P w) P w K mg base ["frame", "p", "q", "known", "one", "other", "many", "letters"] "parting" (defScope s_parting) (He.ga K "parting") cdv A outer s H E) rfl
  exact (jss_cons (js_set 3 sc_parting.nd je_dct0)
 (jss_cons (js_for hp rfl (ji_ditems (jc_P (ok_table X) (hr.mono (by decide)) X.g_table Dfl.nil tk (ja_cons (je_var 0) (ja_cons (je_tup ja_nil) (ja_cons (je_tup (ja_cons (je_var 1) (ja_cons (je_var 2) ja_nil))) ja_nil))))) (jg_tup rfl (jgs_cons (jg_tup rfl (jgs_cons (jg_name 4 sc_parting.nd) (jgs_cons (jg_name 5 sc_parting.nd) jgs_nil))) (jgs_cons (jg_tup rfl (jgs_cons (jg_name 6 sc_parting.nd) (jgs_cons (jg_name 7 sc_parting.nd) jgs_nil))) jgs_nil)))
 (jss_cons (js_if (jt_w (jw_and (jt_cmp (op_inY hr) (lift_inY rfl) (je_var 4) (je_var 3)) (jw_one (jt_cmp (op_neD hr.units) lift_neD (je_ixX rfl hr.units (je_ixX rfl hr.units (je_var 3) (je_var 4)) je_int) (je_var 5)))))
 (jss_one (js_ret (je_tup (ja_cons (jc_P (ok_day_of X) (hr.mono (by decide)) X.g_day_of Dfl.nil tk (ja_cons (je_ixX rfl hr.units (je_ixX rfl hr.units (je_var 3) (je_var 4)) je_int) ja_nil)) (ja_cons (jc_P (ok_day_of X) (hr.mono (by decide)) X.g_day_of Dfl.nil tk (ja_cons (je_var 7) ja_nil)) ja_nil)))))
 jss_nil)
 (jss_one (js_asg (je_tup (ja_cons (je_var 5) (ja_cons (je_var 7) ja_nil))) (jg_ixX rfl hr.units (je_var 3) (je_var 4))))))
 (jss_one (js_ret je_non))))
theorem ok_parting (X : Tx P w K mg) : Callee (TB P w) P w K mg base 9 (He.ga K "parting") ["frame", "p", "q"] f_parting [] := by
  obtain ⟨fd, FD⟩ := X.d_parting
  exact ⟨fd, [], fo_parting X FD, FD.kp, .nil, FD.bindsN fun _ _ _ _ _ _ us hl => match us, hl with | [_, _, _], _ => rfl⟩
theorem fo_finer (X : Tx P w K mg) {fd : FuncData} (FD : FunD K "finer" "finer" (defArgs s_finer) (defBody s_finer) (defScope s_finer) [] [] (He.ga K "finer") fd) : FnG P w K mg base (CX P w) 10 (He.ga K "finer") fd ["frame", "p", "q"] (spF (TB P w) K f_finer) := by
  refine fn_ok FD sc_finer (fun cdv A outer s H E hr => ?_)
  have tk := takes_of (X := cxOf (CX P w) P w K mg base ["frame", "p", "q"] "finer" (defScope s_finer) (He.ga K "finer") cdv A outer s H E) rfl rfl rfl rfl
  have hp := passes_of (X := cxOf (CX P w) P w K mg base ["frame", "p", "q"] "finer" (defScope s_finer) (He.ga K "finer") cdv A outer s H E) rfl
  exact (jss_one (js_ret (je_isN (jc_P (ok_parting X) (hr.mono (by decide)) X.g_parting Dfl.nil tk (ja_cons (je_var 0) (ja_cons (je_var 1) (ja_cons (je_var 2) ja_nil)))))))
theorem ok_finer (X : Tx P w K mg) : Callee (TB P w) P w K mg base 10 (He.ga K "finer") ["frame", "p", "q"] f_finer [] := by
  obtain ⟨fd, FD⟩ := X.d_finer
  exact ⟨fd, [], fo_finer X FD, FD.kp, .nil, FD.bindsN fun _ _ _ _ _ _ us hl => match us, hl with | [_, _, _], _ => rfl⟩
theorem fo_views (X : Tx P w K mg) {fd : FuncData} (FD : FunD K "views" "views" (defArgs s_views) (defBody s_views) (defScope s_views) [] [] (He.ga K "views") fd) : FnG P w K mg base (CX P w) 9 (He.ga K "views") fd ["frame", "rule"] (spF (TB P w) K f_views) := by
  refine fn_ok FD sc_views (fun cdv A outer s H E hr => ?_)
  have tk := takes_of (X := cxOf (CX P w) P w K mg base ["frame", "rule", "found", "seen"] "views" (defScope s_views) (He.ga K "views") cdv A outer s H E) rfl rfl rfl rfl
  have hp := passes_of (X := cxOf (CX P w) P w K mg base ["frame", "rule", "found", "seen"] "views" (defScope s_views) (He.ga K "views") cdv A outer s H E) rfl
  exact (jss_cons (js_set 2 sc_views.nd (jc_P (ok_table X) (hr.mono (by decide)) X.g_table Dfl.nil tk (ja_cons (je_var 0) (ja_cons (je_tup ja_nil) (ja_cons (je_tup (ja_cons (je_var 1) ja_nil)) ja_nil)))))
 (jss_one (js_ret (je_callTy call_tuple_of lift_tuple X.n_tuple (ja_cons (je_lcF [("seen", 3)] rfl sc_views.nd (ji_any (je_callB (Py.CallR.or (cr_sortD hr.units) (cr_sortX rfl hr.units)) lift_sortX X.n_sorted (ja_cons (je_var 2) ja_nil))) (blkOk_by (N := ["frame", "rule", "found", "seen"]) (sc := defScope s_views) (by decide +kernel)) (by decide) (fun _ _ _ _ _ => (jgw_name 3 sc_views.nd)) (fun _ _ _ _ _ => jts_nil) (fun _ _ _ _ _ => (je_tup (ja_cons (je_ixX rfl hr.units (je_var 3) je_int) (ja_cons (je_ixX rfl hr.units (je_ixX rfl hr.units (je_var 2) (je_var 3)) je_int) ja_nil))))) ja_nil)))))
theorem ok_views (X : Tx P w K mg) : Callee (TB P w) P w K mg base 9 (He.ga K "views") ["frame", "rule"] f_views [] := by
  obtain ⟨fd, FD⟩ := X.d_views
  exact ⟨fd, [], fo_views X FD, FD.kp, .nil, FD.bindsN fun _ _ _ _ _ _ us hl => match us, hl with | [_, _], _ => rfl⟩
theorem fo_law (X : Tx P w K mg) {fd : FuncData} (FD : FunD K "law" "law" (defArgs s_law) (defBody s_law) (defScope s_law) [] [] (He.ga K "law") fd) : FnG P w K mg base (CX P w) 11 (He.ga K "law") fd ["_law_script"] (spF (TB P w) K f_law) := by
  refine fn_ok FD sc_law (fun cdv A outer s H E hr => ?_)
  have tk := takes_of (X := cxOf (CX P w) P w K mg base ["_law_script", "_law_k", "_law_box", "_law_text", "_law_p", "_law_q", "_law_due", "_law_home", "_law_one", "_law_other", "_law_cut", "_law_secret"] "law" (defScope s_law) (He.ga K "law") cdv A outer s H E) rfl rfl rfl rfl
  have hp := passes_of (X := cxOf (CX P w) P w K mg base ["_law_script", "_law_k", "_law_box", "_law_text", "_law_p", "_law_q", "_law_due", "_law_home", "_law_one", "_law_other", "_law_cut", "_law_secret"] "law" (defScope s_law) (He.ga K "law") cdv A outer s H E) rfl
  exact (jss_cons (js_for hp rfl (ji_range1 rfl X.n_range (ja_cons (je_callB (call_max2 rfl) lift_max2 X.n_max (ja_cons je_int (ja_cons (je_callB (call_min2 rfl) lift_min2 X.n_min (ja_cons je_int (ja_cons (je_callB call_lenX lift_lenX X.n_len (ja_cons (je_var 0) ja_nil)) ja_nil))) ja_nil))) ja_nil)) (jg_name 1 sc_law.nd)
 (jss_cons (js_set 2 sc_law.nd (jc_O (ok_Lseed X) (hr.mono (by decide)) X.g_Lseed Dfl.nil tk (ja_cons (je_var 0) (ja_cons (je_var 1) ja_nil))))
 (jss_one (js_for hp rfl (ji_any (jc_B (ok_Lmixed X) (hr.mono (by decide)) X.g_Lmixed Dfl.nil tk (ja_cons (je_var 2) (ja_cons (jc_P0 (ok_Lwritten X) (hr.mono (by decide)) X.g_Lwritten Dfl.nil tk) ja_nil)))) (jg_tup rfl (jgs_cons (jg_name 3 sc_law.nd) (jgs_cons (jg_name 4 sc_law.nd) (jgs_cons (jg_name 5 sc_law.nd) (jgs_cons (jg_name 6 sc_law.nd) jgs_nil)))))
 (jss_cons (js_par3 7 8 9 rfl sc_law.nd (by decide) (by decide) (by decide) (ja_cons (jc_C (c := 9) X.r_Frame_read X.cm_Frame_read (ok_Frame_read X) (hr.mono (by decide)) X.g_Frame Dfl.nil tk (ja_cons (je_var 3) ja_nil)) (ja_cons (jc_P (ok_Lrule_told X) (hr.mono (by decide)) X.g_Lrule_told Dfl.nil tk (ja_cons (je_var 4) ja_nil)) (ja_cons (jc_P (ok_Lrule_told X) (hr.mono (by decide)) X.g_Lrule_told Dfl.nil tk (ja_cons (je_var 5) ja_nil)) ja_nil))))
 (jss_one (js_if (jt_w (jw_or (jt_cmp (op_neD hr.units) lift_neD (je_callB (cr_repr hr) lift_repr X.n_repr (ja_cons (jc_P (ok_finer X) (hr.mono (by decide)) X.g_finer Dfl.nil tk (ja_cons (je_var 7) (ja_cons (je_var 8) (ja_cons (je_var 9) ja_nil)))) ja_nil)) (je_callB (cr_repr hr) lift_repr X.n_repr (ja_cons (je_var 6) ja_nil))) (jw_one (jt_cmp (op_neD hr.units) lift_neD (je_isN (jc_P (ok_parting X) (hr.mono (by decide)) X.g_parting Dfl.nil tk (ja_cons (je_var 7) (ja_cons (je_var 8) (ja_cons (je_var 9) ja_nil))))) (je_var 6)))))
 (jss_one (js_ret je_bl))
 jss_nil)))))))
 (jss_cons (js_set 10 sc_law.nd (jc_K nr_Rule_init X.mk_Rule (ok_Rule_init X) (hr.mono (by decide)) X.g_Rule Dfl.nil tk (ja_cons je_int (ja_cons je_int (ja_cons je_int (ja_cons (je_str [98, 117, 115, 121]) (ja_cons (je_tup (ja_cons je_int (ja_cons je_int ja_nil))) ja_nil)))))))
 (jss_cons (js_if (jt_w (jw_or (jt_val (jc_P (ok_finer X) (hr.mono (by decide)) X.g_finer Dfl.nil tk (ja_cons (jc_K nr_Frame_init X.mk_Frame (ok_Frame_init_4 X) (hr.mono (by decide)) X.g_Frame (d_Frame_init_4 X) tk (ja_cons je_int ja_nil)) (ja_cons (je_var 10) (ja_cons (jc_K0 nr_Rule_init X.mk_Rule (ok_Rule_init_5 X) (hr.mono (by decide)) X.g_Rule d_Rule_init_5 tk) ja_nil))))) (jw_one (jt_not (jt_val (jc_P (ok_finer X) (hr.mono (by decide)) X.g_finer Dfl.nil tk (ja_cons (jc_K nr_Frame_init X.mk_Frame (ok_Frame_init_4 X) (hr.mono (by decide)) X.g_Frame (d_Frame_init_4 X) tk (ja_cons je_int ja_nil)) (ja_cons (jc_K0 nr_Rule_init X.mk_Rule (ok_Rule_init_5 X) (hr.mono (by decide)) X.g_Rule d_Rule_init_5 tk) (ja_cons (je_var 10) ja_nil)))))))))
 (jss_one (js_ret je_bl))
 jss_nil)
 (jss_cons (js_if (jt_w (jw_or (jt_not (jt_val (jc_P (ok_finer X) (hr.mono (by decide)) X.g_finer Dfl.nil tk (ja_cons (jc_K nr_Frame_init X.mk_Frame (ok_Frame_init_4 X) (hr.mono (by decide)) X.g_Frame (d_Frame_init_4 X) tk (ja_cons je_int ja_nil)) (ja_cons (jc_K nr_Rule_init X.mk_Rule (ok_Rule_init_4 X) (hr.mono (by decide)) X.g_Rule d_Rule_init_4 tk (ja_cons je_int ja_nil)) (ja_cons (jc_K nr_Rule_init X.mk_Rule (ok_Rule_init_4 X) (hr.mono (by decide)) X.g_Rule d_Rule_init_4 tk (ja_cons je_int ja_nil)) ja_nil)))))) (jw_one (jt_isN (jc_P (ok_parting X) (hr.mono (by decide)) X.g_parting Dfl.nil tk (ja_cons (jc_K nr_Frame_init X.mk_Frame (ok_Frame_init_4 X) (hr.mono (by decide)) X.g_Frame (d_Frame_init_4 X) tk (ja_cons je_int ja_nil)) (ja_cons (jc_K nr_Rule_init X.mk_Rule (ok_Rule_init_4 X) (hr.mono (by decide)) X.g_Rule d_Rule_init_4 tk (ja_cons je_int ja_nil)) (ja_cons (jc_K nr_Rule_init X.mk_Rule (ok_Rule_init_4 X) (hr.mono (by decide)) X.g_Rule d_Rule_init_4 tk (ja_cons je_int ja_nil)) ja_nil))))))))
 (jss_one (js_ret je_bl))
 jss_nil)
 (jss_cons (js_if (jt_cmp (op_neD hr.units) lift_neD (jc_P (ok_views X) (hr.mono (by decide)) X.g_views Dfl.nil tk (ja_cons (jc_K nr_Frame_init X.mk_Frame (ok_Frame_init_4 X) (hr.mono (by decide)) X.g_Frame (d_Frame_init_4 X) tk (ja_cons je_int ja_nil)) (ja_cons (jc_K nr_Rule_init X.mk_Rule (ok_Rule_init_4 X) (hr.mono (by decide)) X.g_Rule d_Rule_init_4 tk (ja_cons je_int ja_nil)) ja_nil))) (je_tup (ja_cons (je_tup (ja_cons (je_tup ja_nil) (ja_cons je_int ja_nil))) (ja_cons (je_tup (ja_cons (je_tup (ja_cons (je_tup (ja_cons je_int (ja_cons je_int (ja_cons (je_str [98, 117, 115, 121]) ja_nil)))) ja_nil)) (ja_cons je_int ja_nil))) ja_nil))))
 (jss_one (js_ret je_bl))
 jss_nil)
 (jss_cons (js_set 6 sc_law.nd (je_tup (ja_cons (je_tup (ja_cons (je_tup ja_nil) (ja_cons je_int ja_nil))) (ja_cons (je_tup (ja_cons (je_tup (ja_cons (je_tup (ja_cons je_int (ja_cons je_int (ja_cons (je_str [98, 117, 115, 121]) ja_nil)))) ja_nil)) (ja_cons je_int ja_nil))) (ja_cons (je_tup (ja_cons (je_tup (ja_cons (je_tup (ja_cons je_int (ja_cons je_int (ja_cons (je_str [98, 117, 115, 121]) ja_nil)))) ja_nil)) (ja_cons je_int ja_nil))) (ja_cons (je_tup (ja_cons (je_tup (ja_cons (je_tup (ja_cons je_int (ja_cons je_int (ja_cons (je_str [98, 117, 115, 121]) ja_nil)))) ja_nil)) (ja_cons je_int ja_nil))) ja_nil))))))
 (jss_cons (js_if (jt_w (jw_or (jt_cmp (op_neD hr.units) lift_neD (jc_P (ok_views X) (hr.mono (by decide)) X.g_views Dfl.nil tk (ja_cons (jc_K nr_Frame_init X.mk_Frame (ok_Frame_init_4 X) (hr.mono (by decide)) X.g_Frame (d_Frame_init_4 X) tk (ja_cons je_int ja_nil)) (ja_cons (jc_K0 nr_Rule_init X.mk_Rule (ok_Rule_init_5 X) (hr.mono (by decide)) X.g_Rule d_Rule_init_5 tk) ja_nil))) (je_var 6)) (jw_one (jt_cmp (op_neD hr.units) lift_neD (jc_P (ok_views X) (hr.mono (by decide)) X.g_views Dfl.nil tk (ja_cons (jc_K nr_Frame_init X.mk_Frame (ok_Frame_init_3 X) (hr.mono (by decide)) X.g_Frame (d_Frame_init_3 X) tk (ja_cons je_int (ja_cons je_int ja_nil))) (ja_cons (jc_K0 nr_Rule_init X.mk_Rule (ok_Rule_init_5 X) (hr.mono (by decide)) X.g_Rule d_Rule_init_5 tk) ja_nil))) (je_tup (ja_cons (je_ixX rfl hr.units (je_var 6) je_int) (ja_cons (je_tup (ja_cons (je_ixX rfl hr.units (je_ixX rfl hr.units (je_var 6) je_int) je_int) (ja_cons je_int ja_nil))) ja_nil)))))))
 (jss_one (js_ret je_bl))
 jss_nil)
 (jss_cons (js_if (jt_cmp (op_neD hr.units) lift_neD (jc_P (ok_views X) (hr.mono (by decide)) X.g_views Dfl.nil tk (ja_cons (jc_C (c := 9) X.r_Frame_read X.cm_Frame_read (ok_Frame_read X) (hr.mono (by decide)) X.g_Frame Dfl.nil tk (ja_cons (je_str [108, 101, 110, 103, 116, 104, 32, 50, 32, 115, 104, 111, 114, 116, 101, 115, 116, 32, 49, 32, 116, 97, 107, 101, 110, 32, 48]) ja_nil)) (ja_cons (jc_K nr_Rule_init X.mk_Rule (ok_Rule_init_2 X) (hr.mono (by decide)) X.g_Rule d_Rule_init_2 tk (ja_cons je_int (ja_cons je_int (ja_cons je_int ja_nil)))) ja_nil))) (je_tup (ja_cons (je_tup (ja_cons (je_tup ja_nil) (ja_cons je_int ja_nil))) (ja_cons (je_tup (ja_cons (je_tup (ja_cons (je_tup (ja_cons je_int (ja_cons je_int (ja_cons (je_str [98, 117, 115, 121]) ja_nil)))) ja_nil)) (ja_cons je_int ja_nil))) ja_nil))))
 (jss_one (js_ret je_bl))
 jss_nil)
 (jss_cons (js_set 11 sc_law.nd (jc_C (c := 9) X.r_Frame_read X.cm_Frame_read (ok_Frame_read X) (hr.mono (by decide)) X.g_Frame Dfl.nil tk (ja_cons (je_str [108, 101, 110, 103, 116, 104, 32, 49, 32, 115, 104, 111, 114, 116, 101, 115, 116, 32, 49, 32, 112, 114, 105, 118, 97, 116, 101]) ja_nil)))
 (jss_cons (js_if (jt_cmp (op_neD hr.units) lift_neD (jc_P (ok_views X) (hr.mono (by decide)) X.g_views Dfl.nil tk (ja_cons (je_var 11) (ja_cons (jc_K nr_Rule_init X.mk_Rule (ok_Rule_init_1 X) (hr.mono (by decide)) X.g_Rule d_Rule_init_1 tk (ja_cons je_int (ja_cons je_int (ja_cons je_int (ja_cons (je_str [110, 111, 110, 101]) ja_nil))))) ja_nil))) (je_tup (ja_cons (je_tup (ja_cons (je_tup ja_nil) (ja_cons je_int ja_nil))) (ja_cons (je_tup (ja_cons (je_tup (ja_cons (je_tup (ja_cons je_int (ja_cons je_int (ja_cons (je_str [98, 117, 115, 121]) ja_nil)))) ja_nil)) (ja_cons je_int ja_nil))) ja_nil))))
 (jss_one (js_ret je_bl))
 jss_nil)
 (jss_cons (js_set 6 sc_law.nd (je_tup (ja_cons (je_tup (ja_cons (je_tup ja_nil) (ja_cons je_int ja_nil))) (ja_cons (je_tup (ja_cons (je_tup (ja_cons (je_tup (ja_cons je_int (ja_cons je_int (ja_cons (je_str [98, 117, 115, 121]) ja_nil)))) ja_nil)) (ja_cons je_int ja_nil))) (ja_cons (je_tup (ja_cons (je_tup (ja_cons (je_tup (ja_cons je_int (ja_cons je_int (ja_cons (je_str [112, 114, 105, 118, 97, 116, 101]) ja_nil)))) ja_nil)) (ja_cons je_int ja_nil))) ja_nil)))))
 (jss_one (js_ret (je_and (je_cmp (op_eqD hr.units) lift_eqD (jc_P (ok_views X) (hr.mono (by decide)) X.g_views Dfl.nil tk (ja_cons (je_var 11) (ja_cons (jc_K nr_Rule_init X.mk_Rule (ok_Rule_init_1 X) (hr.mono (by decide)) X.g_Rule d_Rule_init_1 tk (ja_cons je_int (ja_cons je_int (ja_cons je_int (ja_cons (je_str [111, 110, 101]) ja_nil))))) ja_nil))) (je_var 6)) (je_one (je_cmp (op_eqD hr.units) lift_eqD (jc_P (ok_views X) (hr.mono (by decide)) X.g_views Dfl.nil tk (ja_cons (jc_K nr_Frame_init X.mk_Frame (ok_Frame_init_3 X) (hr.mono (by decide)) X.g_Frame (d_Frame_init_3 X) tk (ja_cons je_int (ja_cons je_int ja_nil))) (ja_cons (jc_K nr_Rule_init X.mk_Rule (ok_Rule_init_4 X) (hr.mono (by decide)) X.g_Rule d_Rule_init_4 tk (ja_cons je_int ja_nil)) ja_nil))) (je_tup (ja_cons (je_tup (ja_cons (je_tup ja_nil) (ja_cons je_int ja_nil))) ja_nil))))))))))))))))))
theorem ok_law (X : Tx P w K mg) : Callee (TB P w) P w K mg base 11 (He.ga K "law") ["_law_script"] f_law [] := by
  obtain ⟨fd, FD⟩ := X.d_law
  exact ⟨fd, [], fo_law X FD, FD.kp, .nil, FD.bindsN fun _ _ _ _ _ _ us hl => match us, hl with | [_], _ => rfl⟩
end
theorem facts {K : PySem.W.Frag} {h : Heap} {mg : Str → Option Value} (X : K.In h) {P : Program} {w : World} (G : h.Ns mainGlobals mg) (c : SaysP chk fn K) : Tx P w K mg := by
  obtain ⟨c1, c0⟩ := He.ba c.both.1
  obtain ⟨c2, c0⟩ := He.ba c0
  obtain ⟨c3, c0⟩ := He.ba c0
  obtain ⟨c4, c0⟩ := He.ba c0
  obtain ⟨c5, c0⟩ := He.ba c0
  obtain ⟨c6, c0⟩ := He.ba c0
  obtain ⟨c7, c0⟩ := He.ba c0
  obtain ⟨c8, c0⟩ := He.ba c0
  obtain ⟨c9, c0⟩ := He.ba c0
  obtain ⟨c10, c11⟩ := He.ba c0
  exact {
    n_abs := He.free_ok X G (all_at c1 (i := 0) (a := .free "abs") rfl),
    n_all := He.free_ok X G (all_at c1 (i := 1) (a := .free "all") rfl),
    n_any := He.free_ok X G (all_at c1 (i := 2) (a := .free "any") rfl),
    n_bool := He.free_ok X G (all_at c1 (i := 3) (a := .free "bool") rfl),
    n_enumerate := He.free_ok X G (all_at c1 (i := 4) (a := .free "enumerate") rfl),
    n_int := He.free_ok X G (all_at c1 (i := 5) (a := .free "int") rfl),
    n_isinstance := He.free_ok X G (all_at c1 (i := 6) (a := .free "isinstance") rfl),
    n_len := He.free_ok X G (all_at c1 (i := 7) (a := .free "len") rfl),
    n_list := He.free_ok X G (all_at c1 (i := 8) (a := .free "list") rfl),
    n_max := He.free_ok X G (all_at c1 (i := 9) (a := .free "max") rfl),
    n_min := He.free_ok X G (all_at c1 (i := 10) (a := .free "min") rfl),
    n_range := He.free_ok X G (all_at c1 (i := 11) (a := .free "range") rfl),
    n_repr := He.free_ok X G (all_at c1 (i := 12) (a := .free "repr") rfl),
    n_sorted := He.free_ok X G (all_at c1 (i := 13) (a := .free "sorted") rfl),
    n_str := He.free_ok X G (all_at c1 (i := 14) (a := .free "str") rfl),
    n_tuple := He.free_ok X G (all_at c1 (i := 15) (a := .free "tuple") rfl),
    n_zip := He.free_ok X G (all_at c1 (i := 16) (a := .free "zip") rfl),
    g_Lseed := He.glo_ok X G (all_at c1 (i := 17) (a := .glo "_law_seed") rfl),
    g_Lchoose := He.glo_ok X G (all_at c1 (i := 18) (a := .glo "_law_choose") rfl),
    g_Lmixed := He.glo_ok X G (all_at c1 (i := 19) (a := .glo "_law_mixed") rfl),
    g_Lwritten := He.glo_ok X G (all_at c1 (i := 20) (a := .glo "_law_written") rfl),
    g_number_in := He.glo_ok X G (all_at c1 (i := 21) (a := .glo "number_in") rfl),
    g_is_integer := He.glo_ok X G (all_at c1 (i := 22) (a := .glo "is_integer") rfl),
    g_is_number := He.glo_ok X G (all_at c1 (i := 23) (a := .glo "is_number") rfl),
    g_is_bool := He.glo_ok X G (all_at c1 (i := 24) (a := .glo "is_bool") rfl),
    g_is_sequence := He.glo_ok X G (all_at c1 (i := 25) (a := .glo "is_sequence") rfl),
    g_are_known := He.glo_ok X G (all_at c1 (i := 26) (a := .glo "are_known") rfl),
    g_Frame := He.glo_ok X G (all_at c1 (i := 27) (a := .glo "Frame") rfl),
    g_known_in := He.glo_ok X G (all_at c1 (i := 28) (a := .glo "known_in") rfl),
    g_are_hours := He.glo_ok X G (all_at c1 (i := 29) (a := .glo "are_hours") rfl),
    g_Rule := He.glo_ok X G (all_at c1 (i := 30) (a := .glo "Rule") rfl),
    g_Lrule_told := He.glo_ok X G (all_at c1 (i := 31) (a := .glo "_law_rule_told") rfl),
    g_is_block := He.glo_ok X G (all_at c1 (i := 32) (a := .glo "is_block") rfl),
    g_is_view := He.glo_ok X G (all_at c1 (i := 33) (a := .glo "is_view") rfl),
    g_is_look := He.glo_ok X G (all_at c1 (i := 34) (a := .glo "is_look") rfl),
    g_need_looks := He.glo_ok X G (all_at c1 (i := 35) (a := .glo "need_looks") rfl),
    g_prepared := He.glo_ok X G (all_at c1 (i := 36) (a := .glo "prepared") rfl),
    g_begun := He.glo_ok X G (all_at c1 (i := 37) (a := .glo "begun") rfl),
    g_is_let := He.glo_ok X G (all_at c1 (i := 38) (a := .glo "is_let") rfl),
    g_WORDS := He.glo_ok X G (all_at c1 (i := 39) (a := .glo "WORDS") rfl),
    g_settled := He.glo_ok X G (all_at c1 (i := 40) (a := .glo "settled") rfl),
    g_begun_part := He.glo_ok X G (all_at c1 (i := 41) (a := .glo "begun_part") rfl),
    g_grown_part := He.glo_ok X G (all_at c1 (i := 42) (a := .glo "grown_part") rfl),
    g_led := He.glo_ok X G (all_at c1 (i := 43) (a := .glo "led") rfl),
    g_follow := He.glo_ok X G (all_at c1 (i := 44) (a := .glo "follow") rfl),
    g_can_come := He.glo_ok X G (all_at c1 (i := 45) (a := .glo "can_come") rfl),
    g_is_hopeful := He.glo_ok X G (all_at c1 (i := 46) (a := .glo "is_hopeful") rfl),
    g_part_grown := He.glo_ok X G (all_at c1 (i := 47) (a := .glo "part_grown") rfl),
    g_closed := He.glo_ok X G (all_at c1 (i := 48) (a := .glo "closed") rfl),
    g_part_begun := He.glo_ok X G (all_at c1 (i := 49) (a := .glo "part_begun") rfl),
    g_parts_behind := He.glo_ok X G (all_at c1 (i := 50) (a := .glo "parts_behind") rfl),
    g_put_away := He.glo_ok X G (all_at c1 (i := 51) (a := .glo "put_away") rfl),
    g_lightened_part := He.glo_ok X G (all_at c1 (i := 52) (a := .glo "lightened_part") rfl),
    g_lightened := He.glo_ok X G (all_at c1 (i := 53) (a := .glo "lightened") rfl),
    g_steps := He.glo_ok X G (all_at c1 (i := 54) (a := .glo "steps") rfl),
    g_is_closing := He.glo_ok X G (all_at c1 (i := 55) (a := .glo "is_closing") rfl),
    g_view_of := He.glo_ok X G (all_at c1 (i := 56) (a := .glo "view_of") rfl),
    g_table := He.glo_ok X G (all_at c1 (i := 57) (a := .glo "table") rfl),
    g_is_meeting := He.glo_ok X G (all_at c1 (i := 58) (a := .glo "is_meeting") rfl),
    g_are_meetings := He.glo_ok X G (all_at c1 (i := 59) (a := .glo "are_meetings") rfl),
    g_Day := He.glo_ok X G (all_at c1 (i := 60) (a := .glo "Day") rfl),
    g_day_of := He.glo_ok X G (all_at c1 (i := 61) (a := .glo "day_of") rfl),
    g_parting := He.glo_ok X G (all_at c1 (i := 62) (a := .glo "parting") rfl),
    g_finer := He.glo_ok X G (all_at c1 (i := 63) (a := .glo "finer") rfl),
    g_views := He.glo_ok X G (all_at c1 (i := 64) (a := .glo "views") rfl),
    c_DIGITS := gk_str X G (all_at c1 (i := 65) (a := .str "DIGITS" ⟨([48, 49, 50, 51, 52, 53, 54, 55, 56, 57] : List Nat).toArray⟩) rfl),
    c_MOST_DIGITS := gk_int X G (all_at c1 (i := 66) (a := .int "MOST_DIGITS" 2) rfl),
    c_MARKS := gk_tup X G (all_at c1 (i := 67) (a := .glo "MARKS") rfl) (all_at c2 (i := 0) rfl) (by kernel_rfl),
    c_SORTS := gk_tup X G (all_at c1 (i := 68) (a := .glo "SORTS") rfl) (all_at c2 (i := 1) rfl) (by kernel_rfl),
    c_WORDS := gk_tup X G (all_at c1 (i := 39) (a := .glo "WORDS") rfl) (all_at c2 (i := 2) rfl) (by kernel_rfl),
    c_LETTERS := gk_tup X G (all_at c1 (i := 69) (a := .glo "LETTERS") rfl) (all_at c2 (i := 3) rfl) (by kernel_rfl),
    k_Day := cf_of (all_at c3 (i := 0) (a := 7) rfl) (show (TBf 7).Nodup by decide +kernel) (show (TBf 7).length < 1000 by decide +kernel),
    k_Frame := cf_of (all_at c3 (i := 1) (a := 9) rfl) (show (TBf 9).Nodup by decide +kernel) (show (TBf 9).length < 1000 by decide +kernel),
    k_Rule := cf_of (all_at c3 (i := 2) (a := 8) rfl) (show (TBf 8).Nodup by decide +kernel) (show (TBf 8).length < 1000 by decide +kernel),
    m_Rule_word_of := meth_of (all_at c1 (i := 70) (a := .meth "Rule" "word_of") rfl),
    m_Rule_down := meth_of (all_at c1 (i := 71) (a := .meth "Rule" "down") rfl),
    m_Rule_up := meth_of (all_at c1 (i := 72) (a := .meth "Rule" "up") rfl),
    m_Rule_joins := meth_of (all_at c1 (i := 73) (a := .meth "Rule" "joins") rfl),
    m_Rule_shown := meth_of (all_at c1 (i := 74) (a := .meth "Rule" "shown") rfl),
    r_Frame_read := cr_of (all_at c7 (i := 0) (a := ("Frame", "read")) rfl),
    cm_Frame_read := cm_of (all_at c7 (i := 0) (a := ("Frame", "read")) rfl),
    e_Frame_init := tup0_ok (all_at c10 (i := 0) (a := fun K => He.dflAt ("Frame", some "__init__") 3 K) rfl),
    x_WORDS := tidx_of (all_at c11 (i := 0) (a := "WORDS") rfl),
    i_Rule := is_of (all_at c6 (i := 0) (a := ("Rule", is_Rule)) rfl),
    mk_Frame := mk_of (all_at c1 (i := 75) (a := .mkr "Frame") rfl),
    mk_Rule := mk_of (all_at c1 (i := 76) (a := .mkr "Rule") rfl),
    mk_Day := mk_of (all_at c1 (i := 77) (a := .mkr "Day") rfl),
    d_Lseed := c.def_ 0 (d := D_Lseed) rfl,
    d_Lchoose := c.def_ 1 (d := D_Lchoose) rfl,
    d_Lmixed := c.def_ 2 (d := D_Lmixed) rfl,
    d_Lwritten := c.def_ 3 (d := D_Lwritten) rfl,
    d_number_in := c.def_ 4 (d := D_number_in) rfl,
    d_is_integer := c.def_ 5 (d := D_is_integer) rfl,
    d_is_number := c.def_ 6 (d := D_is_number) rfl,
    d_is_bool := c.def_ 7 (d := D_is_bool) rfl,
    d_is_sequence := c.def_ 8 (d := D_is_sequence) rfl,
    d_are_known := c.def_ 9 (d := D_are_known) rfl,
    d_Frame_init := c.def_ 10 (d := D_Frame_init) rfl,
    d_known_in := c.def_ 11 (d := D_known_in) rfl,
    d_Frame_read := c.def_ 12 (d := D_Frame_read) rfl,
    d_are_hours := c.def_ 13 (d := D_are_hours) rfl,
    d_Rule_init := c.def_ 14 (d := D_Rule_init) rfl,
    d_Lrule_told := c.def_ 15 (d := D_Lrule_told) rfl,
    d_is_block := c.def_ 16 (d := D_is_block) rfl,
    d_is_view := c.def_ 17 (d := D_is_view) rfl,
    d_is_look := c.def_ 18 (d := D_is_look) rfl,
    d_need_looks := c.def_ 19 (d := D_need_looks) rfl,
    d_prepared := c.def_ 20 (d := D_prepared) rfl,
    d_begun := c.def_ 21 (d := D_begun) rfl,
    d_is_let := c.def_ 22 (d := D_is_let) rfl,
    d_Rule_word_of := c.def_ 23 (d := D_Rule_word_of) rfl,
    d_Rule_down := c.def_ 24 (d := D_Rule_down) rfl,
    d_Rule_up := c.def_ 25 (d := D_Rule_up) rfl,
    d_Rule_joins := c.def_ 26 (d := D_Rule_joins) rfl,
    d_Rule_shown := c.def_ 27 (d := D_Rule_shown) rfl,
    d_settled := c.def_ 28 (d := D_settled) rfl,
    d_begun_part := c.def_ 29 (d := D_begun_part) rfl,
    d_grown_part := c.def_ 30 (d := D_grown_part) rfl,
    d_led := c.def_ 31 (d := D_led) rfl,
    d_follow := c.def_ 32 (d := D_follow) rfl,
    d_can_come := c.def_ 33 (d := D_can_come) rfl,
    d_is_hopeful := c.def_ 34 (d := D_is_hopeful) rfl,
    d_part_grown := c.def_ 35 (d := D_part_grown) rfl,
    d_closed := c.def_ 36 (d := D_closed) rfl,
    d_part_begun := c.def_ 37 (d := D_part_begun) rfl,
    d_parts_behind := c.def_ 38 (d := D_parts_behind) rfl,
    d_put_away := c.def_ 39 (d := D_put_away) rfl,
    d_lightened_part := c.def_ 40 (d := D_lightened_part) rfl,
    d_lightened := c.def_ 41 (d := D_lightened) rfl,
    d_steps := c.def_ 42 (d := D_steps) rfl,
    d_is_closing := c.def_ 43 (d := D_is_closing) rfl,
    d_view_of := c.def_ 44 (d := D_view_of) rfl,
    d_table := c.def_ 45 (d := D_table) rfl,
    d_is_meeting := c.def_ 46 (d := D_is_meeting) rfl,
    d_are_meetings := c.def_ 47 (d := D_are_meetings) rfl,
    d_Day_init := c.def_ 48 (d := D_Day_init) rfl,
    d_day_of := c.def_ 49 (d := D_day_of) rfl,
    d_parting := c.def_ 50 (d := D_parting) rfl,
    d_finer := c.def_ 51 (d := D_finer) rfl,
    d_views := c.def_ 52 (d := D_views) rfl,
    d_law := c.def_ 53 (d := D_law) rfl }
theorem ends (ok : ∀ ns : List Int, ns.length ≤ 63 → (∀ z ∈ ns, Builtin.Int.intBits z ≤ 1048576) → ∃ h', f_law [] [.lst (ns.map Val.int)] = .ok (.bl true) h') : PySem.Challenge.rw_dimdays_k47_comparing_known.Holds := by
  w_on; o_law
  refine HandSHeadRun.head_any (r := PySem.W.OpenLaw.row PySem.Challenge.rw_dimdays_k47_comparing_known) (q := PySem.W.view (PySem.W.OpenLaw.row PySem.Challenge.rw_dimdays_k47_comparing_known).prog [76]) (H := hk) (ob := ob) (M := 60000) (loose := names) (d := HandSHeadRun.topDef (PySem.W.OpenLaw.row PySem.Challenge.rw_dimdays_k47_comparing_known).prog 76) (kwd := []) ob_eq
    (by kernel_rfl) (fun s => by kernel_rfl) run (by kernel_rfl) (by kernel_rfl) (by kernel_rfl) (by rfl) (by first | assumption | decide +kernel) (by decide +kernel) ⟨rfl, rfl, rfl, rfl, rfl, by decide +kernel⟩ ?hw ?hc
  case hw => w_witness2
  case hc =>
    refine law_end (l := PySem.Challenge.rw_dimdays_k47_comparing_known) (k := 11) (T := TB PySem.Challenge.rw_dimdays_k47_comparing_known.prog) (fl := f_law) rfl (by kernel_rfl) ⟨⟨rfl, by decide, by decide⟩, rfl⟩ ?F ok
    intro w mg fa h Y G hmg0
    obtain ⟨K, KX, c⟩ := Y
    have hmg : mg ("law" : PySem.Str) = some (.ref fa) := by
      have e : (HandSHeadRun.topDef (PySem.W.OpenLaw.row PySem.Challenge.rw_dimdays_k47_comparing_known).prog 76).name = ("law" : PySem.Str) := by kernel_rfl
      rw [← e]
      exact hmg0
    have T := facts (P := PySem.Challenge.rw_dimdays_k47_comparing_known.prog) (w := w) KX G c
    obtain ⟨fd, FD⟩ := T.d_law
    have e := hmg.symm.trans (He.glo_ok KX G (all_at (He.ba c.both.1).1 (i := 78) (a := .glo "law") rfl))
    cases e
    exact ⟨K, fd, KX, fun s u => FD.bindsA (ps := ["_law_script"]) (fun _ _ _ _ _ _ us hl => match us, hl with | [_], _ => rfl) s [u] rfl, fun base _ _ => fo_law T FD⟩
end Law

namespace Law
open PySem Py
theorem seed_is : f_Lseed = seedF 40093 := rfl
theorem mixed_is : f_Lmixed = mixedF TBf := rfl
theorem cons_of (h : Hh) (x : Py.Obj) : ∃ o t, h ++ [x] = o :: t := by cases h with
  | nil => exact ⟨x, [], rfl⟩
  | cons o t => exact ⟨o, t ++ [x], rfl⟩
def tx0 : Val := .str [108, 101, 110, 103, 116, 104, 32, 54, 32, 115, 104, 111, 114, 116, 101, 115, 116, 32, 49]
def tx1 : Val := .str [50, 32, 48, 32, 48, 32, 98, 117, 115, 121]
def tx2 : Val := .str [52, 32, 48, 32, 48, 32, 98, 117, 115, 121]
def tx3 : Val := .str [51, 32, 48, 32, 48, 32, 98, 117, 115, 121]
def tx4 : Val := .str [108, 101, 110, 103, 116, 104, 32, 53, 32, 115, 104, 111, 114, 116, 101, 115, 116, 32, 49]
def tx5 : Val := .str [49, 32, 48, 32, 48, 32, 98, 117, 115, 121]
def tx6 : Val := .str [49, 32, 50, 32, 48, 32, 98, 117, 115, 121]
def tx7 : Val := .str [108, 101, 110, 103, 116, 104, 32, 53, 32, 115, 104, 111, 114, 116, 101, 115, 116, 32, 50]
def tx8 : Val := .str [49, 32, 48, 32, 51, 32, 98, 117, 115, 121]
def tx9 : Val := .str [108, 101, 110, 103, 116, 104, 32, 52, 32, 115, 104, 111, 114, 116, 101, 115, 116, 32, 49, 32, 112, 114, 105, 118, 97, 116, 101]
def tx10 : Val := .str [49, 32, 48, 32, 48, 32, 97, 112, 97, 114, 116]
def tx11 : Val := .str [49, 32, 48, 32, 48, 32, 110, 111, 110, 101]
def tx12 : Val := .str [108, 101, 110, 103, 116, 104, 32, 52, 32, 115, 104, 111, 114, 116, 101, 115, 116, 32, 49]
def tx13 : Val := .str [49, 32, 48, 32, 48, 32, 111, 110, 101]
def va0 : Val := .obj 9 [.int 6, .int 1, .non, .bl false, .tup []]
theorem rd0 : callP TBf f_Frame_read [.glo 9, tx0] [] = .ok va0 [] := by kernel_rfl
def va1 : Val := .obj 8 [.int 2, .int 0, .int 0, .str [98, 117, 115, 121], .non]
theorem rd1 : callQ TBf f_Lrule_told [tx1] [] = .ok va1 [] := by kernel_rfl
def va2 : Val := .obj 8 [.int 4, .int 0, .int 0, .str [98, 117, 115, 121], .non]
theorem rd2 : callQ TBf f_Lrule_told [tx2] [] = .ok va2 [] := by kernel_rfl
def va3 : Val := .obj 8 [.int 3, .int 0, .int 0, .str [98, 117, 115, 121], .non]
theorem rd3 : callQ TBf f_Lrule_told [tx3] [] = .ok va3 [] := by kernel_rfl
def va4 : Val := .obj 9 [.int 5, .int 1, .non, .bl false, .tup []]
theorem rd4 : callP TBf f_Frame_read [.glo 9, tx4] [] = .ok va4 [] := by kernel_rfl
def va5 : Val := .obj 8 [.int 1, .int 0, .int 0, .str [98, 117, 115, 121], .non]
theorem rd5 : callQ TBf f_Lrule_told [tx5] [] = .ok va5 [] := by kernel_rfl
def va6 : Val := .obj 8 [.int 1, .int 2, .int 0, .str [98, 117, 115, 121], .non]
theorem rd6 : callQ TBf f_Lrule_told [tx6] [] = .ok va6 [] := by kernel_rfl
def va7 : Val := .obj 9 [.int 5, .int 2, .non, .bl false, .tup []]
theorem rd7 : callP TBf f_Frame_read [.glo 9, tx7] [] = .ok va7 [] := by kernel_rfl
def va8 : Val := .obj 8 [.int 1, .int 0, .int 3, .str [98, 117, 115, 121], .non]
theorem rd8 : callQ TBf f_Lrule_told [tx8] [] = .ok va8 [] := by kernel_rfl
def va9 : Val := .obj 9 [.int 4, .int 1, .non, .bl true, .tup []]
theorem rd9 : callP TBf f_Frame_read [.glo 9, tx9] [] = .ok va9 [] := by kernel_rfl
def va10 : Val := .obj 8 [.int 1, .int 0, .int 0, .str [97, 112, 97, 114, 116], .non]
theorem rd10 : callQ TBf f_Lrule_told [tx10] [] = .ok va10 [] := by kernel_rfl
def va11 : Val := .obj 8 [.int 1, .int 0, .int 0, .str [110, 111, 110, 101], .non]
theorem rd11 : callQ TBf f_Lrule_told [tx11] [] = .ok va11 [] := by kernel_rfl
def va12 : Val := .obj 9 [.int 4, .int 1, .non, .bl false, .tup []]
theorem rd12 : callP TBf f_Frame_read [.glo 9, tx12] [] = .ok va12 [] := by kernel_rfl
def va13 : Val := .obj 8 [.int 1, .int 0, .int 0, .str [111, 110, 101], .non]
theorem rd13 : callQ TBf f_Lrule_told [tx13] [] = .ok va13 [] := by kernel_rfl
def chkB (r : Res) (b : Bool) : Bool := match r with
  | .ok (.bl c) [] => c == b
  | _ => false
def chkP (r : Res) (b : Bool) : Bool := match r with
  | .ok v [] => (isNon v) == b
  | _ => false
theorem chkB_of {r : Res} {b : Bool} (e : chkB r b = true) : r = .ok (.bl b) [] := by
  unfold chkB at e
  split at e
  · rename_i c; have : c = b := by simpa using e
    rw [this]
  · cases e
theorem chkP_of {r : Res} {b : Bool} (e : chkP r b = true) : ∃ v, r = .ok v [] ∧ isNon v = b := by
  unfold chkP at e
  split at e
  · rename_i v; exact ⟨v, rfl, by simpa using e⟩
  · cases e
theorem kf0 : chkB (callQ TBf f_finer [va0, va1, va2] []) true = true := by kernel_rfl
theorem kp0 : chkP (callQ TBf f_parting [va0, va1, va2] []) true = true := by kernel_rfl
theorem kf1 : chkB (callQ TBf f_finer [va0, va1, va3] []) false = true := by kernel_rfl
theorem kp1 : chkP (callQ TBf f_parting [va0, va1, va3] []) false = true := by kernel_rfl
theorem kf2 : chkB (callQ TBf f_finer [va0, va2, va1] []) false = true := by kernel_rfl
theorem kp2 : chkP (callQ TBf f_parting [va0, va2, va1] []) false = true := by kernel_rfl
theorem kf3 : chkB (callQ TBf f_finer [va4, va5, va6] []) true = true := by kernel_rfl
theorem kp3 : chkP (callQ TBf f_parting [va4, va5, va6] []) true = true := by kernel_rfl
theorem kf4 : chkB (callQ TBf f_finer [va4, va6, va5] []) false = true := by kernel_rfl
theorem kp4 : chkP (callQ TBf f_parting [va4, va6, va5] []) false = true := by kernel_rfl
theorem kf5 : chkB (callQ TBf f_finer [va7, va5, va8] []) true = true := by kernel_rfl
theorem kp5 : chkP (callQ TBf f_parting [va7, va5, va8] []) true = true := by kernel_rfl
theorem kf6 : chkB (callQ TBf f_finer [va9, va10, va5] []) true = true := by kernel_rfl
theorem kp6 : chkP (callQ TBf f_parting [va9, va10, va5] []) true = true := by kernel_rfl
theorem kf7 : chkB (callQ TBf f_finer [va9, va10, va11] []) true = true := by kernel_rfl
theorem kp7 : chkP (callQ TBf f_parting [va9, va10, va11] []) true = true := by kernel_rfl
theorem kf8 : chkB (callQ TBf f_finer [va9, va11, va10] []) false = true := by kernel_rfl
theorem kp8 : chkP (callQ TBf f_parting [va9, va11, va10] []) false = true := by kernel_rfl
theorem kf9 : chkB (callQ TBf f_finer [va12, va11, va13] []) true = true := by kernel_rfl
theorem kp9 : chkP (callQ TBf f_parting [va12, va11, va13] []) true = true := by kernel_rfl
def rowT : Gx := (gTu 4 (gsCons (gN 3) (gsCons (gN 4) (gsCons (gN 5) (gsCons (gN 6) gsNil)))))
def rowB : Sx := (xSeq (xPar3 7 8 9 (xCons (xCmP TBf 9 f_Frame_read [] (xCons (xVar 3) xNil)) (xCons (xCallP TBf f_Lrule_told [] (xCons (xVar 4) xNil)) (xCons (xCallP TBf f_Lrule_told [] (xCons (xVar 5) xNil)) xNil))))
 (xIfS (xOr (xOp gNe (xCB gRepr (xCons (xCallP TBf f_finer [] (xCons (xVar 7) (xCons (xVar 8) (xCons (xVar 9) xNil)))) xNil)) (xCB gRepr (xCons (xVar 6) xNil))) (xOp gNe (xUn (fun _ v => some (.bl (isNon v))) (xCallP TBf f_parting [] (xCons (xVar 7) (xCons (xVar 8) (xCons (xVar 9) xNil))))) (xVar 6)))
 (xRet (xC (.bl false)))
 xSkip))
theorem row_step (s1 s2 s3 fr p q : Val) (due : Bool) (p1 : pureV s1 = true) (p2 : pureV s2 = true) (p3 : pureV s3 = true) (hfr : callP TBf f_Frame_read [.glo 9, s1] [] = .ok fr []) (hp : callQ TBf f_Lrule_told [s2] [] = .ok p []) (hq : callQ TBf f_Lrule_told [s3] [] = .ok q [])
    (pp : pureVs [fr, p, q] = true) (hf : chkB (callQ TBf f_finer [fr, p, q] []) due = true) (hv : chkP (callQ TBf f_parting [fr, p, q] []) due = true) (x0 x1 x2 x3 x4 x5 x6 x7 x8 x9 x10 x11 : Option Val) (h : Hh) :
    bodyOf rowT rowB (.tup [s1, s2, s3, .bl due]) [x0, x1, x2, x3, x4, x5, x6, x7, x8, x9, x10, x11] h = .next [x0, x1, x2, some s1, some s2, some s3, some (.bl due), some fr, some p, some q, x10, x11] h := by
  have a1 := callP_any (by simp [pureVs, pureV, p1]) hfr h
  have a2 := callQ_any (by simp [pureVs, p2]) hp h
  have a3 := callQ_any (by simp [pureVs, p3]) hq h
  have a4 := callQ_any pp (chkB_of hf) h
  obtain ⟨v, ev, nv⟩ := chkP_of hv
  have a5 := callQ_any pp ev h
  have e1 : rowT (.tup [s1, s2, s3, .bl due]) [x0, x1, x2, x3, x4, x5, x6, x7, x8, x9, x10, x11] h = .ok [x0, x1, x2, some s1, some s2, some s3, some (.bl due), x7, x8, x9, x10, x11] h := rfl
  have r1 : ∀ b : Bool, ∃ z, gRepr h [.bl b] = some (.str z, h) ∧ gNe h (.str z) (.str z) = some (.bl false) := fun b => by cases b <;> exact ⟨_, rfl, rfl⟩
  obtain ⟨z, r2, r3⟩ := r1 due
  have r4 : gNe h (.bl due) (.bl due) = some (.bl false) := by cases due <;> rfl
  unfold bodyOf rowB
  rw [e1]
  simp only [ResG.bindS, xSeq, xPar3, xCons, xNil, xCmP, xCallP, xVar, xIfS, xOr, xOp, xCB, xUn, Res.bind, Res.bindL, ResL.bindL, ResL.bind, List.append_nil, List.getElem?_cons_succ, List.getElem?_cons_zero, List.set_cons_succ, List.set_cons_zero, a1, a2, a3, a4, a5, r2, r3, r4, nv, Res.ofP, Res.ofO, Res.test, Res.testS, xSkip]
def rowsV : List Val := [.tup [tx0, tx1, tx2, .bl true], .tup [tx0, tx1, tx3, .bl false], .tup [tx0, tx2, tx1, .bl false], .tup [tx4, tx5, tx6, .bl true], .tup [tx4, tx6, tx5, .bl false], .tup [tx7, tx5, tx8, .bl true], .tup [tx9, tx10, tx5, .bl true], .tup [tx9, tx10, tx11, .bl true], .tup [tx9, tx11, tx10, .bl false], .tup [tx12, tx11, tx13, .bl true]]
theorem written_ok : callQ TBf f_Lwritten [] [] = .ok (.lst rowsV) [] := by kernel_rfl
theorem rows_pure : pureVs rowsV = true := by kernel_rfl
theorem rowk0 (x0 x1 x2 x3 x4 x5 x6 x7 x8 x9 x10 x11 : Option Val) (h : Hh) : ∃ y3 y4 y5 y6 y7 y8 y9, bodyOf rowT rowB (.tup [tx0, tx1, tx2, .bl true]) [x0, x1, x2, x3, x4, x5, x6, x7, x8, x9, x10, x11] h = .next [x0, x1, x2, y3, y4, y5, y6, y7, y8, y9, x10, x11] h := by
  rw [row_step tx0 tx1 tx2 va0 va1 va2 true rfl rfl rfl rd0 rd1 rd2 rfl kf0 kp0]
  exact ⟨_, _, _, _, _, _, _, rfl⟩
theorem rowk1 (x0 x1 x2 x3 x4 x5 x6 x7 x8 x9 x10 x11 : Option Val) (h : Hh) : ∃ y3 y4 y5 y6 y7 y8 y9, bodyOf rowT rowB (.tup [tx0, tx1, tx3, .bl false]) [x0, x1, x2, x3, x4, x5, x6, x7, x8, x9, x10, x11] h = .next [x0, x1, x2, y3, y4, y5, y6, y7, y8, y9, x10, x11] h := by
  rw [row_step tx0 tx1 tx3 va0 va1 va3 false rfl rfl rfl rd0 rd1 rd3 rfl kf1 kp1]
  exact ⟨_, _, _, _, _, _, _, rfl⟩
theorem rowk2 (x0 x1 x2 x3 x4 x5 x6 x7 x8 x9 x10 x11 : Option Val) (h : Hh) : ∃ y3 y4 y5 y6 y7 y8 y9, bodyOf rowT rowB (.tup [tx0, tx2, tx1, .bl false]) [x0, x1, x2, x3, x4, x5, x6, x7, x8, x9, x10, x11] h = .next [x0, x1, x2, y3, y4, y5, y6, y7, y8, y9, x10, x11] h := by
  rw [row_step tx0 tx2 tx1 va0 va2 va1 false rfl rfl rfl rd0 rd2 rd1 rfl kf2 kp2]
  exact ⟨_, _, _, _, _, _, _, rfl⟩
theorem rowk3 (x0 x1 x2 x3 x4 x5 x6 x7 x8 x9 x10 x11 : Option Val) (h : Hh) : ∃ y3 y4 y5 y6 y7 y8 y9, bodyOf rowT rowB (.tup [tx4, tx5, tx6, .bl true]) [x0, x1, x2, x3, x4, x5, x6, x7, x8, x9, x10, x11] h = .next [x0, x1, x2, y3, y4, y5, y6, y7, y8, y9, x10, x11] h := by
  rw [row_step tx4 tx5 tx6 va4 va5 va6 true rfl rfl rfl rd4 rd5 rd6 rfl kf3 kp3]
  exact ⟨_, _, _, _, _, _, _, rfl⟩
theorem rowk4 (x0 x1 x2 x3 x4 x5 x6 x7 x8 x9 x10 x11 : Option Val) (h : Hh) : ∃ y3 y4 y5 y6 y7 y8 y9, bodyOf rowT rowB (.tup [tx4, tx6, tx5, .bl false]) [x0, x1, x2, x3, x4, x5, x6, x7, x8, x9, x10, x11] h = .next [x0, x1, x2, y3, y4, y5, y6, y7, y8, y9, x10, x11] h := by
  rw [row_step tx4 tx6 tx5 va4 va6 va5 false rfl rfl rfl rd4 rd6 rd5 rfl kf4 kp4]
  exact ⟨_, _, _, _, _, _, _, rfl⟩
theorem rowk5 (x0 x1 x2 x3 x4 x5 x6 x7 x8 x9 x10 x11 : Option Val) (h : Hh) : ∃ y3 y4 y5 y6 y7 y8 y9, bodyOf rowT rowB (.tup [tx7, tx5, tx8, .bl true]) [x0, x1, x2, x3, x4, x5, x6, x7, x8, x9, x10, x11] h = .next [x0, x1, x2, y3, y4, y5, y6, y7, y8, y9, x10, x11] h := by
  rw [row_step tx7 tx5 tx8 va7 va5 va8 true rfl rfl rfl rd7 rd5 rd8 rfl kf5 kp5]
  exact ⟨_, _, _, _, _, _, _, rfl⟩
theorem rowk6 (x0 x1 x2 x3 x4 x5 x6 x7 x8 x9 x10 x11 : Option Val) (h : Hh) : ∃ y3 y4 y5 y6 y7 y8 y9, bodyOf rowT rowB (.tup [tx9, tx10, tx5, .bl true]) [x0, x1, x2, x3, x4, x5, x6, x7, x8, x9, x10, x11] h = .next [x0, x1, x2, y3, y4, y5, y6, y7, y8, y9, x10, x11] h := by
  rw [row_step tx9 tx10 tx5 va9 va10 va5 true rfl rfl rfl rd9 rd10 rd5 rfl kf6 kp6]
  exact ⟨_, _, _, _, _, _, _, rfl⟩
theorem rowk7 (x0 x1 x2 x3 x4 x5 x6 x7 x8 x9 x10 x11 : Option Val) (h : Hh) : ∃ y3 y4 y5 y6 y7 y8 y9, bodyOf rowT rowB (.tup [tx9, tx10, tx11, .bl true]) [x0, x1, x2, x3, x4, x5, x6, x7, x8, x9, x10, x11] h = .next [x0, x1, x2, y3, y4, y5, y6, y7, y8, y9, x10, x11] h := by
  rw [row_step tx9 tx10 tx11 va9 va10 va11 true rfl rfl rfl rd9 rd10 rd11 rfl kf7 kp7]
  exact ⟨_, _, _, _, _, _, _, rfl⟩
theorem rowk8 (x0 x1 x2 x3 x4 x5 x6 x7 x8 x9 x10 x11 : Option Val) (h : Hh) : ∃ y3 y4 y5 y6 y7 y8 y9, bodyOf rowT rowB (.tup [tx9, tx11, tx10, .bl false]) [x0, x1, x2, x3, x4, x5, x6, x7, x8, x9, x10, x11] h = .next [x0, x1, x2, y3, y4, y5, y6, y7, y8, y9, x10, x11] h := by
  rw [row_step tx9 tx11 tx10 va9 va11 va10 false rfl rfl rfl rd9 rd11 rd10 rfl kf8 kp8]
  exact ⟨_, _, _, _, _, _, _, rfl⟩
theorem rowk9 (x0 x1 x2 x3 x4 x5 x6 x7 x8 x9 x10 x11 : Option Val) (h : Hh) : ∃ y3 y4 y5 y6 y7 y8 y9, bodyOf rowT rowB (.tup [tx12, tx11, tx13, .bl true]) [x0, x1, x2, x3, x4, x5, x6, x7, x8, x9, x10, x11] h = .next [x0, x1, x2, y3, y4, y5, y6, y7, y8, y9, x10, x11] h := by
  rw [row_step tx12 tx11 tx13 va12 va11 va13 true rfl rfl rfl rd12 rd11 rd13 rfl kf9 kp9]
  exact ⟨_, _, _, _, _, _, _, rfl⟩
theorem row_any (g : Val) (hg : g ∈ rowsV) (x0 x1 x2 x3 x4 x5 x6 x7 x8 x9 x10 x11 : Option Val) (h : Hh) : ∃ y3 y4 y5 y6 y7 y8 y9, bodyOf rowT rowB g [x0, x1, x2, x3, x4, x5, x6, x7, x8, x9, x10, x11] h = .next [x0, x1, x2, y3, y4, y5, y6, y7, y8, y9, x10, x11] h := by
  simp only [rowsV, List.mem_cons, List.mem_nil_iff, or_false] at hg
  rcases hg with q | q | q | q | q | q | q | q | q | q
  · rw [q]; exact rowk0 x0 x1 x2 x3 x4 x5 x6 x7 x8 x9 x10 x11 h
  · rw [q]; exact rowk1 x0 x1 x2 x3 x4 x5 x6 x7 x8 x9 x10 x11 h
  · rw [q]; exact rowk2 x0 x1 x2 x3 x4 x5 x6 x7 x8 x9 x10 x11 h
  · rw [q]; exact rowk3 x0 x1 x2 x3 x4 x5 x6 x7 x8 x9 x10 x11 h
  · rw [q]; exact rowk4 x0 x1 x2 x3 x4 x5 x6 x7 x8 x9 x10 x11 h
  · rw [q]; exact rowk5 x0 x1 x2 x3 x4 x5 x6 x7 x8 x9 x10 x11 h
  · rw [q]; exact rowk6 x0 x1 x2 x3 x4 x5 x6 x7 x8 x9 x10 x11 h
  · rw [q]; exact rowk7 x0 x1 x2 x3 x4 x5 x6 x7 x8 x9 x10 x11 h
  · rw [q]; exact rowk8 x0 x1 x2 x3 x4 x5 x6 x7 x8 x9 x10 x11 h
  · rw [q]; exact rowk9 x0 x1 x2 x3 x4 x5 x6 x7 x8 x9 x10 x11 h
theorem dat_rows : ∀ v ∈ rowsV, ∀ h : Hh, (dat h 29 v).isSome = true := by
  intro v hv h
  simp only [rowsV, List.mem_cons, List.mem_nil_iff, or_false] at hv
  rcases hv with q | q | q | q | q | q | q | q | q | q <;> rw [q] <;> rfl
theorem frz_rows : ∀ v ∈ rowsV, ∀ h : Hh, frzB TBf h 29 v = some v := by
  intro v hv h
  simp only [rowsV, List.mem_cons, List.mem_nil_iff, or_false] at hv
  rcases hv with q | q | q | q | q | q | q | q | q | q <;> rw [q] <;> rfl
def bodyA : Sx := (xSet 2 (xCallO TBf f_Lseed [] (xCons (xVar 0) (xCons (xVar 1) xNil))))
def bodyB : Sx := xFor (xISX (xCallB TBf f_Lmixed [] (xCons (xVar 2) (xCons (xCallP TBf f_Lwritten [] xNil) xNil)))) rowT rowB
theorem stepA (l : List Int) (k : Nat) (r : Sg) (x : Option Val) (h : Hh) : ∃ a b, bodyA (some (.lst (l.map Val.int)) :: some (.int k) :: x :: r) h = .next (some (.lst (l.map Val.int)) :: some (.int k) :: some (.ref h.length) :: r) (h ++ [.lst [.int a, .int b]]) := by
  obtain ⟨a, b, e⟩ := callO_seed TBf 40093 (by decide) l k h
  refine ⟨a, b, ?_⟩
  simp [bodyA, seed_is, xSet, xCallO, xCons, xVar, xNil, Res.bindL, ResL.bindL, ResL.bind, Res.bindS, e]
theorem rows_all (x0 x1 x2 x10 x11 : Option Val) (h : Hh) : ∀ (gs : List Val), (∀ g ∈ gs, g ∈ rowsV) → ∀ x3 x4 x5 x6 x7 x8 x9, ∃ y3 y4 y5 y6 y7 y8 y9, forItems (bodyOf rowT rowB) gs [x0, x1, x2, x3, x4, x5, x6, x7, x8, x9, x10, x11] h = .next [x0, x1, x2, y3, y4, y5, y6, y7, y8, y9, x10, x11] h
  | [], _, x3, x4, x5, x6, x7, x8, x9 => ⟨_, _, _, _, _, _, _, rfl⟩
  | g :: gs, hg, x3, x4, x5, x6, x7, x8, x9 => by
    obtain ⟨y3, y4, y5, y6, y7, y8, y9, e⟩ := row_any g (hg g List.mem_cons_self) x0 x1 x2 x3 x4 x5 x6 x7 x8 x9 x10 x11 h
    obtain ⟨z3, z4, z5, z6, z7, z8, z9, e2⟩ := rows_all x0 x1 x2 x10 x11 h gs (fun g hh => hg g (List.mem_cons_of_mem _ hh)) y3 y4 y5 y6 y7 y8 y9
    refine ⟨z3, z4, z5, z6, z7, z8, z9, ?_⟩
    unfold forItems
    rw [e]
    exact e2
theorem stepB (x0 x1 x3 x4 x5 x6 x7 x8 x9 x10 x11 : Option Val) (a b : Int) (h : Hh) : ∃ y3 y4 y5 y6 y7 y8 y9 a' b', bodyB [x0, x1, some (.ref h.length), x3, x4, x5, x6, x7, x8, x9, x10, x11] (h ++ [.lst [.int a, .int b]]) = .next [x0, x1, some (.ref h.length), y3, y4, y5, y6, y7, y8, y9, x10, x11] (h ++ [.lst [.int a', .int b']]) := by
  obtain ⟨gs, a1, b1, hg, e⟩ := callB_mixed TBf rowsV rows_pure (by decide) dat_rows frz_rows a b h.length (h ++ [.lst [.int a, .int b]]) (by simp)
  rw [set_last] at e
  obtain ⟨y3, y4, y5, y6, y7, y8, y9, e2⟩ := rows_all x0 x1 (some (.ref h.length)) x10 x11 (h ++ [.lst [.int a1, .int b1]]) gs hg x3 x4 x5 x6 x7 x8 x9
  refine ⟨y3, y4, y5, y6, y7, y8, y9, a1, b1, ?_⟩
  have w := callQ_any (h := h ++ [.lst [.int a, .int b]]) rfl written_ok
  have ei : (xISX (xCallB TBf f_Lmixed [] (xCons (xVar 2) (xCons (xCallP TBf f_Lwritten [] xNil) xNil)))) [x0, x1, some (.ref h.length), x3, x4, x5, x6, x7, x8, x9, x10, x11] (h ++ [.lst [.int a, .int b]]) = .ok (.items gs) (h ++ [.lst [.int a1, .int b1]]) := by
    have ec : ((xCallB TBf f_Lmixed [] (xCons (xVar 2) (xCons (xCallP TBf f_Lwritten [] xNil) xNil)))) [x0, x1, some (.ref h.length), x3, x4, x5, x6, x7, x8, x9, x10, x11] (h ++ [.lst [.int a, .int b]]) = .ok (.lst gs) (h ++ [.lst [.int a1, .int b1]]) := by
      rw [mixed_is]
      simp only [xCallB, xCons, xNil, xVar, xCallP, Res.bind, Res.bindL, ResL.bindL, ResL.bind, List.append_nil, List.getElem?_cons_succ, List.getElem?_cons_zero, w, e]
    unfold xISX
    rw [ec]
    show xISq _ _ _ = _
    unfold xISq
    rw [ec]
  unfold bodyB xFor
  rw [ei]
  exact e2
theorem xOr_ff {a b : Ex} {sg : Sg} {h h1 h2 : Hh} (ea : a sg h = .ok (.bl false) h1) (eb : b sg h1 = .ok (.bl false) h2) : xOr a b sg h = .ok (.bl false) h2 := by
  unfold xOr
  rw [ea]
  exact eb
def cutV : Val := .obj 8 [.int 1, .int 0, .int 0, .str [98, 117, 115, 121], .tup [.int 0, .int 2]]
def re1 : Sx := (xSet 10 (xMakeP TBf 8 f_Rule_init [] (xCons (xC (.int 1)) (xCons (xC (.int 0)) (xCons (xC (.int 0)) (xCons (xC (.str [98, 117, 115, 121])) (xCons (xTup (xCons (xC (.int 0)) (xCons (xC (.int 2)) xNil))) xNil)))))))
def re2 : Sx := (xIfS (xOr (xCallP TBf f_finer [] (xCons (xMakeP TBf 9 f_Frame_init d_Frame_init_v4 (xCons (xC (.int 3)) xNil)) (xCons (xVar 10) (xCons (xMakeP TBf 8 f_Rule_init d_Rule_init_v5 xNil) xNil)))) (xNot (xCallP TBf f_finer [] (xCons (xMakeP TBf 9 f_Frame_init d_Frame_init_v4 (xCons (xC (.int 3)) xNil)) (xCons (xMakeP TBf 8 f_Rule_init d_Rule_init_v5 xNil) (xCons (xVar 10) xNil))))))
 (xRet (xC (.bl false)))
 xSkip)
def re3 : Sx := (xIfS (xOr (xNot (xCallP TBf f_finer [] (xCons (xMakeP TBf 9 f_Frame_init d_Frame_init_v4 (xCons (xC (.int 10)) xNil)) (xCons (xMakeP TBf 8 f_Rule_init d_Rule_init_v4 (xCons (xC (.int 4)) xNil)) (xCons (xMakeP TBf 8 f_Rule_init d_Rule_init_v4 (xCons (xC (.int 8)) xNil)) xNil))))) (xUn (fun _ v => some (.bl (isNon v))) (xCallP TBf f_parting [] (xCons (xMakeP TBf 9 f_Frame_init d_Frame_init_v4 (xCons (xC (.int 10)) xNil)) (xCons (xMakeP TBf 8 f_Rule_init d_Rule_init_v4 (xCons (xC (.int 5)) xNil)) (xCons (xMakeP TBf 8 f_Rule_init d_Rule_init_v4 (xCons (xC (.int 4)) xNil)) xNil))))))
 (xRet (xC (.bl false)))
 xSkip)
def re4 : Sx := (xIfS (xOp gNe (xCallP TBf f_views [] (xCons (xMakeP TBf 9 f_Frame_init d_Frame_init_v4 (xCons (xC (.int 2)) xNil)) (xCons (xMakeP TBf 8 f_Rule_init d_Rule_init_v4 (xCons (xC (.int 2)) xNil)) xNil))) (xTup (xCons (xTup (xCons (xTup xNil) (xCons (xC (.int 1)) xNil))) (xCons (xTup (xCons (xTup (xCons (xTup (xCons (xC (.int 0)) (xCons (xC (.int 2)) (xCons (xC (.str [98, 117, 115, 121])) xNil)))) xNil)) (xCons (xC (.int 4)) xNil))) xNil))))
 (xRet (xC (.bl false)))
 xSkip)
def re5 : Sx := (xSeq (xSet 6 (xTup (xCons (xTup (xCons (xTup xNil) (xCons (xC (.int 1)) xNil))) (xCons (xTup (xCons (xTup (xCons (xTup (xCons (xC (.int 0)) (xCons (xC (.int 1)) (xCons (xC (.str [98, 117, 115, 121])) xNil)))) xNil)) (xCons (xC (.int 1)) xNil))) (xCons (xTup (xCons (xTup (xCons (xTup (xCons (xC (.int 0)) (xCons (xC (.int 2)) (xCons (xC (.str [98, 117, 115, 121])) xNil)))) xNil)) (xCons (xC (.int 2)) xNil))) (xCons (xTup (xCons (xTup (xCons (xTup (xCons (xC (.int 1)) (xCons (xC (.int 2)) (xCons (xC (.str [98, 117, 115, 121])) xNil)))) xNil)) (xCons (xC (.int 1)) xNil))) xNil))))))
 (xSeq (xIfS (xOr (xOp gNe (xCallP TBf f_views [] (xCons (xMakeP TBf 9 f_Frame_init d_Frame_init_v4 (xCons (xC (.int 2)) xNil)) (xCons (xMakeP TBf 8 f_Rule_init d_Rule_init_v5 xNil) xNil))) (xVar 6)) (xOp gNe (xCallP TBf f_views [] (xCons (xMakeP TBf 9 f_Frame_init d_Frame_init_v3 (xCons (xC (.int 2)) (xCons (xC (.int 2)) xNil))) (xCons (xMakeP TBf 8 f_Rule_init d_Rule_init_v5 xNil) xNil))) (xTup (xCons (xOp gIxX (xVar 6) (xC (.int 0))) (xCons (xTup (xCons (xOp gIxX (xOp gIxX (xVar 6) (xC (.int 2))) (xC (.int 0))) (xCons (xC (.int 1)) xNil))) xNil)))))
 (xRet (xC (.bl false)))
 xSkip)
 (xSeq (xIfS (xOp gNe (xCallP TBf f_views [] (xCons (xCmP TBf 9 f_Frame_read [] (xCons (xC (.str [108, 101, 110, 103, 116, 104, 32, 50, 32, 115, 104, 111, 114, 116, 101, 115, 116, 32, 49, 32, 116, 97, 107, 101, 110, 32, 48])) xNil)) (xCons (xMakeP TBf 8 f_Rule_init d_Rule_init_v2 (xCons (xC (.int 1)) (xCons (xC (.int 0)) (xCons (xC (.int 2)) xNil)))) xNil))) (xTup (xCons (xTup (xCons (xTup xNil) (xCons (xC (.int 1)) xNil))) (xCons (xTup (xCons (xTup (xCons (xTup (xCons (xC (.int 0)) (xCons (xC (.int 2)) (xCons (xC (.str [98, 117, 115, 121])) xNil)))) xNil)) (xCons (xC (.int 2)) xNil))) xNil))))
 (xRet (xC (.bl false)))
 xSkip)
 (xSeq (xSet 11 (xCmP TBf 9 f_Frame_read [] (xCons (xC (.str [108, 101, 110, 103, 116, 104, 32, 49, 32, 115, 104, 111, 114, 116, 101, 115, 116, 32, 49, 32, 112, 114, 105, 118, 97, 116, 101])) xNil)))
 (xSeq (xIfS (xOp gNe (xCallP TBf f_views [] (xCons (xVar 11) (xCons (xMakeP TBf 8 f_Rule_init d_Rule_init_v1 (xCons (xC (.int 1)) (xCons (xC (.int 0)) (xCons (xC (.int 0)) (xCons (xC (.str [110, 111, 110, 101])) xNil))))) xNil))) (xTup (xCons (xTup (xCons (xTup xNil) (xCons (xC (.int 2)) xNil))) (xCons (xTup (xCons (xTup (xCons (xTup (xCons (xC (.int 0)) (xCons (xC (.int 1)) (xCons (xC (.str [98, 117, 115, 121])) xNil)))) xNil)) (xCons (xC (.int 1)) xNil))) xNil))))
 (xRet (xC (.bl false)))
 xSkip)
 (xSeq (xSet 6 (xTup (xCons (xTup (xCons (xTup xNil) (xCons (xC (.int 1)) xNil))) (xCons (xTup (xCons (xTup (xCons (xTup (xCons (xC (.int 0)) (xCons (xC (.int 1)) (xCons (xC (.str [98, 117, 115, 121])) xNil)))) xNil)) (xCons (xC (.int 1)) xNil))) (xCons (xTup (xCons (xTup (xCons (xTup (xCons (xC (.int 0)) (xCons (xC (.int 1)) (xCons (xC (.str [112, 114, 105, 118, 97, 116, 101])) xNil)))) xNil)) (xCons (xC (.int 1)) xNil))) xNil)))))
 (xRet (xAnd (xOp gEq (xCallP TBf f_views [] (xCons (xVar 11) (xCons (xMakeP TBf 8 f_Rule_init d_Rule_init_v1 (xCons (xC (.int 1)) (xCons (xC (.int 0)) (xCons (xC (.int 0)) (xCons (xC (.str [111, 110, 101])) xNil))))) xNil))) (xVar 6)) (xOp gEq (xCallP TBf f_views [] (xCons (xMakeP TBf 9 f_Frame_init d_Frame_init_v3 (xCons (xC (.int 3)) (xCons (xC (.int 4)) xNil))) (xCons (xMakeP TBf 8 f_Rule_init d_Rule_init_v4 (xCons (xC (.int 3)) xNil)) xNil))) (xTup (xCons (xTup (xCons (xTup xNil) (xCons (xC (.int 1)) xNil))) xNil)))))))))))
theorem q1 (x0 x1 x2 x3 x4 x5 x6 x7 x8 x9 x10 x11 : Option Val) (o : Py.Obj) (t : Hh) : re1 [x0, x1, x2, x3, x4, x5, x6, x7, x8, x9, x10, x11] (o :: t) = .next [x0, x1, x2, x3, x4, x5, x6, x7, x8, x9, some cutV, x11] (o :: t) := by kernel_rfl
theorem q2 (x0 x1 x2 x3 x4 x5 x6 x7 x8 x9 x10 x11 : Option Val) (o : Py.Obj) (t : Hh) : re2 [x0, x1, x2, x3, x4, x5, x6, x7, x8, x9, some cutV, x11] (o :: t) = .next [x0, x1, x2, x3, x4, x5, x6, x7, x8, x9, some cutV, x11] (o :: t) := by kernel_rfl
def c3a : Ex := (xNot (xCallP TBf f_finer [] (xCons (xMakeP TBf 9 f_Frame_init d_Frame_init_v4 (xCons (xC (.int 10)) xNil)) (xCons (xMakeP TBf 8 f_Rule_init d_Rule_init_v4 (xCons (xC (.int 4)) xNil)) (xCons (xMakeP TBf 8 f_Rule_init d_Rule_init_v4 (xCons (xC (.int 8)) xNil)) xNil)))))
def c3b : Ex := (xUn (fun _ v => some (.bl (isNon v))) (xCallP TBf f_parting [] (xCons (xMakeP TBf 9 f_Frame_init d_Frame_init_v4 (xCons (xC (.int 10)) xNil)) (xCons (xMakeP TBf 8 f_Rule_init d_Rule_init_v4 (xCons (xC (.int 5)) xNil)) (xCons (xMakeP TBf 8 f_Rule_init d_Rule_init_v4 (xCons (xC (.int 4)) xNil)) xNil)))))
theorem q3a (x0 x1 x2 x3 x4 x5 x6 x7 x8 x9 x10 x11 : Option Val) (o : Py.Obj) (t : Hh) : c3a [x0, x1, x2, x3, x4, x5, x6, x7, x8, x9, some cutV, x11] (o :: t) = .ok (.bl false) (o :: t) := by kernel_rfl
theorem q3b (x0 x1 x2 x3 x4 x5 x6 x7 x8 x9 x10 x11 : Option Val) (o : Py.Obj) (t : Hh) : c3b [x0, x1, x2, x3, x4, x5, x6, x7, x8, x9, some cutV, x11] (o :: t) = .ok (.bl false) (o :: t) := by kernel_rfl
theorem q3 (x0 x1 x2 x3 x4 x5 x6 x7 x8 x9 x10 x11 : Option Val) (o : Py.Obj) (t : Hh) : re3 [x0, x1, x2, x3, x4, x5, x6, x7, x8, x9, some cutV, x11] (o :: t) = .next [x0, x1, x2, x3, x4, x5, x6, x7, x8, x9, some cutV, x11] (o :: t) := by
  have e : re3 = xIfS (xOr c3a c3b) (xRet (xC (.bl false))) xSkip := rfl
  rw [e]
  refine (xIfS_f (h1 := o :: t) ?_).trans rfl
  exact xOr_ff (q3a x0 x1 x2 x3 x4 x5 x6 x7 x8 x9 x10 x11 o t) (q3b x0 x1 x2 x3 x4 x5 x6 x7 x8 x9 x10 x11 o t)
theorem q4 (x0 x1 x2 x3 x4 x5 x6 x7 x8 x9 x10 x11 : Option Val) (o : Py.Obj) (t : Hh) : re4 [x0, x1, x2, x3, x4, x5, x6, x7, x8, x9, some cutV, x11] (o :: t) = .next [x0, x1, x2, x3, x4, x5, x6, x7, x8, x9, some cutV, x11] (o :: t) := by kernel_rfl
theorem q5 (x0 x1 x2 x3 x4 x5 x6 x7 x8 x9 x10 x11 : Option Val) (o : Py.Obj) (t : Hh) : re5 [x0, x1, x2, x3, x4, x5, x6, x7, x8, x9, some cutV, x11] (o :: t) = .ret (.bl true) (o :: t) := by kernel_rfl
theorem law_says (ns : List Int) : ∃ h', f_law [] [.lst (ns.map Val.int)] = .ok (.bl true) h' := by
  refine law_loop3 (m := 10) (cnt := (xCons (xCB gMax2 (xCons (xC (.int 1)) (xCons (xCB gMin2 (xCons (xC (.int 2)) (xCons (xCB gLenX (xCons (xVar 0) xNil)) xNil))) xNil))) xNil)) (body := xSeq bodyA bodyB) (rest := xSeq re1 (xSeq re2 (xSeq re3 (xSeq re4 re5)))) (fun sg => ?_) (fun k r h hr => ?_) (fun x r o t hr => ?_)
  · refine ⟨(if (1 : Int) < if (ns.length : Int) < 2 then (ns.length : Int) else 2 then if (ns.length : Int) < 2 then (ns.length : Int) else 2 else 1), ?_, ?_, ?_⟩
    · simp [xCons, xC, xCB, xVar, xNil, gMax2, gMin2, gLenX, gLen, dctOf, lstOf, Res.bindL, ResL.bindL, ResL.bind, Res.ofP]
    · unfold small62; split <;> split <;> simp <;> omega
    · split <;> split <;> omega
  · match r, hr with
    | [x2, x3, x4, x5, x6, x7, x8, x9, x10, x11], _ =>
      obtain ⟨a, b, e1⟩ := stepA ns k [x3, x4, x5, x6, x7, x8, x9, x10, x11] x2 h
      obtain ⟨y3, y4, y5, y6, y7, y8, y9, a2, b2, e2⟩ := stepB (some (.lst (ns.map Val.int))) (some (.int k)) x3 x4 x5 x6 x7 x8 x9 x10 x11 a b h
      obtain ⟨o, t, e3⟩ := cons_of h (.lst [.int a2, .int b2])
      refine ⟨[some (.ref h.length), y3, y4, y5, y6, y7, y8, y9, x10, x11], o, t, ?_, rfl⟩
      rw [xSeq_n e1, e2, e3]
  · match r, hr with
    | [x2, x3, x4, x5, x6, x7, x8, x9, x10, x11], _ =>
      refine ⟨o :: t, ?_⟩
      rw [xSeq_n (q1 _ _ _ _ _ _ _ _ _ _ _ _ o t), xSeq_n (q2 _ _ _ _ _ _ _ _ _ _ none _ o t), xSeq_n (q3 _ _ _ _ _ _ _ _ _ _ none _ o t), xSeq_n (q4 _ _ _ _ _ _ _ _ _ _ none _ o t)]
      exact q5 _ _ _ _ _ _ _ _ _ _ none _ o t
end Law
theorem PySem.Challenge.cw_dimdays_k47_comparing_known_holds : PySem.Challenge.rw_dimdays_k47_comparing_known.Holds := by
  exact Law.ends fun ns _ _ => Law.law_says ns
