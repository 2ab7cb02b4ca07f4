import PyProof.Rows.All
import Wide.All
import OpenK.AllK
import Wide.FinOn
import HandS.Base
import HandS.Lambda
import HandS.Call
import HandS.List
import HandS.Comp
import HandS.Ends
import HandS.Dict
import HandS.Iter
import HandS.Text
import HandS.Exc
import HandS.Words
import HandS.Defaults
import HandS.HeadHook2
import KE.KDictKeyed
import HandS.ExcOwn
import HandS.CallSlots
import HandS.HeadEnd
import HandS.EndBits
import HandS.IsInst
import HandS.Property
import HandS.Star
import HandS.SortRule
import KE.KSortTupAny
import HandS.Head2
import HandS.TryOnly
import HandS.FStr
import HandS.TupAny
import HandS.More
import HandS.RaiseMore
import HandS.OwnEq
import KE.KCallOwn
import PyProof.InstNe
import HandS.Conv
import HandS.Style
import HandS.Deep
import HandS.ClsMeth
import KE.KExcSuper
import KE.KExcInit
import HandS.DictComp
import KE.GoesEnum
import KE.GoesZip
import HandS.MakeKwOnly
import HandS.Strs
import HandS.Replace
import HandS.ReplaceLit
import HandS.ReplaceDef
import PyProof.ToksMono
import HandS.NoneIn
import HandS.SetFor
import KE.KDictCopyH
import KE.SortData
import PyProof.AutoSeq1
import PyProof.SliceList
import KE.KDictSum
import PyProof.DictMoreH
import KE.DataCmp
import KE.DataFind
import HandS.ExcInit
import HandS.ExcSuper
import HandS.ExcIs
import HandS.TryMany
import PyProof.ExcBaseAll.IndexError
import KE.KExcIs
import PyProof.DictUpdate
import KE.KStar
import KE.KParD
import PyProof.NeKinds
import PyProof.P3Eq
import PyProof.ExcBaseAll.ValueError
import HandS.TupMul
import HandS.ExcValue
import PySem.Challenge.RW_dimdays_k01_errors_and_what_they_keep
set_option Elab.async false
set_option linter.all false
set_option maxRecDepth 100000
set_option maxHeartbeats 4000000
namespace Py
open PySem PySem.Spec PyProof.Rows L2
inductive Val where
  | non | bl (b : Bool) | int (i : Int) | str (s : List Nat) | tup (xs : List Val) | lst (xs : List Val) | obj (c : Nat) (fs : List Val) | ref (k : Nat) | glo (g : Nat) | dct (ks vs : List Val)
inductive Obj where
  | lst (xs : List Val) | ins (c : Nat) (fs : List Val) | dct (ks vs : List Val) | exn (c : Nat) (fs : List Val)
abbrev Hh := List Obj
abbrev Sg := List (Option Val)
inductive Res where
  | ok (v : Val) (h : Hh) | exc (c : Nat) (fs : List Val) (h : Hh) | bad
inductive ResS where
  | next (sg : Sg) (h : Hh) | ret (v : Val) (h : Hh) | brk (sg : Sg) (h : Hh) | cont (sg : Sg) (h : Hh) | exc (c : Nat) (fs : List Val) (sg : Sg) (h : Hh) | bad
inductive ResG where
  | ok (sg : Sg) (h : Hh) | bad
inductive ResL where
  | ok (vs : List Val) (h : Hh) | exc (c : Nat) (fs : List Val) (h : Hh) | bad
abbrev Ex := Sg → Hh → Res
abbrev Sx := Sg → Hh → ResS
abbrev Gx := Val → Sg → Hh → ResG
abbrev Lx := Sg → Hh → ResL
def Res.bind : Res → (Val → Hh → Res) → Res
  | .ok v h, k => k v h
  | .exc c fs h, _ => .exc c fs h
  | .bad, _ => .bad
def Res.bindS (sg : Sg) : Res → (Val → Hh → ResS) → ResS
  | .ok v h, k => k v h
  | .exc c fs h, _ => .exc c fs sg h
  | .bad, _ => .bad
def Res.bindL : Res → (Val → Hh → ResL) → ResL
  | .ok v h, k => k v h
  | .exc c fs h, _ => .exc c fs h
  | .bad, _ => .bad
def ResL.bind : ResL → (List Val → Hh → Res) → Res
  | .ok v h, k => k v h
  | .exc c fs h, _ => .exc c fs h
  | .bad, _ => .bad
def ResL.bindL : ResL → (List Val → Hh → ResL) → ResL
  | .ok v h, k => k v h
  | .exc c fs h, _ => .exc c fs h
  | .bad, _ => .bad
def ResG.bindS : ResG → (Sg → Hh → ResS) → ResS
  | .ok sg h, k => k sg h
  | .bad, _ => .bad
structure Tb where
  cn : Nat → Str
  fn : Nat → List Str
  gn : Nat → Str
  P : Program
  w : World
  ts : List (Addr × Str)
mutual
def nkV : Val → Option NestedKey
  | .non => some .none
  | .bl b => some (.num (if b = true then 1 else 0))
  | .int i => some (.num i)
  | .str s => some (.text ⟨s.toArray⟩)
  | .tup vs => (nkVs vs).map .tup
  | _ => none
def nkVs : List Val → Option (List NestedKey)
  | [] => some []
  | v :: vs => match nkV v, nkVs vs with
    | some a, some b => some (a :: b)
    | _, _ => none
end
def KeyT (k : Val) : Prop := ∃ l, nkV k = some (.tup l) ∧ (NestedKey.tup l).depth ≤ 8
def KeyL (k : Val) : Prop := (∃ i, k = .int i) ∨ ∃ s, k = .str s
def KeysOk (ks : List Val) : Prop := ((∀ k ∈ ks, KeyT k) ∨ (∀ k ∈ ks, KeyL k)) ∧ (ks.map nkV).Nodup
def hashV (w : World) (k : Val) : Int := match nkV k with
  | some n => n.hash w
  | none => 0
def DO (d : Addr) (es : Array DictEntry) (ep : Nat) : HO := .ext fun h => (d == sysModules) = false ∧ es.size ≤ sizeLine ∧ ∃ o, h.get? d = some o ∧ o.ExactDict ∧ o.data = .dict es ep
def Ents (w : World) : List DictEntry → List Val → List V → List V → Prop
  | [], [], [], [] => True
  | e :: es, k :: ks, x :: xs, y :: ys => (e.hash = hashV w k ∧ RelV x e.key ∧ RelV y e.val) ∧ Ents w es ks xs ys
  | _, _, _, _ => False
mutual
inductive VR (T : Tb) (K : PySem.W.Frag) (io : Nat → Addr) (n : Nat) (F : Hp) : Val → V → Prop where
  | non : VR T K io n F .non .non
  | bl (b : Bool) : VR T K io n F (.bl b) (.bl b)
  | int (i : Int) : VR T K io n F (.int i) (.int i)
  | str (s : List Nat) : VR T K io n F (.str s) (.str ⟨s.toArray⟩)
  | ref (k : Nat) (h : k < n) : VR T K io n F (.ref k) (.ref (io k))
  | tup {vs : List Val} {a : Addr} {xs : List V} (h : SqT K F a xs) (r : VRs T K io n F vs xs) : VR T K io n F (.tup vs) (.ref a)
  | lst {vs : List Val} {a : Addr} {xs : List V} (h : SqL K F a xs) (r : VRs T K io n F vs xs) : VR T K io n F (.lst vs) (.ref a)
  | obj {c : Nat} {vs : List Val} {a dx : Addr} {xs : List V} (h : F a = some (.ins (He.ga K (T.cn c)) dx ((T.fn c).zip xs))) (hd : F dx = some (.own a)) (r : VRs T K io n F vs xs) (hl : xs.length = (T.fn c).length ∧ PySem.W.makesIn K (He.ga K (T.cn c)) = true) : VR T K io n F (.obj c vs) (.ref a)
  | glo (g : Nat) : VR T K io n F (.glo g) (.ref (He.ga K (T.gn g)))
  | dct {ks vs : List Val} {a : Addr} {es : Array DictEntry} {ep : Nat} {xs ys : List V} (h : F a = some (DO a es ep)) (hk : KeysOk ks) (he : Ents T.w es.toList ks xs ys) (r1 : VRs T K io n F ks xs) (r2 : VRs T K io n F vs ys) : VR T K io n F (.dct ks vs) (.ref a)
inductive VRs (T : Tb) (K : PySem.W.Frag) (io : Nat → Addr) (n : Nat) (F : Hp) : List Val → List V → Prop where
  | nil : VRs T K io n F [] []
  | cons {v : Val} {x : V} {vs : List Val} {xs : List V} (h : VR T K io n F v x) (t : VRs T K io n F vs xs) : VRs T K io n F (v :: vs) (x :: xs)
end
section
variable {T : Tb} {K : PySem.W.Frag} {io io' : Nat → Addr} {n n' : Nat} {F F' H H' : Hp}
theorem sqT_mono (hF : ∀ b o, F b = some o → F' b = some o) {a : Addr} {xs : List V} (h : SqT K F a xs) : SqT K F' a xs := by
  rcases h with (h | ⟨o, h⟩) | h
  · exact .inl (.inl (hF _ _ h))
  · exact .inl (.inr ⟨o, hF _ _ h⟩)
  · exact .inr h
theorem sqL_mono (hF : ∀ b o, F b = some o → F' b = some o) {a : Addr} {xs : List V} (h : SqL K F a xs) : SqL K F' a xs := by
  rcases h with (h | ⟨o, h⟩) | h
  · exact .inl (.inl (hF _ _ h))
  · exact .inl (.inr ⟨o, hF _ _ h⟩)
  · exact .inr h
mutual
theorem VR.mono (hn : n ≤ n') (hi : ∀ k, k < n → io' k = io k) (hF : ∀ b o, F b = some o → F' b = some o) : ∀ {v : Val} {x : V}, VR T K io n F v x → VR T K io' n' F' v x
  | _, _, .non => .non
  | _, _, .bl b => .bl b
  | _, _, .int i => .int i
  | _, _, .str s => .str s
  | _, _, .ref k h => by rw [← hi k h]; exact .ref k (Nat.lt_of_lt_of_le h hn)
  | _, _, .tup h r => .tup (sqT_mono hF h) (VRs.mono hn hi hF r)
  | _, _, .lst h r => .lst (sqL_mono hF h) (VRs.mono hn hi hF r)
  | _, _, .obj h hd r hl => .obj (hF _ _ h) (hF _ _ hd) (VRs.mono hn hi hF r) hl
  | _, _, .glo g => .glo g
  | _, _, .dct h hk he r1 r2 => .dct (hF _ _ h) hk he (VRs.mono hn hi hF r1) (VRs.mono hn hi hF r2)
theorem VRs.mono (hn : n ≤ n') (hi : ∀ k, k < n → io' k = io k) (hF : ∀ b o, F b = some o → F' b = some o) : ∀ {v : List Val} {x : List V}, VRs T K io n F v x → VRs T K io' n' F' v x
  | _, _, .nil => .nil
  | _, _, .cons h t => .cons (VR.mono hn hi hF h) (VRs.mono hn hi hF t)
end
theorem VRs.length : ∀ {vs : List Val} {xs : List V}, VRs T K io n F vs xs → vs.length = xs.length
  | _, _, .nil => rfl
  | _, _, .cons _ t => congrArg Nat.succ (VRs.length t)
theorem VRs.append : ∀ {vs ws : List Val} {xs ys : List V}, VRs T K io n F vs xs → VRs T K io n F ws ys → VRs T K io n F (vs ++ ws) (xs ++ ys)
  | _, _, _, _, .nil, h => h
  | _, _, _, _, .cons a t, h => .cons a (VRs.append t h)
theorem VRs.get : ∀ {vs : List Val} {xs : List V} {i : Nat} {v : Val}, VRs T K io n F vs xs → vs[i]? = some v → ∃ x, xs[i]? = some x ∧ VR T K io n F v x
  | _, _, _, _, .nil, h => by simp at h
  | _, _, 0, _, .cons a t, h => by simp at h; subst h; exact ⟨_, rfl, a⟩
  | _, _, i + 1, v, .cons a t, h => by
    obtain ⟨x, e, r⟩ := VRs.get (i := i) (v := v) t (by simpa using h)
    exact ⟨x, by simpa using e, r⟩
theorem VRs.set {v : Val} {x : V} (r : VR T K io n F v x) : ∀ {vs : List Val} {xs : List V} (i : Nat), VRs T K io n F vs xs → VRs T K io n F (vs.set i v) (xs.set i x)
  | _, _, _, .nil => .nil
  | _, _, 0, .cons _ t => .cons r t
  | _, _, i + 1, .cons a t => .cons a (VRs.set r i t)
theorem VRs.take : ∀ {vs : List Val} {xs : List V} (i : Nat), VRs T K io n F vs xs → VRs T K io n F (vs.take i) (xs.take i)
  | _, _, 0, _ => .nil
  | _, _, _ + 1, .nil => .nil
  | _, _, i + 1, .cons a t => .cons a (VRs.take i t)
theorem VRs.drop : ∀ {vs : List Val} {xs : List V} (i : Nat), VRs T K io n F vs xs → VRs T K io n F (vs.drop i) (xs.drop i)
  | _, _, 0, h => h
  | _, _, _ + 1, .nil => .nil
  | _, _, i + 1, .cons a t => VRs.drop i t
end
def ExV (C a : Addr) (o : Option Addr) : HO := .ext fun h => ∃ (oe : PySem.Obj) (fv : Array Value), h.get? a = some oe ∧ oe.cls = .ref C ∧ oe.dict = o ∧ oe.data = .fields fv
def OR (T : Tb) (K : PySem.W.Frag) (io : Nat → Addr) (n : Nat) (F H : Hp) (a : Addr) : Obj → Prop
  | .lst vs => ∃ xs, H a = some (.lst xs) ∧ VRs T K io n F vs xs
  | .dct ks vs => ∃ es ep xs ys, H a = some (DO a es ep) ∧ (ep = es.size ∧ KeysOk ks) ∧ Ents T.w es.toList ks xs ys ∧ VRs T K io n F ks xs ∧ VRs T K io n F vs ys
  | .ins c vs => ∃ dx xs, H a = some (.ins (He.ga K (T.cn c)) dx (((T.fn c).take vs.length).zip xs)) ∧ H dx = some (.own a) ∧ VRs T K io n F vs xs ∧ vs.length ≤ (T.fn c).length ∧ PySem.W.makesIn K (He.ga K (T.cn c)) = true
  | .exn c vs => ∃ (o : Option Addr) (xs : List V), H a = some (ExV (He.ga K (T.cn c)) a o) ∧ (∀ dx, o = some dx → H dx = some (.xd ((T.fn c).zip xs))) ∧ VRs T K io n F vs xs ∧ vs.length = (T.fn c).length ∧ (o = none → vs = [])
def TabF (F H : Hp) (P : Addr) (q : Str) : Prop := F P = none ∧ ∃ ps : Array Value, H P = some (.tbl ps) ∧ TriplesOk ps.toList ∧ ∀ (pos : Pos) (cv : Value), codeAmong pos ps.toList = some cv → ∃ c, cv = .ref c ∧ F c = some (LamX.CodeO c q)
theorem TabF.mono {F F' H H' : Hp} {P : Addr} {q : Str} (t : TabF F H P q) (hn : ∀ ps o, F P = none → H P = some (.tbl ps) → F' P = some o → False) (hF : ∀ c o, F c = some o → (∀ xs, o ≠ .lst xs) → F' c = some o) (hP : ∀ ps, H P = some (.tbl ps) → H' P = some (.tbl ps)) : TabF F' H' P q := by
  obtain ⟨h0, ps, h1, h2, h3⟩ := t
  refine ⟨?_, ps, hP _ h1, h2, fun pos cv hc => ?_⟩
  · cases e : F' P with
    | none => rfl
    | some o => exact (hn ps o h0 h1 e).elim
  obtain ⟨c, e1, e2⟩ := h3 pos cv hc
  exact ⟨c, e1, hF _ _ e2 (fun xs z => by unfold LamX.CodeO at z; cases z)⟩
structure SR (T : Tb) (K : PySem.W.Frag) (io : Nat → Addr) (h : Hh) (F H : Hp) : Prop where
  sub : ∀ b o, F b = some o → H b = some o
  dis : ∀ k, k < h.length → F (io k) = none
  inj : ∀ j k, j < h.length → k < h.length → io j = io k → j = k
  obj : ∀ k o, h[k]? = some o → OR T K io h.length F H (io k) o
  tabs : ∀ p ∈ T.ts, TabF F H p.1 p.2
structure Step (io : Nat → Addr) (n : Nat) (F H : Hp) (io' : Nat → Addr) (n' : Nat) (F' H' : Hp) : Prop where
  le : n ≤ n'
  eq : ∀ k, k < n → io' k = io k
  phi : ∀ b o, F b = some o → F' b = some o
  frm : ∀ b o, H b = some o → (∀ k, k < n → io k ≠ b) → H' b = some o ∨ ∃ ps ps', o = .tbl ps ∧ H' b = some (.tbl ps')
  new : ∀ k, n ≤ k → k < n' → H (io' k) = none
  fresh : ∀ b o, F' b = some o → F b = some o ∨ H b = none ∨ ∃ y, o = .own y
theorem Step.of {io : Nat → Addr} {n : Nat} {F H : Hp} {io' : Nat → Addr} {n' : Nat} {F' H' : Hp} (le : n ≤ n') (eq : ∀ k, k < n → io' k = io k) (phi : ∀ b o, F b = some o → F' b = some o) (frame : ∀ b o, H b = some o → (∀ k, k < n → io k ≠ b) → H' b = some o)
    (new : ∀ k, n ≤ k → k < n' → H (io' k) = none) (fresh : ∀ b o, F' b = some o → F b = some o ∨ H b = none ∨ ∃ y, o = .own y) : Step io n F H io' n' F' H' :=
  ⟨le, eq, phi, fun b o e hb => .inl (frame b o e hb), new, fresh⟩
theorem Step.frame {io : Nat → Addr} {n : Nat} {F H : Hp} {io' : Nat → Addr} {n' : Nat} {F' H' : Hp} (s : Step io n F H io' n' F' H') (b : Addr) (o : HO) (e : H b = some o) (hb : ∀ k, k < n → io k ≠ b) (nt : ∀ ps, o ≠ .tbl ps := by first | nofun | (intro ps z; unfold L2.DO at z; cases z)) : H' b = some o := by
  rcases s.frm b o e hb with q | ⟨ps, _, q, _⟩
  · exact q
  · exact absurd q (nt ps)
theorem Step.dom {io : Nat → Addr} {n : Nat} {F H : Hp} {io' : Nat → Addr} {n' : Nat} {F' H' : Hp} (s : Step io n F H io' n' F' H') {b : Addr} {o : HO} (e : H b = some o) (hb : ∀ k, k < n → io k ≠ b) : ∃ u, H' b = some u := by
  rcases s.frm b o e hb with q | ⟨_, _, _, q⟩
  · exact ⟨_, q⟩
  · exact ⟨_, q⟩
section
variable {T : Tb} {K : PySem.W.Frag} {io io1 io2 : Nat → Addr} {n n1 n2 : Nat} {F F1 F2 H H1 H2 : Hp} {h h1 h2 : Hh}
theorem OR.there {a : Addr} {o : Obj} (r : OR T K io n F H a o) : ∃ u, H a = some u := by
  cases o with
  | lst vs => obtain ⟨xs, e, _⟩ := r; exact ⟨_, e⟩
  | exn c vs => obtain ⟨dx, xs, e, _⟩ := r; exact ⟨_, e⟩
  | ins c vs => obtain ⟨dx, xs, e, _⟩ := r; exact ⟨_, e⟩
  | dct ks vs => obtain ⟨es, ep, xs, ys, e, _⟩ := r; exact ⟨_, e⟩
theorem SR.there (s : SR T K io h F H) {k : Nat} (hk : k < h.length) : ∃ u, H (io k) = some u := (s.obj k h[k] (by simp [hk])).there
theorem Step.refl : Step io n F H io n F H := Step.of (Nat.le_refl _) (fun _ _ => rfl) (fun _ _ e => e) (fun _ _ e _ => e) (fun k a b => absurd b (Nat.not_lt.mpr a)) (fun _ _ e => .inl e)
theorem Step.trans (a : Step io n F H io1 h1.length F1 H1) (s : SR T K io1 h1 F1 H1) (b : Step io1 h1.length F1 H1 io2 n2 F2 H2) : Step io n F H io2 n2 F2 H2 where
  le := Nat.le_trans a.le b.le
  eq := fun k hk => (b.eq k (Nat.lt_of_lt_of_le hk a.le)).trans (a.eq k hk)
  phi := fun c o e => b.phi c o (a.phi c o e)
  frm := fun c o e hc => by
    have side : ∀ k, k < h1.length → io1 k ≠ c := fun k hk q => by
      by_cases hk' : k < n
      · exact hc k hk' ((a.eq k hk').symm.trans q)
      · have z := a.new k (by omega) hk
        rw [q, e] at z
        cases z
    rcases a.frm c o e hc with q | ⟨ps, ps1, e1, q⟩
    · exact b.frm c o q side
    · rcases b.frm c _ q side with q2 | ⟨_, ps2, _, q2⟩
      · exact .inr ⟨ps, ps1, e1, q2⟩
      · exact .inr ⟨ps, ps2, e1, q2⟩
  new := fun k h1' h2' => by
    by_cases hk : k < h1.length
    · rw [b.eq k hk]; exact a.new k h1' hk
    · have z := b.new k (by omega) h2'
      cases q : H (io2 k) with
      | none => rfl
      | some o =>
        by_cases hc : ∀ j, j < n → io j ≠ io2 k
        · obtain ⟨u0, hu0⟩ := a.dom q hc; rw [hu0] at z; cases z
        · exfalso
          apply hc
          intro j hj e
          obtain ⟨u, hu⟩ := s.there (k := j) (Nat.lt_of_lt_of_le hj a.le)
          rw [a.eq j hj, e, z] at hu
          cases hu
  fresh := fun c o e => by
    rcases b.fresh c o e with q | q | q
    · exact a.fresh c o q
    · refine .inr (.inl ?_)
      cases z : H c with
      | none => rfl
      | some u =>
        by_cases hc : ∀ j, j < n → io j ≠ c
        · obtain ⟨u0, hu0⟩ := a.dom z hc; rw [hu0] at q; cases q
        · exfalso
          apply hc
          intro j hj e2
          obtain ⟨u2, hu⟩ := s.there (k := j) (Nat.lt_of_lt_of_le hj a.le)
          rw [a.eq j hj, e2, q] at hu
          cases hu
    · exact .inr (.inr q)
theorem VR.step {v : Val} {x : V} (r : VR T K io n F v x) (a : Step io n F H io1 n1 F1 H1) : VR T K io1 n1 F1 v x := r.mono a.le a.eq a.phi
theorem VRs.step {v : List Val} {x : List V} (r : VRs T K io n F v x) (a : Step io n F H io1 n1 F1 H1) : VRs T K io1 n1 F1 v x := r.mono a.le a.eq a.phi
end
structure RSt (T : Tb) (K : PySem.W.Frag) (io : Nat → Addr) (n : Nat) (F : Hp) (sg : Sg) (σ : L2.St) : Prop where
  len : sg.length = σ.length
  at_ : ∀ (i : Nat) (v : Val), sg[i]? = some (some v) → ∃ x, σ[i]? = some (some x) ∧ VR T K io n F v x
section
variable {T : Tb} {K : PySem.W.Frag} {io io1 : Nat → Addr} {n n1 : Nat} {F F1 H H1 : Hp} {sg : Sg} {σ : L2.St}
theorem RSt.step (r : RSt T K io n F sg σ) (a : Step io n F H io1 n1 F1 H1) : RSt T K io1 n1 F1 sg σ :=
  ⟨r.len, fun i v e => let ⟨x, e1, e2⟩ := r.at_ i v e; ⟨x, e1, e2.step a⟩⟩
theorem RSt.set (r : RSt T K io n F sg σ) (i : Nat) {v : Val} {x : V} (q : VR T K io n F v x) : RSt T K io n F (sg.set i (some v)) (σ.set i (some x)) := by
  refine ⟨by simp [r.len], fun j w e => ?_⟩
  by_cases hj : i = j
  · subst hj
    by_cases hl : i < sg.length
    · rw [List.getElem?_set_self hl] at e
      obtain rfl : v = w := by simpa using e
      exact ⟨x, by rw [List.getElem?_set_self (by rw [← r.len]; exact hl)], q⟩
    · rw [List.getElem?_eq_none (by simpa using hl)] at e; cases e
  · rw [List.getElem?_set_ne hj] at e
    obtain ⟨y, e1, e2⟩ := r.at_ j w e
    exact ⟨y, by rw [List.getElem?_set_ne hj]; exact e1, e2⟩
end
def XR (T : Tb) (K : PySem.W.Frag) (io : Nat → Addr) (n : Nat) (F H : Hp) (c : Nat) (fs : List Val) (d : Option Addr) : Prop :=
  match T.fn c with
  | [] => d = none ∧ fs = []
  | f => ∃ dd xs, d = some dd ∧ H dd = some (.xd (f.zip xs)) ∧ VRs T K io n F fs xs ∧ xs.length = f.length
structure Pt where
  T : Tb
  K : PySem.W.Frag
  io : Nat → Addr
  h : Hh
  F : Hp
  H : Hp
def WExc (T : Tb) (K : PySem.W.Frag) (io : Nat → Addr) (n : Nat) (F H : Hp) (c : Nat) (fs : List Val) (h' : Hh) (W : XK) : Prop :=
  ∀ io' F' H' d, Step io n F H io' h'.length F' H' → SR T K io' h' F' H' → XR T K io' h'.length F' H' c fs d → W (.ref (He.ga K (T.cn c))) d H'
def Wants (T : Tb) (K : PySem.W.Frag) (io : Nat → Addr) (n : Nat) (F H : Hp) (W : XK) (Q : VK) : Res → Prop
  | .ok v h' => ∀ io' F' H' x, Step io n F H io' h'.length F' H' → SR T K io' h' F' H' → VR T K io' h'.length F' v x → Q x H'
  | .exc c fs h' => WExc T K io n F H c fs h' W
  | .bad => False
def WantsL (T : Tb) (K : PySem.W.Frag) (io : Nat → Addr) (n : Nat) (F H : Hp) (W : XK) (Q : List V → Hp → Prop) : ResL → Prop
  | .ok v h' => ∀ io' F' H' x, Step io n F H io' h'.length F' H' → SR T K io' h' F' H' → VRs T K io' h'.length F' v x → Q x H'
  | .exc c fs h' => WExc T K io n F H c fs h' W
  | .bad => False
def WantsB (T : Tb) (K : PySem.W.Frag) (io : Nat → Addr) (n : Nat) (F H : Hp) (W : XK) (Q : Bool → Hp → Prop) : Res → Prop
  | .ok (.bl b) h' => ∀ io' F' H', Step io n F H io' h'.length F' H' → SR T K io' h' F' H' → Q b H'
  | .exc c fs h' => WExc T K io n F H c fs h' W
  | _ => False
def WantsG (T : Tb) (K : PySem.W.Frag) (io : Nat → Addr) (n : Nat) (F H : Hp) (Q : L2.St → Hp → Prop) : ResG → Prop
  | .ok sg' h' => ∀ io' F' H' σ', Step io n F H io' h'.length F' H' → SR T K io' h' F' H' → RSt T K io' h'.length F' sg' σ' → Q σ' H'
  | .bad => False
def WantsS (T : Tb) (K : PySem.W.Frag) (io : Nat → Addr) (n : Nat) (F H : Hp) (W : WX) (D : Ends) : ResS → Prop
  | .next sg' h' => ∀ io' F' H' σ', Step io n F H io' h'.length F' H' → SR T K io' h' F' H' → RSt T K io' h'.length F' sg' σ' → D.nx σ' H'
  | .brk sg' h' => ∀ io' F' H' σ', Step io n F H io' h'.length F' H' → SR T K io' h' F' H' → RSt T K io' h'.length F' sg' σ' → D.bk σ' H'
  | .cont sg' h' => ∀ io' F' H' σ', Step io n F H io' h'.length F' H' → SR T K io' h' F' H' → RSt T K io' h'.length F' sg' σ' → D.ct σ' H'
  | .ret v h' => ∀ io' F' H' x, Step io n F H io' h'.length F' H' → SR T K io' h' F' H' → VR T K io' h'.length F' v x → D.rt x H'
  | .exc c fs sg' h' => ∀ io' F' H' σ' d, Step io n F H io' h'.length F' H' → SR T K io' h' F' H' → RSt T K io' h'.length F' sg' σ' → XR T K io' h'.length F' H' c fs d → W (.ref (He.ga K (T.cn c))) d σ' H'
  | .bad => False
def tE (T : Tb) (K : PySem.W.Frag) (W : WX) (f : Ex) : TE := fun σ H Q => ∃ io h F sg, SR T K io h F H ∧ RSt T K io h.length F sg σ ∧ Wants T K io h.length F H (fun c d H' => W c d σ H') Q (f sg h)
def tL (T : Tb) (K : PySem.W.Frag) (W : WX) (f : Lx) : TA := fun σ H Q => ∃ io h F sg, SR T K io h F H ∧ RSt T K io h.length F sg σ ∧ WantsL T K io h.length F H (fun c d H' => W c d σ H') Q (f sg h)
def tB1 (T : Tb) (K : PySem.W.Frag) (W : WX) (f : Ex) : TT := fun σ H Q => ∃ io h F sg, SR T K io h F H ∧ RSt T K io h.length F sg σ ∧ WantsB T K io h.length F H (fun c d H' => W c d σ H') Q (f sg h)
def tS (T : Tb) (K : PySem.W.Frag) (W : WX) (f : Sx) : TS := fun D σ H => ∃ io h F sg, SR T K io h F H ∧ RSt T K io h.length F sg σ ∧ WantsS T K io h.length F H W D (f sg h)
def tG1 (T : Tb) (K : PySem.W.Frag) (g : Gx) : TG := fun x σ H Q => ∃ io h F sg v, SR T K io h F H ∧ RSt T K io h.length F sg σ ∧ VR T K io h.length F v x ∧ WantsG T K io h.length F H Q (g v sg h)
theorem pe_imp {X : Cx} {e : Expr} {t t' : TE} (h : PE X e t) (i : ∀ σ H Q, t' σ H Q → t σ H Q) : PE X e t' := ⟨fun pins s σ H Q I q => h.run pins s σ H Q I (i σ H Q q)⟩
theorem pt_imp {X : Cx} {e : Expr} {t t' : TT} (h : PT X e t) (i : ∀ σ H Q, t' σ H Q → t σ H Q) : PT X e t' := ⟨fun pins s σ H Q I q => h.run pins s σ H Q I (i σ H Q q)⟩
theorem pw_imp {X : Cx} {e : Expr} {t t' : TT} (h : PW X e t) (i : ∀ σ H Q, t' σ H Q → t σ H Q) : PW X e t' := ⟨fun wh pins s σ H Q I q => h.run wh pins s σ H Q I (i σ H Q q)⟩
theorem pa_imp {X : Cx} {e : List Expr} {t t' : TA} (h : PA X e t) (i : ∀ σ H Q, t' σ H Q → t σ H Q) : PA X e t' := ⟨fun pos pins s σ H Q I q => h.run pos pins s σ H Q I (i σ H Q q)⟩
theorem ps_imp {X : Cx} {e : Stmt} {t t' : TS} (h : PS X e t) (i : ∀ D σ H, t' D σ H → t D σ H) : PS X e t' := ⟨fun pins s σ H Q I q => h.run pins s σ H Q I (i Q σ H q)⟩
theorem pss_imp {X : Cx} {e : List Stmt} {t t' : TS} (h : PSs X e t) (i : ∀ D σ H, t' D σ H → t D σ H) : PSs X e t' := ⟨fun pins s σ H Q I q => h.run pins s σ H Q I (i Q σ H q)⟩
theorem pg_imp {X : Cx} {e : Expr} {t t' : TG} (h : PG X e t) (i : ∀ x σ H Q, t' x σ H Q → t x σ H Q) : PG X e t' := ⟨fun pins s σ H v u Q I r q => h.run pins s σ H v u Q I r (i v σ H Q q)⟩
end Py
namespace Py
open PySem PySem.Spec PyProof.Rows L2
abbrev JE (T : Tb) (X : Cx) (W : WX) (e : Expr) (f : Ex) : Prop := PE X e (tE T X.K W f)
abbrev JT (T : Tb) (X : Cx) (W : WX) (e : Expr) (f : Ex) : Prop := PT X e (tB1 T X.K W f)
abbrev JW (T : Tb) (X : Cx) (W : WX) (e : Expr) (f : Ex) : Prop := PW X e (tB1 T X.K W f)
abbrev JA (T : Tb) (X : Cx) (W : WX) (e : List Expr) (f : Lx) : Prop := PA X e (tL T X.K W f)
abbrev JS (T : Tb) (X : Cx) (W : WX) (e : Stmt) (f : Sx) : Prop := PS X e (tS T X.K W f)
abbrev JSs (T : Tb) (X : Cx) (W : WX) (e : List Stmt) (f : Sx) : Prop := PSs X e (tS T X.K W f)
abbrev JG (T : Tb) (X : Cx) (e : Expr) (g : Gx) : Prop := PG X e (tG1 T X.K g)
section
variable {T : Tb} {K : PySem.W.Frag} {io io1 io2 : Nat → Addr} {n n1 n2 : Nat} {F F1 F2 H H1 H2 : Hp} {h h1 h2 : Hh} {W : XK} {Q : VK}
theorem WExc.rebase {c : Nat} {fs : List Val} {h' : Hh} (w : WExc T K io n F H c fs h' W) (a : Step io n F H io1 h1.length F1 H1) (s : SR T K io1 h1 F1 H1) : WExc T K io1 h1.length F1 H1 c fs h' W :=
  fun io' F' H' d st sr xr => w io' F' H' d (a.trans s st) sr xr
theorem Wants.rebase {r : Res} (w : Wants T K io n F H W Q r) (a : Step io n F H io1 h1.length F1 H1) (s : SR T K io1 h1 F1 H1) : Wants T K io1 h1.length F1 H1 W Q r := by
  cases r with
  | ok v h' => exact fun io' F' H' x st sr vr => w io' F' H' x (a.trans s st) sr vr
  | exc c fs h' => exact WExc.rebase w a s
  | bad => exact w
theorem WantsL.rebase {Q : List V → Hp → Prop} {r : ResL} (w : WantsL T K io n F H W Q r) (a : Step io n F H io1 h1.length F1 H1) (s : SR T K io1 h1 F1 H1) : WantsL T K io1 h1.length F1 H1 W Q r := by
  cases r with
  | ok v h' => exact fun io' F' H' x st sr vr => w io' F' H' x (a.trans s st) sr vr
  | exc c fs h' => exact WExc.rebase w a s
  | bad => exact w
theorem WantsB.rebase {Q : Bool → Hp → Prop} {r : Res} (w : WantsB T K io n F H W Q r) (a : Step io n F H io1 h1.length F1 H1) (s : SR T K io1 h1 F1 H1) : WantsB T K io1 h1.length F1 H1 W Q r := by
  cases r with
  | ok v h' => cases v with
    | bl b => exact fun io' F' H' st sr => w io' F' H' (a.trans s st) sr
    | _ => exact w
  | exc c fs h' => exact WExc.rebase w a s
  | bad => exact w
theorem WantsG.rebase {Q : L2.St → Hp → Prop} {r : ResG} (w : WantsG T K io n F H Q r) (a : Step io n F H io1 h1.length F1 H1) (s : SR T K io1 h1 F1 H1) : WantsG T K io1 h1.length F1 H1 Q r := by
  cases r with
  | ok v h' => exact fun io' F' H' x st sr vr => w io' F' H' x (a.trans s st) sr vr
  | bad => exact w
theorem WantsS.rebase {W : WX} {D : Ends} {r : ResS} (w : WantsS T K io n F H W D r) (a : Step io n F H io1 h1.length F1 H1) (s : SR T K io1 h1 F1 H1) : WantsS T K io1 h1.length F1 H1 W D r := by
  cases r with
  | next v h' => exact fun io' F' H' x st sr vr => w io' F' H' x (a.trans s st) sr vr
  | brk v h' => exact fun io' F' H' x st sr vr => w io' F' H' x (a.trans s st) sr vr
  | cont v h' => exact fun io' F' H' x st sr vr => w io' F' H' x (a.trans s st) sr vr
  | ret v h' => exact fun io' F' H' x st sr vr => w io' F' H' x (a.trans s st) sr vr
  | exc c fs sg h' => exact fun io' F' H' x d st sr rs xr => w io' F' H' x d (a.trans s st) sr rs xr
  | bad => exact w
theorem Wants.bind {R : VK} {r : Res} {k : Val → Hh → Res} (w : Wants T K io n F H W Q (r.bind k))
    (hk : ∀ v h1 io1 F1 H1 x, Step io n F H io1 h1.length F1 H1 → SR T K io1 h1 F1 H1 → VR T K io1 h1.length F1 v x → Wants T K io1 h1.length F1 H1 W Q (k v h1) → R x H1) : Wants T K io n F H W R r := by
  cases r with
  | ok v h1 => exact fun io1 F1 H1 x st sr vr => hk v h1 io1 F1 H1 x st sr vr (Wants.rebase w st sr)
  | exc c fs h' => exact w
  | bad => exact w
theorem WantsL.ofBind {R : VK} {Q : List V → Hp → Prop} {r : Res} {k : Val → Hh → ResL} (w : WantsL T K io n F H W Q (r.bindL k))
    (hk : ∀ v h1 io1 F1 H1 x, Step io n F H io1 h1.length F1 H1 → SR T K io1 h1 F1 H1 → VR T K io1 h1.length F1 v x → WantsL T K io1 h1.length F1 H1 W Q (k v h1) → R x H1) : Wants T K io n F H W R r := by
  cases r with
  | ok v h1 => exact fun io1 F1 H1 x st sr vr => hk v h1 io1 F1 H1 x st sr vr (WantsL.rebase w st sr)
  | exc c fs h' => exact w
  | bad => exact w
theorem WantsL.bindL {R Q : List V → Hp → Prop} {r : ResL} {k : List Val → Hh → ResL} (w : WantsL T K io n F H W Q (r.bindL k))
    (hk : ∀ v h1 io1 F1 H1 x, Step io n F H io1 h1.length F1 H1 → SR T K io1 h1 F1 H1 → VRs T K io1 h1.length F1 v x → WantsL T K io1 h1.length F1 H1 W Q (k v h1) → R x H1) : WantsL T K io n F H W R r := by
  cases r with
  | ok v h1 => exact fun io1 F1 H1 x st sr vr => hk v h1 io1 F1 H1 x st sr vr (WantsL.rebase w st sr)
  | exc c fs h' => exact w
  | bad => exact w
theorem Wants.bindOfL {R : List V → Hp → Prop} {r : ResL} {k : List Val → Hh → Res} (w : Wants T K io n F H W Q (r.bind k))
    (hk : ∀ v h1 io1 F1 H1 x, Step io n F H io1 h1.length F1 H1 → SR T K io1 h1 F1 H1 → VRs T K io1 h1.length F1 v x → Wants T K io1 h1.length F1 H1 W Q (k v h1) → R x H1) : WantsL T K io n F H W R r := by
  cases r with
  | ok v h1 => exact fun io1 F1 H1 x st sr vr => hk v h1 io1 F1 H1 x st sr vr (Wants.rebase w st sr)
  | exc c fs h' => exact w
  | bad => exact w
theorem WantsB.bind {R : VK} {Q : Bool → Hp → Prop} {r : Res} {k : Val → Hh → Res} (w : WantsB T K io n F H W Q (r.bind k))
    (hk : ∀ v h1 io1 F1 H1 x, Step io n F H io1 h1.length F1 H1 → SR T K io1 h1 F1 H1 → VR T K io1 h1.length F1 v x → WantsB T K io1 h1.length F1 H1 W Q (k v h1) → R x H1) : Wants T K io n F H W R r := by
  cases r with
  | ok v h1 => exact fun io1 F1 H1 x st sr vr => hk v h1 io1 F1 H1 x st sr vr (WantsB.rebase w st sr)
  | exc c fs h' => exact w
  | bad => exact w
end
def Res.test (r : Res) (a b : Hh → Res) : Res := match r with
  | .ok (.bl true) h => a h
  | .ok (.bl false) h => b h
  | .ok _ _ => .bad
  | .exc c fs h => .exc c fs h
  | .bad => .bad
def Res.testS (sg : Sg) (r : Res) (a b : Hh → ResS) : ResS := match r with
  | .ok (.bl true) h => a h
  | .ok (.bl false) h => b h
  | .ok _ _ => .bad
  | .exc c fs h => .exc c fs sg h
  | .bad => .bad
section
variable {T : Tb} {K : PySem.W.Frag} {io io1 io2 : Nat → Addr} {n n1 n2 : Nat} {F F1 F2 H H1 H2 : Hp} {h h1 h2 : Hh} {W : XK} {Q : VK}
theorem Wants.test {R : Bool → Hp → Prop} {r : Res} {a b : Hh → Res} (w : Wants T K io n F H W Q (r.test a b))
    (hk : ∀ v h1 io1 F1 H1, Step io n F H io1 h1.length F1 H1 → SR T K io1 h1 F1 H1 → Wants T K io1 h1.length F1 H1 W Q (if v = true then a h1 else b h1) → R v H1) : WantsB T K io n F H W R r := by
  cases r with
  | ok v h1 => cases v with
    | bl v =>
      cases v with
      | true => exact fun io1 F1 H1 st sr => hk true h1 io1 F1 H1 st sr (Wants.rebase w st sr)
      | false => exact fun io1 F1 H1 st sr => hk false h1 io1 F1 H1 st sr (Wants.rebase w st sr)
    | _ => exact w
  | exc c fs h' => exact w
  | bad => exact w
theorem WantsB.test {R Q : Bool → Hp → Prop} {r : Res} {a b : Hh → Res} (w : WantsB T K io n F H W Q (r.test a b))
    (hk : ∀ v h1 io1 F1 H1, Step io n F H io1 h1.length F1 H1 → SR T K io1 h1 F1 H1 → WantsB T K io1 h1.length F1 H1 W Q (if v = true then a h1 else b h1) → R v H1) : WantsB T K io n F H W R r := by
  cases r with
  | ok v h1 => cases v with
    | bl v =>
      cases v with
      | true => exact fun io1 F1 H1 st sr => hk true h1 io1 F1 H1 st sr (WantsB.rebase w st sr)
      | false => exact fun io1 F1 H1 st sr => hk false h1 io1 F1 H1 st sr (WantsB.rebase w st sr)
    | _ => exact w
  | exc c fs h' => exact w
  | bad => exact w
end
section
variable {T : Tb} {K : PySem.W.Frag} {io : Nat → Addr} {F H : Hp} {h : Hh} {p : Addr} {o : HO}
theorem SR.none_of (s : SR T K io h F H) (hp : H p = none) : F p = none := by
  cases q : F p with
  | none => rfl
  | some u => rw [s.sub p u q] at hp; cases hp
theorem upd_sub (F : Hp) (hp : F p = none) : ∀ b u, F b = some u → upd F p o b = some u := fun b u e => by
  rw [upd_ne (ne_of_none e hp)]; exact e
theorem OR.mono {io io' : Nat → Addr} {n n' : Nat} {F F' H H' : Hp} (hn : n ≤ n') (hi : ∀ k, k < n → io' k = io k) (hF : ∀ b o, F b = some o → F' b = some o) (hH : ∀ b o, H b = some o → H' b = some o) {a : Addr} {ob : Obj} (r : OR T K io n F H a ob) : OR T K io' n' F' H' a ob := by
  cases ob with
  | lst vs => obtain ⟨xs, e, r⟩ := r; exact ⟨xs, hH _ _ e, r.mono hn hi hF⟩
  | exn c vs => obtain ⟨dx, xs, e, d, r, l⟩ := r; exact ⟨dx, xs, hH _ _ e, fun q z => hH _ _ (d q z), r.mono hn hi hF, l⟩
  | ins c vs => obtain ⟨dx, xs, e, d, r, l⟩ := r; exact ⟨dx, xs, hH _ _ e, hH _ _ d, r.mono hn hi hF, l⟩
  | dct ks vs => obtain ⟨es, ep, xs, ys, e, hk, he, r1, r2⟩ := r; exact ⟨es, ep, xs, ys, hH _ _ e, hk, he, r1.mono hn hi hF, r2.mono hn hi hF⟩
theorem OR.monoN {io io' : Nat → Addr} {n n' : Nat} {F F' H H' : Hp} (hn : n ≤ n') (hi : ∀ k, k < n → io' k = io k) (hF : ∀ b o, F b = some o → F' b = some o) (hH : ∀ b o, H b = some o → (∀ ps, o ≠ .tbl ps) → H' b = some o) {a : Addr} {ob : Obj} (r : OR T K io n F H a ob) : OR T K io' n' F' H' a ob := by
  cases ob with
  | lst vs => obtain ⟨xs, e, r⟩ := r; exact ⟨xs, hH _ _ e (fun ps z => by cases z), r.mono hn hi hF⟩
  | exn c vs => obtain ⟨dx, xs, e, d, r, l⟩ := r; exact ⟨dx, xs, hH _ _ e (fun ps z => by unfold ExV at z; cases z), fun q z => hH _ _ (d q z) (fun ps z => by cases z), r.mono hn hi hF, l⟩
  | ins c vs => obtain ⟨dx, xs, e, d, r, l⟩ := r; exact ⟨dx, xs, hH _ _ e (fun ps z => by cases z), hH _ _ d (fun ps z => by cases z), r.mono hn hi hF, l⟩
  | dct ks vs => obtain ⟨es, ep, xs, ys, e, hk, he, r1, r2⟩ := r; exact ⟨es, ep, xs, ys, hH _ _ e (fun ps z => by unfold DO at z; cases z), hk, he, r1.mono hn hi hF, r2.mono hn hi hF⟩
theorem OR.notTbl {io : Nat → Addr} {n : Nat} {F H : Hp} {a : Addr} {o : Obj} (r : OR T K io n F H a o) {u : HO} (hu : H a = some u) : ∀ ps, u ≠ .tbl ps := fun ps z => by
  subst z
  cases o with
  | lst vs => obtain ⟨xs, q, _⟩ := r; rw [q] at hu; cases hu
  | exn c vs => obtain ⟨dx, xs, q, _⟩ := r; rw [q] at hu; unfold ExV at hu; cases hu
  | ins c vs => obtain ⟨dx, xs, q, _⟩ := r; rw [q] at hu; cases hu
  | dct ks vs => obtain ⟨es, ep, xs, ys, q, _⟩ := r; rw [q] at hu; unfold DO at hu; cases hu
theorem OR.notXd {io : Nat → Addr} {n : Nat} {F H : Hp} {a : Addr} {o : Obj} (r : OR T K io n F H a o) : ∀ fs, H a ≠ some (.xd fs) := fun fs e => by
  cases o with
  | lst vs => obtain ⟨xs, q, _⟩ := r; rw [q] at e; cases e
  | exn c vs => obtain ⟨dx, xs, q, _⟩ := r; rw [q] at e; unfold ExV at e; cases e
  | ins c vs => obtain ⟨dx, xs, q, _⟩ := r; rw [q] at e; cases e
  | dct ks vs => obtain ⟨es, ep, xs, ys, q, _⟩ := r; rw [q] at e; unfold DO at e; cases e
theorem SR.alloc (s : SR T K io h F H) (hp : H p = none) (o : HO) : SR T K io h (upd F p o) (upd H p o) := by
  have fp := s.none_of hp
  refine ⟨fun b u e => ?_, fun k hk => ?_, s.inj, fun k ob e => (s.obj k ob e).mono (Nat.le_refl _) (fun _ _ => rfl) (upd_sub F fp) (upd_sub H hp), fun pq hq => (s.tabs pq hq).mono (fun _ _ h hp' e => by rw [upd_ne (fun z => by rw [z, hp] at hp'; cases hp'), h] at e; cases e) (fun c o e _ => upd_sub F fp c o e) fun ps e => upd_sub H hp _ _ e⟩
  · by_cases hb : b = p
    · subst hb; rw [upd_same] at e ⊢; exact e
    · rw [upd_ne hb] at e ⊢; exact s.sub b u e
  · obtain ⟨u, e⟩ := s.there hk
    rw [upd_ne (ne_of_none e hp)]; exact s.dis k hk
theorem SR.allocStep (s : SR T K io h F H) (hp : H p = none) (o : HO) : Step io h.length F H io h.length (upd F p o) (upd H p o) :=
  Step.of (Nat.le_refl _) (fun _ _ => rfl) (upd_sub F (s.none_of hp)) (fun b u e _ => upd_sub H hp b u e) (fun k a b => absurd b (Nat.not_lt.mpr a)) (fun b u e => by
    by_cases hb : b = p
    · subst hb; exact .inr (.inl hp)
    · rw [upd_ne hb] at e; exact .inl e)
theorem SR.garb (s : SR T K io h F H) (hp : H p = none) (o : HO) : SR T K io h F (upd H p o) :=
  ⟨fun b u e => upd_sub H hp b u (s.sub b u e), s.dis, s.inj, fun k ob e => (s.obj k ob e).mono (Nat.le_refl _) (fun _ _ => rfl) (fun _ _ e => e) (upd_sub H hp), fun pq hq => (s.tabs pq hq).mono (fun _ _ h _ e => by rw [h] at e; cases e) (fun _ _ e _ => e) fun ps e => upd_sub H hp _ _ e⟩
theorem SR.garbStep (s : SR T K io h F H) (hp : H p = none) (o : HO) : Step io h.length F H io h.length F (upd H p o) :=
  Step.of (Nat.le_refl _) (fun _ _ => rfl) (fun _ _ e => e) (fun b u e _ => upd_sub H hp b u e) (fun k a b => absurd b (Nat.not_lt.mpr a)) (fun _ _ e => .inl e)
def ioPush (io : Nat → Addr) (n : Nat) (p : Addr) : Nat → Addr := fun k => if k = n then p else io k
theorem ioPush_lt (io : Nat → Addr) (p : Addr) {n k : Nat} (hk : k < n) : ioPush io n p k = io k := by unfold ioPush; rw [if_neg (Nat.ne_of_lt hk)]
theorem ioPush_at (io : Nat → Addr) (p : Addr) (n : Nat) : ioPush io n p n = p := by unfold ioPush; rw [if_pos rfl]
theorem SR.push (s : SR T K io h F H) (hp : H p = none) {H' : Hp} {ob : Obj} (hH : ∀ b u, H b = some u → H' b = some u) (new : OR T K (ioPush io h.length p) (h.length + 1) F H' p ob) : SR T K (ioPush io h.length p) (h ++ [ob]) F H' := by
  have nek : ∀ k, k < h.length → io k ≠ p := fun k hk => by obtain ⟨u, e⟩ := s.there hk; exact ne_of_none e hp
  have len : (h ++ [ob]).length = h.length + 1 := by simp
  refine ⟨fun b u e => hH b u (s.sub b u e), fun k hk => ?_, fun j k hj hk e => ?_, fun k o e => ?_, fun pq hq => (s.tabs pq hq).mono (fun _ _ h _ e => by rw [h] at e; cases e) (fun _ _ e _ => e) fun ps e => hH _ _ e⟩
  · rw [len] at hk
    by_cases q : k = h.length
    · subst q; rw [ioPush_at]; exact s.none_of hp
    · rw [ioPush_lt io p (by omega)]; exact s.dis k (by omega)
  · rw [len] at hj hk
    by_cases qj : j = h.length
    · by_cases qk : k = h.length
      · rw [qj, qk]
      · rw [qj, ioPush_at, ioPush_lt io p (by omega)] at e; exact absurd e.symm (nek k (by omega))
    · by_cases qk : k = h.length
      · rw [qk, ioPush_at, ioPush_lt io p (by omega)] at e; exact absurd e (nek j (by omega))
      · rw [ioPush_lt io p (by omega), ioPush_lt io p (by omega)] at e; exact s.inj j k (by omega) (by omega) e
  · rw [len]
    by_cases q : k < h.length
    · rw [List.getElem?_append_left q] at e
      rw [ioPush_lt io p q]
      exact (s.obj k o e).mono (Nat.le_succ _) (fun j hj => ioPush_lt io p hj) (fun _ _ e => e) hH
    · rw [List.getElem?_append_right (by omega)] at e
      by_cases q2 : k = h.length
      · subst q2
        simp at e
        subst e
        rw [ioPush_at]; exact new
      · rw [List.getElem?_eq_none (by simp; omega)] at e; cases e
theorem SR.pushStep (s : SR T K io h F H) (hp : H p = none) {H' : Hp} {ob : Obj} (hH : ∀ b u, H b = some u → H' b = some u) : Step io h.length F H (ioPush io h.length p) (h ++ [ob]).length F H' := by
  refine Step.of (by simp) (fun k hk => ioPush_lt io p hk) (fun _ _ e => e) (fun b u e _ => hH b u e) (fun k a b => ?_) (fun _ _ e => .inl e)
  have : k = h.length := by simp at b; omega
  subst this
  rw [ioPush_at]; exact hp
theorem SR.write (s : SR T K io h F H) {k : Nat} (hk : k < h.length) {o' : HO} {ob : Obj} (hno : ∀ y, H (io k) ≠ some (.own y)) (new : OR T K io h.length F (upd H (io k) o') (io k) ob) : SR T K io (h.set k ob) F (upd H (io k) o') := by
  have len : (h.set k ob).length = h.length := by simp
  refine ⟨fun b u e => ?_, fun j hj => s.dis j (by rwa [len] at hj), fun i j hi hj e => s.inj i j (by rwa [len] at hi) (by rwa [len] at hj) e, fun j o e => ?_, fun pq hq => (s.tabs pq hq).mono (fun _ _ h _ e => by rw [h] at e; cases e) (fun _ _ e _ => e) fun ps e => by rw [upd_ne (fun z => (s.obj k h[k] (by simp [hk])).notTbl (by rw [← z]; exact e) ps rfl)]; exact e⟩
  · have : b ≠ io k := fun z => by rw [z, s.dis k hk] at e; cases e
    rw [upd_ne this]; exact s.sub b u e
  · rw [len]
    by_cases q : k = j
    · subst q
      rw [List.getElem?_set_self hk] at e
      cases e; exact new
    · rw [List.getElem?_set_ne q] at e
      have hj : j < h.length := (List.getElem?_eq_some_iff.mp e).1
      have ne : io j ≠ io k := fun z => q (s.inj k j hk hj z.symm)
      have r := s.obj j o e
      cases o with
      | lst vs => obtain ⟨xs, e1, r⟩ := r; exact ⟨xs, by rw [upd_ne ne]; exact e1, r⟩
      | dct ks vs => obtain ⟨es, ep, xs, ys, e1, r⟩ := r; exact ⟨es, ep, xs, ys, by rw [upd_ne ne]; exact e1, r⟩
      | exn c vs =>
        obtain ⟨o, xs, e1, d, r, l⟩ := r
        exact ⟨o, xs, by rw [upd_ne ne]; exact e1, fun dx z => by rw [upd_ne (fun y => (s.obj k h[k] (by simp [hk])).notXd _ (y ▸ d dx z))]; exact d dx z, r, l⟩
      | ins c vs =>
        obtain ⟨dx, xs, e1, d, r, l⟩ := r
        exact ⟨dx, xs, by rw [upd_ne ne]; exact e1, by rw [upd_ne (fun z => hno _ (z ▸ d))]; exact d, r, l⟩
theorem SR.writeStep (s : SR T K io h F H) {k : Nat} (hk : k < h.length) {o' : HO} {ob : Obj} : Step io h.length F H io (h.set k ob).length F (upd H (io k) o') := by
  refine Step.of (by simp) (fun _ _ => rfl) (fun _ _ e => e) (fun b u e hb => ?_) (fun j a b => absurd (by simpa using b) (Nat.not_lt.mpr a)) (fun _ _ e => .inl e)
  rw [upd_ne (fun z => hb k hk z.symm)]; exact e
end
def xVar (i : Nat) : Ex := fun sg h => match sg[i]? with
  | some (some v) => .ok v h
  | _ => .bad
def xC (v : Val) : Ex := fun _ h => .ok v h
section
variable {T : Tb} {X : Cx} {W : WX}
theorem je_var (i : Nat) {x : Str} {pos : Pos} (hN : X.N[i]? = some x := by rfl) (hv : Vis X.env.scope x := by first | exact Or.inl rfl | exact Or.inr (Or.inl rfl) | exact Or.inr (Or.inr rfl)) (hd : (x == ("__debug__" : Str)) = false := by decide)
    (hcd : (x == ("__classdict__" : Str)) = false := by decide) : JE T X W (.Name x pos) (xVar i) := by
  refine pe_imp (pe_var hN hv hd hcd) fun σ H Q ⟨io, h, F, sg, sr, rs, w⟩ => ?_
  unfold xVar at w
  cases e : sg[i]? with
  | none => rw [e] at w; exact w.elim
  | some o =>
    cases o with
    | none => rw [e] at w; exact w.elim
    | some v =>
      rw [e] at w
      obtain ⟨x', e1, r⟩ := rs.at_ i v e
      exact ⟨x', e1, w io F H x' .refl sr r⟩
theorem je_int {i j pos} : JE T X W (.Constant (.int i) j pos) (xC (.int i)) := pe_imp pe_int fun σ H Q ⟨io, h, F, sg, sr, rs, w⟩ => w io F H _ .refl sr (.int i)
theorem je_bl {i j pos} : JE T X W (.Constant (.bool i) j pos) (xC (.bl i)) := pe_imp pe_bl fun σ H Q ⟨io, h, F, sg, sr, rs, w⟩ => w io F H _ .refl sr (.bl i)
theorem je_non {j pos} : JE T X W (.Constant .none j pos) (xC .non) := pe_imp pe_non fun σ H Q ⟨io, h, F, sg, sr, rs, w⟩ => w io F H _ .refl sr .non
theorem je_str (s : List Nat) {x : Str} {j pos} (hx : x = ⟨s.toArray⟩ := by decide +kernel) : JE T X W (.Constant (.str x) j pos) (xC (.str s)) := by
  subst hx
  exact pe_imp pe_str fun σ H Q ⟨io, h, F, sg, sr, rs, w⟩ => w io F H _ .refl sr (.str s)
abbrev G2 := Hh → Val → Val → Option Val
def Lift2 (T : Tb) (K : PySem.W.Frag) (r : R2) (g : G2) : Prop :=
  ∀ io h F H v u x y z Q, SR T K io h F H → VR T K io h.length F v x → VR T K io h.length F u y → g h v u = some z →
    (∀ F' H' x', Step io h.length F H io h.length F' H' → SR T K io h F' H' → VR T K io h.length F' z x' → Q x' H') → r x y H Q
def Res.ofO (o : Option Val) (h : Hh) : Res := match o with
  | some v => .ok v h
  | none => .bad
def xOp (g : G2) (a b : Ex) : Ex := fun sg h => (a sg h).bind fun x h1 => (b sg h1).bind fun y h2 => .ofO (g h2 x y) h2
variable {a b c : Expr} {fa fb fc : Ex} {pos : Pos} {r r' : R2} {g g' : G2}
theorem wants_ofO {K : PySem.W.Frag} {io : Nat → Addr} {n : Nat} {F H : Hp} {W : XK} {Q : VK} {o : Option Val} {h : Hh} (w : Wants T K io n F H W Q (.ofO o h)) : ∃ z, o = some z ∧ Wants T K io n F H W Q (.ok z h) := by
  cases o with
  | none => exact w.elim
  | some z => exact ⟨z, rfl, w⟩
theorem tOp_of (hl : Lift2 T X.K r g) {σ : L2.St} {H : Hp} {Q : VK} : tE T X.K W (xOp g fa fb) σ H Q → tOp r (tE T X.K W fa) (tE T X.K W fb) σ H Q := by
  rintro ⟨io, h, F, sg, sr, rs, w⟩
  refine ⟨io, h, F, sg, sr, rs, Wants.bind w fun v h1 io1 F1 H1 x st sr1 vr w1 => ⟨io1, h1, F1, sg, sr1, rs.step st, Wants.bind w1 fun u h2 io2 F2 H2 y st2 sr2 vr2 w2 => ?_⟩⟩
  obtain ⟨z, e, w3⟩ := wants_ofO w2
  exact hl io2 h2 F2 H2 v u x y z Q sr2 (vr.step st2) vr2 e fun F' H' x' st' sr' vr' => w3 io2 F' H' x' st' sr' vr'
theorem je_op {op : Operator} (ho : OpR X (binaryOp op) r) (hl : Lift2 T X.K r g) (ha : JE T X W a fa) (hb : JE T X W b fb) : JE T X W (.BinOp a op b pos) (xOp g fa fb) :=
  pe_imp (pe_op ho ha hb) fun _ _ _ => tOp_of hl
theorem je_cmp {op : CmpOp} (ho : OpR X (compareOp op) r) (hl : Lift2 T X.K r g) (ha : JE T X W a fa) (hb : JE T X W b fb) (hm : behindInMarks op b = false := by first | exact nomark _ | rfl | with_unfolding_all rfl) : JE T X W (.Compare a [op] [b] pos) (xOp g fa fb) :=
  pe_imp (pe_cmpR ho ha hb hm) fun _ _ _ => tOp_of hl
theorem tTest_of {t : TE} {f : Ex} (ht : ∀ σ H Q, tE T X.K W f σ H Q → t σ H Q) {σ : L2.St} {H : Hp} {Q : Bool → Hp → Prop} : tB1 T X.K W f σ H Q → tTest t σ H Q := by
  rintro ⟨io, h, F, sg, sr, rs, w⟩
  refine ht σ H _ ⟨io, h, F, sg, sr, rs, ?_⟩
  cases e : f sg h with
  | ok v h' =>
    rw [e] at w
    cases v with
    | bl k => exact fun io' F' H' x st sr' vr => by cases vr; exact ⟨k, rfl, w io' F' H' st sr'⟩
    | _ => exact False.elim w
  | exc c fs h' => rw [e] at w; exact w
  | bad => rw [e] at w; exact w
theorem jt_cmp {op : CmpOp} (ho : OpR X (compareOp op) r) (hl : Lift2 T X.K r g) (ha : JE T X W a fa) (hb : JE T X W b fb) (hm : behindInMarks op b = false := by first | exact nomark _ | rfl | with_unfolding_all rfl) : JT T X W (.Compare a [op] [b] pos) (xOp g fa fb) :=
  pt_imp (pt_cmpR ho ha hb hm) fun _ _ _ => tTest_of fun _ _ _ => tOp_of hl
def xChain (g g' : G2) (a b c : Ex) : Ex := fun sg h => (a sg h).bind fun x h1 => (b sg h1).bind fun y h2 => match g h2 x y with
  | some (.bl true) => (c sg h2).bind fun z h3 => .ofO (g' h3 y z) h3
  | some (.bl false) => .ok (.bl false) h2
  | _ => .bad
def xAnd (a b : Ex) : Ex := fun sg h => (a sg h).test (fun h1 => b sg h1) (fun h1 => .ok (.bl false) h1)
def xOr (a b : Ex) : Ex := fun sg h => (a sg h).test (fun h1 => .ok (.bl true) h1) (fun h1 => b sg h1)
def xNot (a : Ex) : Ex := fun sg h => (a sg h).test (fun h1 => .ok (.bl false) h1) (fun h1 => .ok (.bl true) h1)
def xIf (c a b : Ex) : Ex := fun sg h => (c sg h).test (fun h1 => a sg h1) (fun h1 => b sg h1)
variable {rest : List Expr}
theorem jw_one {op} (ha : JT T X W a fa) : JW T X W (.BoolOp op [a] pos) fa := by
  cases op with
  | And => exact pw_and1 ha
  | Or => exact pw_or1 ha
theorem jw_or (ha : JT T X W a fa) (hb : JW T X W (.BoolOp .Or (b :: rest) pos) fb) : JW T X W (.BoolOp .Or (a :: b :: rest) pos) (xOr fa fb) := by
  refine pw_imp (pw_or ha hb) fun σ H Q ⟨io, h, F, sg, sr, rs, w⟩ => ⟨io, h, F, sg, sr, rs, WantsB.test w fun v h1 io1 F1 H1 st sr1 w1 => ?_⟩
  cases v with
  | true => rw [if_pos rfl] at w1 ⊢; exact w1 io1 F1 H1 .refl sr1
  | false => rw [if_neg Bool.false_ne_true] at w1 ⊢; exact ⟨io1, h1, F1, sg, sr1, rs.step st, w1⟩
theorem jt_w {f : Ex} (h : JW T X W a f) : JT T X W a f := h.pt
theorem Wants.boolV {K : PySem.W.Frag} {io : Nat → Addr} {n : Nat} {F H : Hp} {W : XK} {Q : VK} {R : VK} {r : Res} {a b : Hh → Res} (w : Wants T K io n F H W Q (r.test a b))
    (hk : ∀ v h1 io1 F1 H1, Step io n F H io1 h1.length F1 H1 → SR T K io1 h1 F1 H1 → Wants T K io1 h1.length F1 H1 W Q (if v = true then a h1 else b h1) → R (.bl v) H1) : Wants T K io n F H W R r := by
  cases r with
  | ok v h1 => cases v with
    | bl v =>
      intro io1 F1 H1 x st sr vr
      cases vr
      cases v with
      | true => exact hk true h1 io1 F1 H1 st sr (Wants.rebase w st sr)
      | false => exact hk false h1 io1 F1 H1 st sr (Wants.rebase w st sr)
    | _ => exact False.elim w
  | exc c fs h' => exact w
  | bad => exact w
theorem je_one {op} (ha : JE T X W a fa) : JE T X W (.BoolOp op [a] pos) fa := pe_one ha
theorem je_and (ha : JE T X W a fa) (hb : JE T X W (.BoolOp .And (b :: rest) pos) fb) : JE T X W (.BoolOp .And (a :: b :: rest) pos) (xAnd fa fb) := by
  refine pe_imp (pe_and ha hb) fun σ H Q ⟨io, h, F, sg, sr, rs, w⟩ => ⟨io, h, F, sg, sr, rs, Wants.boolV w fun v h1 io1 F1 H1 st sr1 w1 => ⟨v, rfl, ?_⟩⟩
  cases v with
  | true => rw [if_pos rfl] at w1 ⊢; exact ⟨io1, h1, F1, sg, sr1, rs.step st, w1⟩
  | false => rw [if_neg Bool.false_ne_true] at w1 ⊢; exact w1 io1 F1 H1 _ .refl sr1 (.bl false)
theorem je_if (hc : JT T X W c fc) (ha : JE T X W a fa) (hb : JE T X W b fb) : JE T X W (.IfExp c a b pos) (xIf fc fa fb) := by
  refine pe_imp (pe_ifExp hc ha hb) fun σ H Q ⟨io, h, F, sg, sr, rs, w⟩ => ⟨io, h, F, sg, sr, rs, Wants.test w fun v h1 io1 F1 H1 st sr1 w1 => ?_⟩
  cases v with
  | true => rw [if_pos rfl] at w1 ⊢; exact ⟨io1, h1, F1, sg, sr1, rs.step st, w1⟩
  | false => rw [if_neg Bool.false_ne_true] at w1 ⊢; exact ⟨io1, h1, F1, sg, sr1, rs.step st, w1⟩
def xUn (g : Hh → Val → Option Val) (a : Ex) : Ex := fun sg h => (a sg h).bind fun x h1 => .ofO (g h1 x) h1
def xNil : Lx := fun _ h => .ok [] h
def xCons (a : Ex) (r : Lx) : Lx := fun sg h => (a sg h).bindL fun v h1 => (r sg h1).bindL fun vs h2 => .ok (v :: vs) h2
variable {e : Expr} {es : List Expr} {fe : Ex} {fr : Lx}
theorem ja_nil : JA T X W [] xNil := pa_imp pa_nil fun σ H Q ⟨io, h, F, sg, sr, rs, w⟩ => w io F H _ .refl sr .nil
theorem ja_cons (ha : JE T X W e fe) (hr : JA T X W es fr) (hs : starEach (e :: es) X.env = (false, eval e X.env) :: starEach es X.env := by rfl) : JA T X W (e :: es) (xCons fe fr) := by
  refine pa_imp (pa_cons ha hr hs) fun σ H Q ⟨io, h, F, sg, sr, rs, w⟩ => ⟨io, h, F, sg, sr, rs, WantsL.ofBind w fun v h1 io1 F1 H1 x st sr1 vr w1 => ⟨io1, h1, F1, sg, sr1, rs.step st, WantsL.bindL w1 fun vs h2 io2 F2 H2 xs st2 sr2 vrs w2 => ?_⟩⟩
  exact w2 io2 F2 H2 _ .refl sr2 (.cons (vr.step st2) vrs)
def xTup (r : Lx) : Ex := fun sg h => (r sg h).bind fun vs h1 => if vs.length ≤ 1000000 then .ok (.tup vs) h1 else .bad
theorem sizeOk {n : Nat} (h : n ≤ 1000000) : n ≤ sizeLine := by rw [sizeLine_eq]; omega
def xLst (r : Lx) : Ex := fun sg h => (r sg h).bind fun vs h1 => if vs.length ≤ 1000000 then .ok (.ref h1.length) (h1 ++ [.lst vs]) else .bad
theorem je_lst (hr : JA T X W es fr) : JE T X W (.List es pos) (xLst fr) := by
  refine pe_imp (pe_lst hr) fun σ H Q ⟨io, h, F, sg, sr, rs, w⟩ => ⟨io, h, F, sg, sr, rs, Wants.bindOfL w fun vs h1 io1 F1 H1 xs st sr1 vrs w1 => ?_⟩
  by_cases hz : vs.length ≤ 1000000
  · rw [if_pos hz] at w1
    refine ⟨by rw [← vrs.length]; exact sizeOk hz, fun p hp => ?_⟩
    have hH : ∀ b u, H1 b = some u → upd H1 p (.lst xs) b = some u := upd_sub H1 hp
    have vp : VR T X.K (ioPush io1 h1.length p) (h1 ++ [Obj.lst vs]).length F1 (.ref h1.length) (.ref (ioPush io1 h1.length p h1.length)) := .ref _ (by simp)
    rw [ioPush_at] at vp
    exact w1 _ _ _ _ (sr1.pushStep hp hH) (sr1.push hp hH ⟨xs, upd_same, vrs.mono (Nat.le_succ _) (fun k hk => ioPush_lt io1 p hk) (fun _ _ e => e)⟩) vp
  · rw [if_neg hz] at w1; exact w1.elim
def xLstF (r : Lx) : Ex := fun sg h => (r sg h).bind fun vs h1 => if vs.length ≤ 1000000 then .ok (.lst vs) h1 else .bad
theorem je_lstF (hr : JA T X W es fr) : JE T X W (.List es pos) (xLstF fr) := by
  refine pe_imp (pe_lst hr) fun σ H Q ⟨io, h, F, sg, sr, rs, w⟩ => ⟨io, h, F, sg, sr, rs, Wants.bindOfL w fun vs h1 io1 F1 H1 xs st sr1 vrs w1 => ?_⟩
  by_cases hz : vs.length ≤ 1000000
  · rw [if_pos hz] at w1
    refine ⟨by rw [← vrs.length]; exact sizeOk hz, fun p hp => ?_⟩
    exact w1 io1 _ _ _ (sr1.allocStep hp _) (sr1.alloc hp _) (.lst (.inl (.inl upd_same)) (vrs.step (sr1.allocStep hp (.lst xs))))
  · rw [if_neg hz] at w1; exact w1.elim
end
end Py
namespace Py
open PySem PySem.Spec PyProof.Rows L2
def xSeq (a b : Sx) : Sx := fun sg h => match a sg h with
  | .next sg1 h1 => b sg1 h1
  | r => r
def xSkip : Sx := fun sg h => .next sg h
def xDrop (e : Ex) : Sx := fun sg h => (e sg h).bindS sg fun _ h1 => .next sg h1
def xRet (e : Ex) : Sx := fun sg h => (e sg h).bindS sg fun v h1 => .ret v h1
def xIfS (c : Ex) (a b : Sx) : Sx := fun sg h => (c sg h).testS sg (fun h1 => a sg h1) (fun h1 => b sg h1)
def xAsg (e : Ex) (g : Gx) : Sx := fun sg h => (e sg h).bindS sg fun v h1 => (g v sg h1).bindS fun sg2 h2 => .next sg2 h2
def gN (i : Nat) : Gx := fun v sg h => .ok (sg.set i (some v)) h
def xSet (i : Nat) (e : Ex) : Sx := fun sg h => (e sg h).bindS sg fun v h1 => .next (sg.set i (some v)) h1
section
variable {T : Tb} {K : PySem.W.Frag} {io io1 io2 : Nat → Addr} {n n1 n2 : Nat} {F F1 F2 H H1 H2 : Hp} {h h1 h2 : Hh} {W : WX} {D : Ends}
theorem WantsS.ofRes {R : VK} {sg : Sg} {σ : L2.St} {r : Res} {k : Val → Hh → ResS} (rs : RSt T K io n F sg σ) (w : WantsS T K io n F H W D (r.bindS sg k))
    (hk : ∀ v h1 io1 F1 H1 x, Step io n F H io1 h1.length F1 H1 → SR T K io1 h1 F1 H1 → VR T K io1 h1.length F1 v x → WantsS T K io1 h1.length F1 H1 W D (k v h1) → R x H1) : Wants T K io n F H (fun c d H' => W c d σ H') R r := by
  cases r with
  | ok v h1 => exact fun io1 F1 H1 x st sr vr => hk v h1 io1 F1 H1 x st sr vr (WantsS.rebase w st sr)
  | exc c fs h' => exact fun io' F' H' d st sr xr => w io' F' H' σ d st sr (rs.step st) xr
  | bad => exact w
theorem WantsS.ofTest {R : Bool → Hp → Prop} {sg : Sg} {σ : L2.St} {r : Res} {a b : Hh → ResS} (rs : RSt T K io n F sg σ) (w : WantsS T K io n F H W D (r.testS sg a b))
    (hk : ∀ v h1 io1 F1 H1, Step io n F H io1 h1.length F1 H1 → SR T K io1 h1 F1 H1 → WantsS T K io1 h1.length F1 H1 W D (if v = true then a h1 else b h1) → R v H1) : WantsB T K io n F H (fun c d H' => W c d σ H') R r := by
  cases r with
  | ok v h1 => cases v with
    | bl v =>
      cases v with
      | true => exact fun io1 F1 H1 st sr => hk true h1 io1 F1 H1 st sr (WantsS.rebase w st sr)
      | false => exact fun io1 F1 H1 st sr => hk false h1 io1 F1 H1 st sr (WantsS.rebase w st sr)
    | _ => exact w
  | exc c fs h' => exact fun io' F' H' d st sr xr => w io' F' H' σ d st sr (rs.step st) xr
  | bad => exact w
end
section
variable {T : Tb} {X : Cx} {W : WX} {a b c e : Expr} {fa fb fc fe : Ex} {pos : Pos} {st : Stmt} {rest : List Stmt} {f g : Sx}
theorem jss_nil : JSs T X W [] xSkip := pss_imp pss_nil fun D σ H ⟨io, h, F, sg, sr, rs, w⟩ => w io F H σ .refl sr rs
theorem jss_cons (h1 : JS T X W st f) (h2 : JSs T X W rest g) : JSs T X W (st :: rest) (xSeq f g) := by
  refine pss_imp (pss_cons h1 h2) fun D σ H ⟨io, h, F, sg, sr, rs, w⟩ => ⟨io, h, F, sg, sr, rs, ?_⟩
  unfold xSeq at w
  cases e : f sg h with
  | next sg1 h1 =>
    rw [e] at w
    exact fun io' F' H' σ' st sr' rs' => ⟨io', h1, F', sg1, sr', rs', WantsS.rebase w st sr'⟩
  | ret v h1 => rw [e] at w; exact w
  | brk v h1 => rw [e] at w; exact w
  | cont v h1 => rw [e] at w; exact w
  | exc c fs sg1 h1 => rw [e] at w; exact w
  | bad => rw [e] at w; exact w
theorem jss_one (h1 : JS T X W st f) : JSs T X W [st] f := pss_one h1
theorem js_expr (he : JE T X W e fe) (hs : swapsWith e none pos.line X.env = pure false := by rfl) : JS T X W (.Expr e pos) (xDrop fe) :=
  ps_imp (ps_expr he hs) fun D σ H ⟨io, h, F, sg, sr, rs, w⟩ => ⟨io, h, F, sg, sr, rs, WantsS.ofRes rs w fun v h1 io1 F1 H1 x st sr1 vr w1 => w1 io1 F1 H1 σ .refl sr1 (rs.step st)⟩
theorem js_ret (he : JE T X W e fe) : JS T X W (.Return (some e) pos) (xRet fe) :=
  ps_imp (ps_ret he) fun D σ H ⟨io, h, F, sg, sr, rs, w⟩ => ⟨io, h, F, sg, sr, rs, WantsS.ofRes rs w fun v h1 io1 F1 H1 x st sr1 vr w1 => w1 io1 F1 H1 x .refl sr1 vr⟩
theorem js_if {sa sb : List Stmt} (hc : JT T X W c fc) (ha : JSs T X W sa f) (hb : JSs T X W sb g) : JS T X W (.If c sa sb pos) (xIfS fc f g) := by
  refine ps_imp (ps_if hc ha hb) fun D σ H ⟨io, h, F, sg, sr, rs, w⟩ => ⟨io, h, F, sg, sr, rs, WantsS.ofTest rs w fun v h1 io1 F1 H1 st sr1 w1 => ?_⟩
  cases v with
  | true => rw [if_pos rfl] at w1 ⊢; exact ⟨io1, h1, F1, sg, sr1, rs.step st, w1⟩
  | false => rw [if_neg Bool.false_ne_true] at w1 ⊢; exact ⟨io1, h1, F1, sg, sr1, rs.step st, w1⟩
theorem jg_name (i : Nat) {x : Str} (hN : X.N.Nodup) (hi : X.N[i]? = some x := by rfl) (hx : Loc X.env.scope x := by first | exact .inl rfl | exact .inr rfl) (hf : X.fn x = true ∨ X.env.scope.names.lookup x = some .local := by first | exact .inl rfl | exact .inr rfl | assumption) : JG T X (.Name x pos) (gN i) :=
  pg_imp (pg_name hN hi hx hf) fun x σ H Q ⟨io, h, F, sg, v, sr, rs, vr, w⟩ => w io F H _ .refl sr (rs.set i vr)
abbrev Gs := List Val → Sg → Hh → ResG
def tGs (T : Tb) (K : PySem.W.Frag) (g : Gs) : TGs := fun xs σ H Q => ∃ io h F sg vs, SR T K io h F H ∧ RSt T K io h.length F sg σ ∧ VRs T K io h.length F vs xs ∧ WantsG T K io h.length F H Q (g vs sg h)
abbrev JGs (T : Tb) (X : Cx) (es : List Expr) (g : Gs) : Prop := PGs X es (tGs T X.K g)
def gsNil : Gs := fun vs sg h => match vs with
  | [] => .ok sg h
  | _ => .bad
def gsCons (g : Gx) (r : Gs) : Gs := fun vs sg h => match vs with
  | v :: vs => (match g v sg h with
    | .ok sg1 h1 => r vs sg1 h1
    | .bad => .bad)
  | [] => .bad
theorem jgs_nil : JGs T X [] gsNil := by
  refine ⟨fun pins s σ H xs us Q I r h => pgs_nil.run pins s σ H xs us Q I r ?_⟩
  obtain ⟨io, hh, F, sg, vs, sr, rs, vr, w⟩ := h
  cases vr with
  | nil => exact ⟨rfl, w io F H σ .refl sr rs⟩
  | cons a b => exact w.elim
theorem jgs_cons {tg : Expr} {tgs : List Expr} {g : Gx} {r : Gs} (h1 : JG T X tg g) (h2 : JGs T X tgs r) (hs : (assignEach (tg :: tgs) X.env).map (·.2) = assign tg X.env :: (assignEach tgs X.env).map (·.2) := by rfl) : JGs T X (tg :: tgs) (gsCons g r) := by
  refine ⟨fun pins s σ H xs us Q I rl h => (pgs_cons h1 h2 hs).run pins s σ H xs us Q I rl ?_⟩
  obtain ⟨io, hh, F, sg, vs, sr, rs, vr, w⟩ := h
  cases vr with
  | nil => exact w.elim
  | @cons v x vs' xs' a b =>
    refine ⟨x, xs', rfl, ⟨io, hh, F, sg, v, sr, rs, a, ?_⟩⟩
    have w' : WantsG T X.K io hh.length F H Q (match g v sg hh with
      | .ok sg1 h1 => r vs' sg1 h1
      | .bad => .bad) := w
    cases e : g v sg hh with
    | ok sg1 h1 =>
      rw [e] at w'
      exact fun io' F' H' σ' st sr' rs' => ⟨io', h1, F', sg1, vs', sr', rs', b.step st, WantsG.rebase w' st sr'⟩
    | bad => rw [e] at w'; exact w'
def gTu (n : Nat) (r : Gs) : Gx := fun v sg h => match v with
  | .tup vs => if vs.length = n then r vs sg h else .bad
  | _ => .bad
theorem jg_tup {tgs : List Expr} {k : Nat} {r : Gs} {n : Nat} (hc : X.calm = true) (h : JGs T X tgs r) (hn : (assignEach tgs X.env).length = n := by rfl) (hst : (assignEach tgs X.env).findIdx? (·.1) = none := by rfl) : JG T X (.Tuple tgs k pos) (gTu n r) := by
  refine pg_imp (pg_tup hc h hn hst) fun x σ H Q ⟨io, hh, F, sg, v, sr, rs, vr, w⟩ => ?_
  cases vr with
  | @tup vs a xs q r' =>
    have w' : WantsG T X.K io hh.length F H Q (if vs.length = n then r vs sg hh else .bad) := w
    by_cases hl : vs.length = n
    · rw [if_pos hl] at w'
      exact ⟨a, xs, rfl, sqT_mono sr.sub q, by rw [← r'.length]; exact hl, io, hh, F, sg, vs, sr, rs, r', w'⟩
    · rw [if_neg hl] at w'; exact w'.elim
  | _ => exact w.elim
theorem js_asg {tg : Expr} {g : Gx} (he : JE T X W e fe) (hg : JG T X tg g) (hs : swapsWithSole [tg] e pos.line X.env = pure false := by rfl) (hw : swappedStores [tg] e X.env = pure none := by rfl)
    (h1 : (assignEach [tg] X.env).map (·.2) = [assign tg X.env] := by rfl) : JS T X W (.Assign [tg] e pos) (xAsg fe g) := by
  refine ps_imp (ps_asg he hg hs hw h1) fun D σ H ⟨io, h, F, sg, sr, rs, w⟩ => ⟨io, h, F, sg, sr, rs, WantsS.ofRes rs w fun v h1 io1 F1 H1 x st sr1 vr w1 => ⟨io1, h1, F1, sg, v, sr1, rs.step st, vr, ?_⟩⟩
  cases e : g v sg h1 with
  | ok sg2 h2 => rw [e] at w1; exact w1
  | bad => rw [e] at w1; exact w1
theorem js_set (i : Nat) {x : Str} {pos' : Pos} (hN : X.N.Nodup) (he : JE T X W e fe) (hi : X.N[i]? = some x := by rfl) (hx : Loc X.env.scope x := by first | exact .inl rfl | exact .inr rfl) (hs : swapsWith e (some (.Name x pos')) pos.line X.env = pure false := by rfl)
    (hf : X.fn x = true ∨ X.env.scope.names.lookup x = some .local := by first | exact .inl rfl | exact .inr rfl | assumption) : JS T X W (.Assign [.Name x pos'] e pos) (xSet i fe) :=
  ps_imp (ps_set hN hi hx he hs hf) fun D σ H ⟨io, h, F, sg, sr, rs, w⟩ => ⟨io, h, F, sg, sr, rs, WantsS.ofRes rs w fun v h1 io1 F1 H1 x st sr1 vr w1 => w1 io1 F1 H1 _ .refl sr1 ((rs.step st).set i vr)⟩
inductive Src where
  | items (vs : List Val) | ref (c : Hh → Option (List Val))
def curL (k : Nat) : Hh → Option (List Val) := fun h => match h[k]? with
  | some (.lst xs) => some xs
  | _ => none
theorem curL_ok {k : Nat} {h : Hh} {xs : List Val} (e : curL k h = some xs) : h[k]? = some (.lst xs) := by
  unfold curL at e
  split at e
  · rename_i q; cases e; exact q
  · cases e
inductive ResI where
  | ok (s : Src) (h : Hh) | exc (c : Nat) (fs : List Val) (h : Hh) | bad
abbrev Ix := Sg → Hh → ResI
def YldOk (T : Tb) (K : PySem.W.Frag) (J : It) (i : Nat) (o : Option Val) (io : Nat → Addr) (h : Hh) (F H : Hp) : Prop :=
  match o with
  | none => J.stop i H
  | some v => J.go i H ∧ ∀ x H', J.yld i H x H' → ∃ F', Step io h.length F H io h.length F' H' ∧ SR T K io h F' H' ∧ VR T K io h.length F' v x
def SrcOk (T : Tb) (K : PySem.W.Frag) (io0 : Nat → Addr) (n0 : Nat) (F0 : Hp) (J : It) : Src → Prop
  | .items vs => ∀ i io h F H, SR T K io h F H → n0 ≤ h.length → (∀ k, k < n0 → io k = io0 k) → (∀ b o, F0 b = some o → F b = some o) → i ≤ vs.length → YldOk T K J i vs[i]? io h F H
  | .ref c => ∀ i io h F H xs, SR T K io h F H → n0 ≤ h.length → (∀ k, k < n0 → io k = io0 k) → (∀ b o, F0 b = some o → F b = some o) → c h = some xs → YldOk T K J i xs[i]? io h F H
def tI (T : Tb) (K : PySem.W.Frag) (W : WX) (f : Ix) : TI := fun σ H R => ∃ io h F sg, SR T K io h F H ∧ RSt T K io h.length F sg σ ∧ match f sg h with
  | .ok s h' => ∀ io' F' H' J, Step io h.length F H io' h'.length F' H' → SR T K io' h' F' H' → SrcOk T K io' h'.length F' J s → R J H'
  | .exc c fs h' => WExc T K io h.length F H c fs h' (fun c d H' => W c d σ H')
  | .bad => False
abbrev JI (T : Tb) (X : Cx) (W : WX) (tg iter : Expr) (f : Ix) : Prop := PI X tg iter (tI T X.K W f)
theorem pi_imp {tg iter : Expr} {t t' : TI} (h : PI X tg iter t) (i : ∀ σ H Q, t' σ H Q → t σ H Q) : PI X tg iter t' := ⟨fun pins s σ H Q I q => h.run pins s σ H Q I (i σ H Q q)⟩
def forItems (body : Val → Sg → Hh → ResS) : List Val → Sg → Hh → ResS
  | [], sg, h => .next sg h
  | v :: r, sg, h => match body v sg h with
    | .next sg1 h1 => forItems body r sg1 h1
    | .cont sg1 h1 => forItems body r sg1 h1
    | .brk sg1 h1 => .next sg1 h1
    | .ret v h1 => .ret v h1
    | .exc c fs sg1 h1 => .exc c fs sg1 h1
    | .bad => .bad
def forRef (body : Val → Sg → Hh → ResS) (c : Hh → Option (List Val)) : Nat → Nat → Sg → Hh → ResS
  | 0, _, _, _ => .bad
  | m + 1, i, sg, h => match c h with
    | some xs => (match xs[i]? with
      | none => .next sg h
      | some v => match body v sg h with
        | .next sg1 h1 => forRef body c m (i + 1) sg1 h1
        | .cont sg1 h1 => forRef body c m (i + 1) sg1 h1
        | .brk sg1 h1 => .next sg1 h1
        | .ret v h1 => .ret v h1
        | .exc c fs sg1 h1 => .exc c fs sg1 h1
        | .bad => .bad)
    | none => .bad
def bodyOf (g : Gx) (b : Sx) : Val → Sg → Hh → ResS := fun v sg h => (g v sg h).bindS fun sg1 h1 => b sg1 h1
def xFor (fi : Ix) (g : Gx) (b : Sx) : Sx := fun sg h => match fi sg h with
  | .ok (.items vs) h1 => forItems (bodyOf g b) vs sg h1
  | .ok (.ref k) h1 => forRef (bodyOf g b) k 1000000 0 sg h1
  | .exc c fs h1 => .exc c fs sg h1
  | .bad => .bad
theorem turn_of {K : PySem.W.Frag} {W : WX} {D : Ends} {tbody : Gx} {b : Sx} {J : It} {io : Nat → Addr} {h : Hh} {F H : Hp} {sg : Sg} {σ : L2.St} {v : Val} {i : Nat} {N : L2.St → Hp → Prop} (sr : SR T K io h F H) (rs : RSt T K io h.length F sg σ)
    (y : YldOk T K J i (some v) io h F H)
    (nxt : ∀ sg1 h1 io1 F1 H1 σ1, (bodyOf tbody b v sg h = .next sg1 h1 ∨ bodyOf tbody b v sg h = .cont sg1 h1) → Step io h.length F H io1 h1.length F1 H1 → SR T K io1 h1 F1 H1 → RSt T K io1 h1.length F1 sg1 σ1 → N σ1 H1)
    (brk : ∀ sg1 h1, bodyOf tbody b v sg h = .brk sg1 h1 → WantsS T K io h.length F H W D (.next sg1 h1))
    (oth : ∀ r, bodyOf tbody b v sg h = r → (match r with | .next _ _ => False | .cont _ _ => False | .brk _ _ => False | _ => True) → WantsS T K io h.length F H W D r) :
    ∀ x H', J.yld i H x H' → tG1 T K tbody x σ H' fun σ2 H2 => tS T K W b { D with nx := N, ct := N, bk := D.nx } σ2 H2 := by
  intro x H' hy
  obtain ⟨F', st, sr', vr⟩ := y.2 x H' hy
  refine ⟨io, h, F', sg, v, sr', rs.step st, vr, ?_⟩
  have tr : ∀ {io1 : Nat → Addr} {h1 : Hh} {F1 H1 : Hp}, Step io h.length F' H' io1 h1.length F1 H1 → Step io h.length F H io1 h1.length F1 H1 := fun s => st.trans sr' s
  cases eg : tbody v sg h with
  | bad =>
    have eb : bodyOf tbody b v sg h = .bad := by unfold bodyOf; rw [eg]; rfl
    exact (oth _ eb trivial : False).elim
  | ok sg2 h2 =>
    intro io2 F2 H2 σ2 st2 sr2 rs2
    refine ⟨io2, h2, F2, sg2, sr2, rs2, ?_⟩
    have st02 : Step io h.length F H io2 h2.length F2 H2 := tr st2
    have eb : bodyOf tbody b v sg h = b sg2 h2 := by unfold bodyOf; rw [eg]; rfl
    cases e : b sg2 h2 with
    | next sg3 h3 => exact fun io3 F3 H3 σ3 st3 sr3 rs3 => nxt sg3 h3 io3 F3 H3 σ3 (.inl (eb.trans e)) (st02.trans sr2 st3) sr3 rs3
    | cont sg3 h3 => exact fun io3 F3 H3 σ3 st3 sr3 rs3 => nxt sg3 h3 io3 F3 H3 σ3 (.inr (eb.trans e)) (st02.trans sr2 st3) sr3 rs3
    | brk sg3 h3 => exact fun io3 F3 H3 σ3 st3 sr3 rs3 => brk sg3 h3 (eb.trans e) io3 F3 H3 σ3 (st02.trans sr2 st3) sr3 rs3
    | ret u h3 => exact WantsS.rebase (D := D) (r := .ret u h3) (oth _ (eb.trans e) trivial) st02 sr2
    | exc c fs sg3 h3 => exact WantsS.rebase (D := D) (r := .exc c fs sg3 h3) (oth _ (eb.trans e) trivial) st02 sr2
    | bad => exact (oth _ (eb.trans e) trivial : False).elim
theorem js_for {tg iter : Expr} {body : List Stmt} {fi : Ix} {g : Gx} {b : Sx} (hp : PassesOwn (model X.prog X.w) X.A X.env X.xe) (hc : X.calm = true) (hi : JI T X W tg iter fi) (hg : JG T X tg g) (hb : JSs T X W body b)
    (hs : ∀ x, foldedSetIterable iter X.env x = pure x := by intro _; rfl) : JS T X W (.For tg iter body [] pos) (xFor fi g b) := by
  refine ps_imp (ps_for hp hc hi hg hb hs) fun D σ H ⟨io, h, F, sg, sr, rs, w⟩ => ⟨io, h, F, sg, sr, rs, ?_⟩
  unfold xFor at w
  cases e : fi sg h with
  | bad => rw [e] at w; exact w
  | exc c fs h1 => rw [e] at w; exact fun io' F' H' d st sr xr => w io' F' H' σ d st sr (rs.step st) xr
  | ok s h1 =>
    rw [e] at w
    intro io1 F1 H1 J st1 sr1 so
    have rs1 := rs.step st1
    cases s with
    | items vs =>
      have w1 := WantsS.rebase w st1 sr1
      refine ⟨fun i m σ H => m = vs.length - i ∧ i ≤ vs.length ∧ ∃ io h F sg, SR T X.K io h F H ∧ RSt T X.K io h.length F sg σ ∧ h1.length ≤ h.length ∧ (∀ k, k < h1.length → io k = io1 k) ∧ (∀ b o, F1 b = some o → F b = some o) ∧ WantsS T X.K io h.length F H W D (forItems (bodyOf g b) (vs.drop i) sg h),
        ⟨vs.length, by simp, Nat.zero_le _, io1, h1, F1, sg, sr1, rs1, Nat.le_refl _, fun _ _ => rfl, fun _ _ e => e, by simpa using w1⟩, ?_⟩
      rintro i m σ2 H2 ⟨rfl, hi', io2, h2, F2, sg2, sr2, rs2, hn2, he2, hF2, w2⟩
      have y := so i io2 h2 F2 H2 sr2 hn2 he2 hF2 hi'
      by_cases hlt : i < vs.length
      · have ev : vs[i]? = some vs[i] := by simp [hlt]
        rw [ev] at y
        rw [List.drop_eq_getElem_cons hlt] at w2
        refine .inr ⟨y.1, fun σ3 H3 => ∃ io h F sg, SR T X.K io h F H3 ∧ RSt T X.K io h.length F sg σ3 ∧ h1.length ≤ h.length ∧ (∀ k, k < h1.length → io k = io1 k) ∧ (∀ b o, F1 b = some o → F b = some o) ∧ WantsS T X.K io h.length F H3 W D (forItems (bodyOf g b) (vs.drop (i + 1)) sg h),
          fun σ' H' n' => ⟨vs.length - (i + 1), by omega, rfl, hlt, n'⟩, turn_of sr2 rs2 y (fun sg3 h3 io3 F3 H3 σ3 eb st3 sr3 rs3 => ?_) (fun sg3 h3 eb => ?_) (fun r eb hr => ?_)⟩
        · unfold forItems at w2
          refine ⟨io3, h3, F3, sg3, sr3, rs3, Nat.le_trans hn2 st3.le, fun k hk => (st3.eq k (Nat.lt_of_lt_of_le hk hn2)).trans (he2 k hk), fun b o e => st3.phi b o (hF2 b o e), ?_⟩
          rcases eb with eb | eb
          · rw [eb] at w2; exact WantsS.rebase w2 st3 sr3
          · rw [eb] at w2; exact WantsS.rebase w2 st3 sr3
        · unfold forItems at w2; rw [eb] at w2; exact w2
        · unfold forItems at w2; rw [eb] at w2
          cases r with
          | next _ _ => exact hr.elim
          | cont _ _ => exact hr.elim
          | brk _ _ => exact hr.elim
          | ret v h3 => exact w2
          | exc c fs sg3 h3 => exact w2
          | bad => exact w2
      · have : i = vs.length := by omega
        subst this
        rw [List.getElem?_eq_none (Nat.le_refl _)] at y
        rw [List.drop_length] at w2
        exact .inl ⟨y, w2 io2 F2 H2 σ2 .refl sr2 rs2⟩
    | ref k =>
      have w1 := WantsS.rebase w st1 sr1
      refine ⟨fun i m σ H => ∃ io h F sg, SR T X.K io h F H ∧ RSt T X.K io h.length F sg σ ∧ h1.length ≤ h.length ∧ (∀ k, k < h1.length → io k = io1 k) ∧ (∀ b o, F1 b = some o → F b = some o) ∧ WantsS T X.K io h.length F H W D (forRef (bodyOf g b) k m i sg h),
        ⟨1000000, io1, h1, F1, sg, sr1, rs1, Nat.le_refl _, fun _ _ => rfl, fun _ _ e => e, w1⟩, ?_⟩
      rintro i m σ2 H2 ⟨io2, h2, F2, sg2, sr2, rs2, hn2, he2, hF2, w2⟩
      cases m with
      | zero => exact w2.elim
      | succ m =>
        unfold forRef at w2
        cases ek : k h2 with
        | none => rw [ek] at w2; exact w2.elim
        | some xs =>
          rw [ek] at w2
          · have y := so i io2 h2 F2 H2 xs sr2 hn2 he2 hF2 ek
            dsimp only at w2
            cases ev : xs[i]? with
            | none => rw [ev] at w2 y; exact .inl ⟨y, w2 io2 F2 H2 σ2 .refl sr2 rs2⟩
            | some v =>
              rw [ev] at w2 y
              dsimp only at w2
              refine .inr ⟨y.1, fun σ3 H3 => ∃ io h F sg, SR T X.K io h F H3 ∧ RSt T X.K io h.length F sg σ3 ∧ h1.length ≤ h.length ∧ (∀ k, k < h1.length → io k = io1 k) ∧ (∀ b o, F1 b = some o → F b = some o) ∧ WantsS T X.K io h.length F H3 W D (forRef (bodyOf g b) k m (i + 1) sg h),
                fun σ' H' n' => ⟨m, Nat.lt_succ_self _, n'⟩, turn_of sr2 rs2 y (fun sg3 h3 io3 F3 H3 σ3 eb st3 sr3 rs3 => ?_) (fun sg3 h3 eb => ?_) (fun r eb hr => ?_)⟩
              · refine ⟨io3, h3, F3, sg3, sr3, rs3, Nat.le_trans hn2 st3.le, fun k hk => (st3.eq k (Nat.lt_of_lt_of_le hk hn2)).trans (he2 k hk), fun b o e => st3.phi b o (hF2 b o e), ?_⟩
                rcases eb with eb | eb
                · rw [eb] at w2; exact WantsS.rebase w2 st3 sr3
                · rw [eb] at w2; exact WantsS.rebase w2 st3 sr3
              · rw [eb] at w2; exact w2
              · rw [eb] at w2
                cases r with
                | next _ _ => exact hr.elim
                | cont _ _ => exact hr.elim
                | brk _ _ => exact hr.elim
                | ret v h3 => exact w2
                | exc c fs sg3 h3 => exact w2
                | bad => exact w2
      /-! the things that are walked -/
def xISeq (e : Ex) : Ix := fun sg h => match e sg h with
  | .ok v h1 => (match v with
    | .lst vs => .ok (.items vs) h1
    | .ref k => (match h1[k]? with
      | some (.lst _) => .ok (.ref (curL k)) h1
      | _ => .bad)
    | _ => .bad)
  | .exc c fs h1 => .exc c fs h1
  | .bad => .bad
def xITup (e : Ex) : Ix := fun sg h => match e sg h with
  | .ok v h1 => (match v with
    | .tup vs => .ok (.items vs) h1
    | _ => .bad)
  | .exc c fs h1 => .exc c fs h1
  | .bad => .bad
theorem ji_list {tg iter : Expr} (he : JE T X W iter fe) : JI T X W tg iter (xISeq fe) := by
  refine pi_imp (pi_list he) fun σ H R ⟨io, h, F, sg, sr, rs, w⟩ => ⟨io, h, F, sg, sr, rs, ?_⟩
  unfold xISeq at w
  cases e : fe sg h with
  | bad => rw [e] at w; exact w
  | exc c fs h1 => rw [e] at w; exact w
  | ok v h1 =>
    rw [e] at w
    intro io1 F1 H1 x st1 sr1 vr
    cases vr with
    | @lst vs a xs q r =>
      refine ⟨a, rfl, ⟨xs, sqL_mono sr1.sub q⟩, w io1 F1 H1 _ st1 sr1 fun i io2 h2 F2 H2 sr2 hn he hF hi => ?_⟩
      have q2 : SqL X.K H2 a xs := sqL_mono sr2.sub (sqL_mono hF q)
      by_cases hlt : i < vs.length
      · have ev : vs[i]? = some vs[i] := by simp [hlt]
        obtain ⟨x', ex, rx⟩ := r.get ev
        rw [ev]
        refine ⟨⟨xs, x', q2, ex⟩, fun x H' ⟨e', y⟩ => ?_⟩
        subst e'
        have : x = x' := Option.some.inj ((y xs q2).symm.trans ex)
        subst this
        exact ⟨F2, .refl, sr2, rx.mono hn he hF⟩
      · rw [List.getElem?_eq_none (by omega)]
        exact ⟨xs, q2, by rw [← r.length]; omega⟩
    | ref k hk =>
      dsimp only at w
      cases ek : h1[k]? with
      | none => rw [ek] at w; exact w.elim
      | some ob =>
        rw [ek] at w
        cases ob with
        | exn c vs => exact w.elim
        | ins c vs => exact w.elim
        | dct ks vs => exact w.elim
        | lst vs =>
          obtain ⟨xs, ea, r⟩ := sr1.obj k _ ek
          refine ⟨io1 k, rfl, ⟨xs, SqL.of ea⟩, w io1 F1 H1 _ st1 sr1 fun i io2 h2 F2 H2 ys sr2 hn he hF ek2 => ?_⟩
          obtain ⟨xs2, ea2, r2⟩ := sr2.obj k _ (curL_ok ek2)
          rw [he k hk] at ea2
          cases ev : ys[i]? with
          | none => exact ⟨xs2, SqL.of ea2, by rw [← r2.length]; exact List.getElem?_eq_none_iff.mp ev⟩
          | some v =>
            obtain ⟨x', ex, rx⟩ := r2.get ev
            refine ⟨⟨xs2, x', SqL.of ea2, ex⟩, fun x H' ⟨e', y⟩ => ?_⟩
            subst e'
            have : x = x' := Option.some.inj ((y xs2 (SqL.of ea2)).symm.trans ex)
            subst this
            exact ⟨F2, .refl, sr2, rx⟩
    | _ => exact w.elim
theorem ji_tup {tg iter : Expr} (he : JE T X W iter fe) : JI T X W tg iter (xITup fe) := by
  refine pi_imp (pi_tup he) fun σ H R ⟨io, h, F, sg, sr, rs, w⟩ => ⟨io, h, F, sg, sr, rs, ?_⟩
  unfold xITup at w
  cases e : fe sg h with
  | bad => rw [e] at w; exact w
  | exc c fs h1 => rw [e] at w; exact w
  | ok v h1 =>
    rw [e] at w
    intro io1 F1 H1 x st1 sr1 vr
    cases vr with
    | @tup vs a xs q r =>
      refine ⟨a, rfl, ⟨xs, sqT_mono sr1.sub q⟩, w io1 F1 H1 _ st1 sr1 fun i io2 h2 F2 H2 sr2 hn he hF hi => ?_⟩
      have q2 : SqT X.K H2 a xs := sqT_mono sr2.sub (sqT_mono hF q)
      by_cases hlt : i < vs.length
      · have ev : vs[i]? = some vs[i] := by simp [hlt]
        obtain ⟨x', ex, rx⟩ := r.get ev
        rw [ev]
        refine ⟨⟨xs, x', q2, ex⟩, fun x H' ⟨e', y⟩ => ?_⟩
        subst e'
        have : x = x' := Option.some.inj ((y xs q2).symm.trans ex)
        subst this
        exact ⟨F2, .refl, sr2, rx.mono hn he hF⟩
      · rw [List.getElem?_eq_none (by omega)]
        exact ⟨xs, q2, by rw [← r.length]; omega⟩
    | _ => exact w.elim
def rng (lo : Int) : Nat → List Val
  | 0 => []
  | n + 1 => .int lo :: rng (lo + 1) n
theorem rng_len : ∀ (lo : Int) (n : Nat), (rng lo n).length = n
  | _, 0 => rfl
  | lo, n + 1 => by simp [rng, rng_len (lo + 1) n]
theorem rng_get : ∀ (lo : Int) (n i : Nat), i < n → (rng lo n)[i]? = some (.int (lo + i))
  | _, 0, _, h => absurd h (Nat.not_lt_zero _)
  | lo, n + 1, 0, _ => by simp [rng]
  | lo, n + 1, i + 1, h => by
    have := rng_get (lo + 1) n i (by omega)
    simp only [rng, List.getElem?_cons_succ, this]
    congr 2
    omega
theorem src_rng {K : PySem.W.Frag} {io0 : Nat → Addr} {n0 : Nat} {F0 : Hp} (lo : Int) (n : Nat) : SrcOk T K io0 n0 F0 (Itr lo n) (.items (rng lo n)) := by
  intro i io h F H sr hn he hF hi
  rw [rng_len] at hi
  by_cases hlt : i < n
  · rw [rng_get lo n i hlt]
    refine ⟨hlt, fun x H' ⟨e1, e2⟩ => ?_⟩
    subst e1 e2
    exact ⟨F, .refl, sr, .int _⟩
  · rw [List.getElem?_eq_none (by rw [rng_len]; omega)]
    exact Nat.not_lt.mp hlt
def small62 (i : Int) : Bool := decide (-4611686018427387904 ≤ i) && decide (i < 4611686018427387904)
theorem small62_ok {i : Int} (h : small62 i = true) : -(2 ^ 62) ≤ i ∧ i < 2 ^ 62 := by
  unfold small62 at h
  simp only [Bool.and_eq_true, decide_eq_true_eq] at h
  have e : (2 : Int) ^ 62 = 4611686018427387904 := by decide
  omega
def xIRng1 (l : Lx) : Ix := fun sg h => match l sg h with
  | .ok [.int j] h1 => if small62 j then .ok (.items (rng 0 j.toNat)) h1 else .bad
  | .ok _ _ => .bad
  | .exc c fs h1 => .exc c fs h1
  | .bad => .bad
theorem ji_range1 {tg : Expr} {fl : Lx} {p : Pos} (hg : Gl X "range") (hm : X.mg "range" = none) (ha : JA T X W [a] fl) (hs : starEach [a] X.env = [(false, eval a X.env)] := by rfl) : JI T X W tg (.Call (.Name "range" p) [a] [] pos) (xIRng1 fl) := by
  refine pi_imp (pi_range1 hg hm ha hs) fun σ H R ⟨io, h, F, sg, sr, rs, w⟩ => ⟨io, h, F, sg, sr, rs, ?_⟩
  unfold xIRng1 at w
  cases e : fl sg h with
  | bad => rw [e] at w; exact w
  | exc c fs h1 => rw [e] at w; exact w
  | ok vs h1 =>
    rw [e] at w
    intro io1 F1 H1 xs st1 sr1 vrs
    match vs, vrs, w with
    | [.int j], .cons (.int _) .nil, w =>
      by_cases hj : small62 j = true
      · simp only [hj, if_true] at w
        obtain ⟨h1, h2⟩ := small62_ok hj
        exact ⟨j, rfl, h1, h2, w io1 F1 H1 _ st1 sr1 (src_rng 0 j.toNat)⟩
      · simp only [hj] at w; exact w.elim
    | [], _, w => exact w.elim
    | .non :: _, _, w => exact w.elim
    | .bl _ :: _, _, w => exact w.elim
    | .str _ :: _, _, w => exact w.elim
    | .tup _ :: _, _, w => exact w.elim
    | .lst _ :: _, _, w => exact w.elim
    | .obj _ _ :: _, _, w => exact w.elim
    | .ref _ :: _, _, w => exact w.elim
    | .glo _ :: _, _, w => exact w.elim
    | .dct _ _ :: _, _, w => exact w.elim
    | .int _ :: _ :: _, _, w => exact w.elim
end
end Py
namespace Py
open PySem PySem.Spec PyProof.Rows L2
structure RoomG (k : Nat) (A : Around) : Prop where
  rm : Room k A
  gd : A.guards = some []
theorem RoomG.mono {j k : Nat} {A : Around} (r : RoomG k A) (h : j ≤ k) : RoomG j A := ⟨r.rm.mono h, r.gd⟩
theorem RoomG.deeper {k : Nat} {A : Around} (r : RoomG (k + 1) A) (env : Env) : RoomG k (A.deeper env) := ⟨r.rm.deeper env, r.gd⟩
theorem RoomG.in1 {k : Nat} {A : Around} (r : RoomG (k + 1) A) : RoomG k A.in1 := ⟨r.rm.in1, r.gd⟩
theorem RoomG.units {k : Nat} {A : Around} (r : RoomG k A) : A.units + 64 < cLine := r.rm.units
theorem RoomG.un {k : Nat} {A : Around} (r : RoomG k A) : A.units + 16 * k + 200 < cLine := r.rm.un
structure FnG (P : Program) (w : World) (K : PySem.W.Frag) (mg : Str → Option Value) (base : Heap) (C : CXT) (k : Nat) (f : Addr) (fd : FuncData) (ps : List Str) (sp : Sp) : Prop where
  len : ∀ vs H Q E, sp vs H Q E → vs.length = ps.length
  run : ∀ (A : Around) (outer : List Env) (s : Shared) (H : Hp) (args : Args) (us : List Value) (vs : List V) (Q : VK) (E : XK), RoomG k A → Env0 P w K mg base A outer s H → BindsTo s fd args (ps.zip us) → Vals vs us → sp vs H Q E →
    codeAny (model P w) A (.call (.ref f) args) (CR C outer P w H s Q E) s
section
variable {P : Program} {w : World} {K : PySem.W.Frag} {mg : Str → Option Value} {base : Heap} {C : CXT} {k : Nat} {f : Addr} {x qual : Str} {params : Arguments} {body : List Stmt} {scope : Scope} {dvs : List V} {kws : List (Str × V)} {fd : FuncData} {N ps : List Str} {sp : Sp}
theorem fnG_of (FD : FunD K x qual params body scope dvs kws f fd) (S : FnScope N ps scope) (hlen : ∀ vs H Q E, sp vs H Q E → vs.length = ps.length)
    (hbd : ∀ (cdv : Value) (A : Around) (outer : List Env) (s : Shared) (H : Hp) (vs : List V) (Q : VK) (E : XK), RoomG k (A.deeper (envOfC qual scope s.heap.objs.size f cdv)) → sp vs H Q E →
      ∃ t, PSs (cxOf C P w K mg base N qual scope f cdv A outer s H E) body t ∧ t { nx := fun _ H' => Q .non H', rt := Q } (start N vs) H) : FnG P w K mg base C (k + 1) f fd ps sp := by
  obtain ⟨oc, od, dV, kV, doc, pm, an, cdv, ct, osl, rfl, lk, hcd, _, _⟩ := FD.ex
  refine ⟨hlen, fun A outer s H args us vs Q E room e0 hbind rel hs => ?_⟩
  have KI : K.In s.heap := e0.mod.kin.keeps fun b o z => (e0.bs b o z).1
  have nolim : s.heap.NoLimit := e0.mod.nolimit.keeps fun b o z => (e0.bs b o z).1
  have kinds : ∀ y ∈ ps.zip us, scope.names.lookup y.1 = some .local ∨ (scope.names.lookup y.1 = some .cell ∧ ((cellsFrom (s.heap.objs.size + 1) scope.names []).lookup y.1).isSome = true) := by
    rintro ⟨n, v⟩ hy
    have hn := S.par n (List.of_mem_zip hy).1
    exact hn.elim .inl fun z => .inr ⟨z, PySem.W.cellsFrom_some _ _ _ (.inl z)⟩
  refine codeAny_call_function room.rm.depth (KI _ _ lk) rfl S.co S.gen rfl (PySem.W.codeRec_of KI hcd) (hbind _ _ _ _ (wpAny_newFunctionEnv_cells S.kind kinds fun env henv s1 new => ?_))
  subst henv
  refine ⟨nolim.keeps new.toInCall.keep, codeAny_func ?_⟩
  obtain ⟨t, rt, wt⟩ := hbd cdv A outer s H vs Q E (room.deeper _) hs
  have I0 : L2.Inv (cxOf C P w K mg base N qual scope f cdv A outer s H E) [] (start N vs) H s1 := inv_start S room.rm.hd e0 (hlen _ _ _ _ hs) rel new
  refine wpAny_mono (rt.run [] s1 _ H _ I0 wt) (fun flow s2 h2 => ?_) fun _ _ z => z
  match flow, h2 with
  | .ret u, ⟨v, σ2, H2, J, rv, q⟩ => exact ⟨v, H2, J.os, J.bare, J.base, J.hok, rv, q⟩
  | .next, ⟨σ2, H2, J, q⟩ => exact ⟨V.non, H2, J.os, J.bare, J.base, J.hok, rfl, q⟩
  | .brk, ⟨_, _, _, q⟩ => exact False.elim q
  | .cont, ⟨_, _, _, q⟩ => exact False.elim q
end
section
variable {X : Cx} {C : CXT} {k : Nat} {f : Addr} {fd : FuncData} {ps : List Str} {sp : Sp} {dvs : List V} {ds : List Value} {E : L2.St → XK} {x : Str} {p pos : Pos} {e : Expr} {es : List Expr} {t : TA}
theorem run_fnG {pins : List (Addr × PySem.Obj)} {σ : L2.St} {H : Hp} {s : Shared} {Q : VK} {us : List Value} {vs : List V} (F : FnG X.prog X.w X.K X.mg X.base C k f fd ps sp) (hr : RoomG k X.A) (hb : Binds X.K fd ps ds) (hd : Vals dvs ds) (hx : PassesAt C X σ (E σ))
    (I : L2.Inv X pins σ H s) (r : Vals vs us) (h : sp (vs ++ dvs) H Q (E σ)) : wpAny (model X.prog X.w) X.A (call (.ref f) us) (EP X pins σ Q) X.xe s := by
  have both : Vals (vs ++ dvs) (us ++ ds) := r.append hd
  have many : (us ++ ds).length = ps.length := both.length.symm.trans (F.len _ _ _ _ h)
  refine wpAny_call (codeAny_mono (F.run X.A X.stack s H ⟨us, []⟩ (us ++ ds) (vs ++ dvs) Q (E σ) hr I.env0 (hb s us I.kIn many) both h) fun res s' hres => ?_)
  match res, hres with
  | .error er, z => exact hx pins H s er s' I z
  | .ok (.ret u), z => exact I.after z
  | .ok .next, z => exact False.elim z
  | .ok .brk, z => exact False.elim z
  | .ok .cont, z => exact False.elim z
theorem pe_callG (F : FnG X.prog X.w X.K X.mg X.base C k f fd ps sp) (hr : RoomG k X.A) (hg : Gl X x) (hm : X.mg x = some (.ref f)) (hk : PySem.W.keepIn X.K (.ref f) = true) (hb : Binds X.K fd ps ds) (hd : Vals dvs ds) (hx : ∀ σ, PassesAt C X σ (E σ))
    (ha : PA X (e :: es) t) (hdb : (x == ("__debug__" : Str)) = false) (he : starEach (e :: es) X.env = (false, eval e X.env) :: starEach es X.env) (hpl : (backTo pos (starEach es X.env)).any (·.1) = false) :
    PE X (.Call (.Name x p) (e :: es) [] pos) (tCallSD sp dvs E t) :=
  ⟨fun pins s σ H Q I h => wpAny_Call_Name_kw (ld_glob I hg hm (PySem.W.callWith_K (h₀ := X.base) I.ok.mod.kin hk (thn (ha.run pos pins s σ H _ I h) fun us s1 ⟨vs, H1, I1, r, q⟩ => ⟨I1.kIn, run_fnG F hr hb hd (hx σ) I1 r q⟩) he hpl) hdb)⟩
end
theorem law_callG {P : Program} {w : World} {K : PySem.W.Frag} {mg mb : Str → Option Value} {C : CXT} {k : Nat} {fa a : Addr} {fd : FuncData} {x : Str} {sp : Sp} {s1 : Shared} {vs : List Value} {ns : List Int}
    (KX : K.In s1.heap) (hns : s1.heap.Ns mainGlobals mg) (hbn : s1.heap.Ns builtinsNs mb) (hbb : ∀ x : Str, x ≠ "__name__" → mb x = bootBuiltins x) (hlim : s1.heap.NoLimit) (hg : s1.gens = #[])
    (ha : s1.heap.get? a = some { cls := .type "list", data := .seq vs.toArray }) (hi : IntsAre vs ns) (hl : ns.length ≤ sizeLine) (hr : RoomG k callerA)
    (F : ∀ base : Heap, K.In base → base.Ns mainGlobals mg → FnG P w K mg base C k fa fd [x] sp) (hbind : ∀ (s : Shared) (u : Value), BindsTo s fd ⟨[u], []⟩ [(x, u)])
    (hsp : ∀ H : Hp, Only H → SqL K H a (ns.map V.int) → sp [.ref a] H (fun v _ => v = .bl true) fun _ _ _ => False)
    (hCX : ∀ H e s', C [] H s1 (fun _ _ _ => False) e s' → False) :
    codeAny (model P w) callerA (.call (.ref fa) ⟨[.ref a], []⟩) (fun r s' => r = .ok (.ret (.bool true)) ∧ OldK s1.heap s'.heap ∧ s'.os = s1.os ∧ AllBare s'.gens) s1 := by
  have key : ∀ H : Hp, Only H → SqL K H a (ns.map V.int) → HOk P w H s1.heap → (∀ b u, H b = some u → b = a ∧ K.lookup a = none) →
      codeAny (model P w) callerA (.call (.ref fa) ⟨[.ref a], []⟩) (fun r s' => r = .ok (.ret (.bool true)) ∧ OldK s1.heap s'.heap ∧ s'.os = s1.os ∧ AllBare s'.gens) s1 := by
    intro H only sq hok lone
    have seen : ∀ {b : Addr} {o : PySem.Obj}, s1.heap.get? b = some o → H b = none → (hidT s1.heap H).get? b = some o := hidT_get
    have noDict : ∀ {b : Addr} {o : PySem.Obj} {es : Array DictEntry} {ep : Nat}, s1.heap.get? b = some o → o.data = .dict es ep → H b = none := by
      intro b o es ep e d
      cases q : H b with
      | none => rfl
      | some u =>
        obtain ⟨rfl, _⟩ := lone b u q
        rw [ha] at e
        cases e
        cases (show Data.seq vs.toArray _ = Data.dict es ep from d)
    have ns2 : ∀ {b : Addr} {m : Str → Option Value}, s1.heap.Ns b m → (hidT s1.heap H).Ns b m := fun ⟨o, es, ep, e, d, r⟩ => ⟨o, es, ep, seen e (noDict e d), d, r⟩
    have KB : K.In (hidT s1.heap H) := fun b o e => seen (KX b o e) (by
      cases q : H b with
      | none => rfl
      | some u =>
        obtain ⟨rfl, z⟩ := lone b u q
        rw [z] at e
        cases e)
    have md : Mod K mg (hidT s1.heap H) := ⟨KB, ns2 hns, ⟨mb, ns2 hbn, hbb⟩, let ⟨mc, l1, l2⟩ := hlim; ⟨mc, ns2 l1, l2⟩⟩
    have en : Env0 P w K mg (hidT s1.heap H) callerA [] s1 H := ⟨rfl, md, fun b o e => of_hidT e, Nat.le_of_eq (hidT_size _ _), trivial, fun b z => (List.not_mem_nil (show b ∈ ([] : List Addr) from z)).elim, hok, .of_eq hg⟩
    refine codeAny_mono ((F _ KB (ns2 hns)).run callerA [] s1 H ⟨[.ref a], []⟩ [.ref a] [.ref a] _ _ hr en (hbind s1 (.ref a)) (.cons rfl .nil) (hsp H only sq)) fun res s2 h2 => ?_
    match res, h2 with
    | .error e, z => exact (hCX H e s2 z).elim
    | .ok .next, z => exact False.elim z
    | .ok .brk, z => exact False.elim z
    | .ok .cont, z => exact False.elim z
    | .ok (.ret u), ⟨v, H2, os, bare, un, hok2, rv, qv⟩ =>
      cases (show v = .bl true from qv)
      cases (show u = Value.bool true from rv)
      refine ⟨rfl, OldK.of_keep fun b o e => ?_, os, bare⟩
      cases q : H b with
      | none => exact un.keep b o e q (fun z => (List.not_mem_nil (show b ∈ ([] : List Addr) from z)).elim) (by simp)
      | some u =>
        rcases only b with z | ⟨ob, xs, z⟩
        · rw [q] at z
          cases z
        · have e1 := (hok b _ z).1
          have e2 := (hok2 b _ (un.frzs b ob _ z)).1
          rw [e] at e1
          cases e1
          exact e2
  have rel := vals_ints hi
  have many := hi.length
  cases hk : K.lookup a with
  | some o =>
    have e := KX a o hk
    rw [ha] at e
    cases e
    exact key (fun _ => none) (fun _ => .inl rfl) (.inr ⟨_, vs.toArray, _, hk, rfl, rfl, rfl, by rw [List.size_toArray, many]; exact hl, by simpa using rel⟩) (fun b u z => (nomatch z)) fun b u z => (nomatch z)
  | none =>
    let H0 : Hp := fun b => if b = a then some (.frz { cls := .type "list", data := .seq vs.toArray } (.lst (ns.map V.int))) else none
    have at_ : H0 a = some (.frz { cls := .type "list", data := .seq vs.toArray } (.lst (ns.map V.int))) := if_pos rfl
    have off : ∀ b, b ≠ a → H0 b = none := fun b hb => if_neg hb
    have who : ∀ b u, H0 b = some u → b = a := fun b u z => Classical.byContradiction fun hb => by rw [off b hb] at z; cases z
    refine key H0 (fun b => ?_) (.inl (.inr ⟨_, at_⟩)) (fun b u z => ?_) fun b u z => ⟨who b u z, hk⟩
    · by_cases hb : b = a
      · subst hb; exact .inr ⟨_, _, at_⟩
      · exact .inl (off b hb)
    · obtain rfl := who b u z
      rw [at_] at z
      cases z
      exact ⟨ha, by rw [List.length_map]; exact hl, vs, _, rel, ha⟩
end Py
namespace Py
open PySem PySem.Spec PyProof.Rows L2
abbrev Fx := Hh → List Val → Res
def fnOf (np nN : Nat) (body : Sx) : Fx := fun h as => if as.length = np then (match body (as.map some ++ List.replicate (nN - np) none) h with
  | .ret v h' => .ok v h'
  | .next _ h' => .ok .non h'
  | .exc c fs _ h' => .exc c fs h'
  | _ => .bad) else .bad
def spF (T : Tb) (K : PySem.W.Frag) (f : Fx) : Sp := fun vs H Q E => ∃ io h F as, SR T K io h F H ∧ VRs T K io h.length F as vs ∧ Wants T K io h.length F H E Q (f h as)
theorem rst_start {T : Tb} {K : PySem.W.Frag} {io : Nat → Addr} {n : Nat} {F : Hp} {as : List Val} {vs : List V} (r : VRs T K io n F as vs) (m : Nat) : RSt T K io n F (as.map some ++ List.replicate m none) (vs.map some ++ List.replicate m none) := by
  have hl := r.length
  refine ⟨by simp [hl], fun i v e => ?_⟩
  by_cases hi : i < as.length
  · rw [List.getElem?_append_left (by simpa using hi), List.getElem?_map] at e
    have ev : as[i]? = some v := by
      cases q : as[i]? with
      | none => rw [q] at e; simp at e
      | some u => rw [q] at e; simp at e; rw [e]
    obtain ⟨x, ex, rx⟩ := r.get ev
    exact ⟨x, by rw [List.getElem?_append_left (by simp; omega), List.getElem?_map, ex]; rfl, rx⟩
  · rw [List.getElem?_append_right (by simp; omega)] at e
    rw [List.getElem?_replicate] at e
    split at e <;> simp at e
theorem fn_ok {P : Program} {w : World} {K : PySem.W.Frag} {mg : Str → Option Value} {base : Heap} {x qual : Str} {params : Arguments} {body : List Stmt} {scope : Scope} {dvs : List V} {kws : List (Str × V)} {f : Addr} {fd : FuncData} {T : Tb} {N ps : List Str} {k : Nat} {fb : Sx}
    (FD : FunD K x qual params body scope dvs kws f fd) (S : FnScope N ps scope)
    (hb : ∀ (cdv : Value) (A : Around) (outer : List Env) (s : Shared) (H : Hp) (E : XK), RoomG k (A.deeper (envOfC qual scope s.heap.objs.size f cdv)) →
      JSs T (cxOf (CX P w) P w K mg base N qual scope f cdv A outer s H E) (fun c d _ H => E c d H) body fb) :
    FnG P w K mg base (CX P w) (k + 1) f fd ps (spF T K (fnOf ps.length N.length fb)) := by
  refine fnG_of FD S (fun vs H Q E ⟨io, h, F, as, sr, vrs, w⟩ => ?_) fun cdv A outer s H vs Q E hr ⟨io, h, F, as, sr, vrs, w⟩ => ⟨_, hb cdv A outer s H E hr, ?_⟩
  · unfold fnOf at w
    by_cases hl : as.length = ps.length
    · rw [← vrs.length]; exact hl
    · rw [if_neg hl] at w; exact w.elim
  · unfold fnOf at w
    by_cases hl : as.length = ps.length
    · rw [if_pos hl] at w
      have e : L2.start N vs = vs.map some ++ List.replicate (N.length - ps.length) none := by unfold L2.start; rw [← vrs.length, hl]
      rw [e]
      refine ⟨io, h, F, _, sr, rst_start vrs _, ?_⟩
      cases q : fb (as.map some ++ List.replicate (N.length - ps.length) none) h with
      | next sg h1 => rw [q] at w; exact fun io' F' H' σ' st sr' rs' => w io' F' H' _ st sr' .non
      | ret v h1 => rw [q] at w; exact w
      | brk sg h1 => rw [q] at w; exact w.elim
      | cont sg h1 => rw [q] at w; exact w.elim
      | exc c fs sg h1 => rw [q] at w; exact fun io' F' H' σ' d st sr' rs' xr => w io' F' H' d st sr' xr
      | bad => rw [q] at w; exact w.elim
    · rw [if_neg hl] at w; exact w.elim
mutual
def pureV : Val → Bool
  | .ref _ => false
  | .tup vs => pureVs vs
  | .lst vs => pureVs vs
  | .obj _ vs => pureVs vs
  | .dct _ vs => pureVs vs
  | _ => true
def pureVs : List Val → Bool
  | [] => true
  | v :: vs => pureV v && pureVs vs
end
mutual
theorem nkV_pure : ∀ {v : Val} {n : NestedKey}, nkV v = some n → pureV v = true
  | .non, _, _ => rfl
  | .bl _, _, _ => rfl
  | .int _, _, _ => rfl
  | .str _, _, _ => rfl
  | .tup vs, _, e => by
    unfold nkV at e
    cases q : nkVs vs with
    | none => rw [q] at e; cases e
    | some l => unfold pureV; exact nkVs_pure q
  | .lst _, _, e => by simp [nkV] at e
  | .obj _ _, _, e => by simp [nkV] at e
  | .ref _, _, e => by simp [nkV] at e
  | .glo _, _, e => by simp [nkV] at e
  | .dct _ _, _, e => by simp [nkV] at e
theorem nkVs_pure : ∀ {vs : List Val} {n : List NestedKey}, nkVs vs = some n → pureVs vs = true
  | [], _, _ => rfl
  | v :: vs, _, e => by
    unfold nkVs at e
    cases q : nkV v with
    | none => rw [q] at e; cases e
    | some a =>
      cases q2 : nkVs vs with
      | none => rw [q, q2] at e; cases e
      | some b => simp [pureVs, nkV_pure q, nkVs_pure q2]
end
theorem pureVs_mem : ∀ {vs : List Val}, (∀ v ∈ vs, pureV v = true) → pureVs vs = true
  | [], _ => rfl
  | v :: vs, h => by simp [pureVs, h v (by simp), pureVs_mem fun u hu => h u (List.mem_cons_of_mem _ hu)]
theorem KeysOk.pure {ks : List Val} (h : KeysOk ks) : pureVs ks = true := pureVs_mem fun k hk => by
  rcases h.1 with z | z
  · obtain ⟨l, e, _⟩ := z k hk; exact nkV_pure e
  · rcases z k hk with ⟨i, rfl⟩ | ⟨s, rfl⟩ <;> rfl
section
variable {T : Tb} {K : PySem.W.Frag} {io io' : Nat → Addr} {n m : Nat} {F : Hp}
mutual
theorem VR.pure : ∀ {v : Val} {x : V}, VR T K io n F v x → pureV v = true → VR T K io' m F v x
  | _, _, .non, _ => .non
  | _, _, .bl b, _ => .bl b
  | _, _, .int i, _ => .int i
  | _, _, .str s, _ => .str s
  | _, _, .ref k h, e => by simp [pureV] at e
  | _, _, .tup h r, e => .tup h (VRs.pure r (by simpa [pureV] using e))
  | _, _, .lst h r, e => .lst h (VRs.pure r (by simpa [pureV] using e))
  | _, _, .obj h hd r hl, e => .obj h hd (VRs.pure r (by simpa [pureV] using e)) hl
  | _, _, .glo g, _ => .glo g
  | _, _, .dct h hk he r1 r2, e => .dct h hk he (VRs.pure r1 hk.pure) (VRs.pure r2 (by simpa [pureV] using e))
theorem VRs.pure : ∀ {v : List Val} {x : List V}, VRs T K io n F v x → pureVs v = true → VRs T K io' m F v x
  | _, _, .nil, _ => .nil
  | _, _, .cons h t, e => by
    simp [pureVs] at e
    exact .cons (VR.pure h e.1) (VRs.pure t e.2)
end
end
def frz (T : Nat → List Str) (h : Hh) : Nat → Val → Option Val
  | 0, _ => none
  | n + 1, v => match v with
    | .ref k => (match h[k]? with
      | some (.lst vs) => (vs.mapM (frz T h n)).map .lst
      | some (.ins c vs) => if vs.length = (T c).length then (vs.mapM (frz T h n)).map (.obj c) else none
      | some (.dct ks vs) => (vs.mapM (frz T h n)).map (.dct ks)
      | some (.exn _ _) => none
      | none => none)
    | .tup vs => (vs.mapM (frz T h n)).map .tup
    | .lst vs => (vs.mapM (frz T h n)).map .lst
    | .obj c vs => (vs.mapM (frz T h n)).map (.obj c)
    | .dct ks vs => (vs.mapM (frz T h n)).map (.dct ks)
    | v => some v
def frzTop (T : Nat → List Str) (h : Hh) (v : Val) : Option Val := match h with
  | [] => some v
  | _ => frz T h 30 v
def frzTops (T : Nat → List Str) (h : Hh) (vs : List Val) : Option (List Val) := match h with
  | [] => some vs
  | _ => vs.mapM (frz T h 30)
section
variable {T : Tb} {K : PySem.W.Frag} {io io' : Nat → Addr} {n m : Nat} {F F' F2 H H' : Hp} {h h' : Hh}
theorem mapM_VRs {g : Val → Option Val} (hg : ∀ v v' x, g v = some v' → VR T K io n F v x → VR T K io' m F2 v' x) : ∀ {vs vs' : List Val} {xs : List V}, vs.mapM g = some vs' → VRs T K io n F vs xs → VRs T K io' m F2 vs' xs
  | [], vs', xs, e, r => by
    simp at e; subst e
    cases r; exact .nil
  | v :: vs, vs', xs, e, r => by
    rw [List.mapM_cons] at e
    cases q : g v with
    | none => rw [q] at e; simp at e
    | some v' =>
      rw [q] at e
      cases q2 : vs.mapM g with
      | none => rw [q2] at e; simp at e
      | some us =>
        rw [q2] at e
        simp at e
        subst e
        cases r with
        | cons a b => exact .cons (hg v v' _ q a) (mapM_VRs hg q2 b)
theorem map_some {α β : Type} {o : Option α} {f : α → β} {b : β} (e : o.map f = some b) : ∃ a, o = some a ∧ f a = b := by
  cases o with
  | none => cases e
  | some a => exact ⟨a, rfl, Option.some.inj e⟩
theorem VR.ofEmpty {v : Val} {x : V} (r : VR T K io n F v x) (hn : n = 0) : VR T K io' m F v x := r.mono (by omega) (fun k hk => absurd hk (by omega)) (fun _ _ e => e)
theorem VRs.ofEmpty {v : List Val} {x : List V} (r : VRs T K io n F v x) (hn : n = 0) : VRs T K io' m F v x := r.mono (by omega) (fun k hk => absurd hk (by omega)) (fun _ _ e => e)
open Classical in
/-- all that the callee leaves, frozen -/
theorem OR.notOwn {a : Addr} {o : Obj} (r : OR T K io n F H a o) : ∀ y, H a ≠ some (.own y) := fun y e => by
  cases o with
  | lst vs => obtain ⟨xs, q, _⟩ := r; rw [q] at e; cases e
  | exn c vs => obtain ⟨dx, xs, q, _⟩ := r; rw [q] at e; unfold ExV at e; cases e
  | ins c vs => obtain ⟨dx, xs, q, _⟩ := r; rw [q] at e; cases e
  | dct ks vs => obtain ⟨es, ep, xs, ys, q, _⟩ := r; rw [q] at e; unfold DO at e; cases e
end
def callP (T : Nat → List Str) (f : Fx) (as : List Val) (h : Hh) : Res := if (h.isEmpty || pureVs as) = true then (match f [] as with
  | .ok v h' => .ofO (frzTop T h' v) h
  | .exc c fs h' => (match frzTops T h' fs with
    | some fs' => .exc c fs' h
    | none => .bad)
  | .bad => .bad) else .bad
section
variable {T : Tb} {K : PySem.W.Frag} {io io' : Nat → Addr} {n m : Nat} {F F' H H' : Hp} {h h' : Hh} {W : XK} {Q : VK}
theorem callA_ok {f : Fx} {as : List Val} {vs : List V} (sr : SR T K io h F H) (r : VRs T K io h.length F as vs) (w : Wants T K io h.length F H W Q (f h as)) : spF T K f vs H Q W := ⟨io, h, F, as, sr, r, w⟩
end
mutual
def noLst : Val → Bool
  | .lst _ => false
  | .dct _ _ => false
  | .ref _ => false
  | .tup vs => noLsts vs
  | .obj _ vs => noLsts vs
  | _ => true
def noLsts : List Val → Bool
  | [] => true
  | v :: vs => noLst v && noLsts vs
end
open Classical in
noncomputable def FB (F H F1 : Hp) : Hp := fun b => match F b with
  | some o => some o
  | none => if H b = none ∨ ∃ y, F1 b = some (.own y) then F1 b else none
section
variable {T : Tb} {K : PySem.W.Frag} {io io1 : Nat → Addr} {n : Nat} {F H F1 H1 : Hp} {h : Hh}
end
def lend (h : Hh) (v : Val) : Option Val := if pureV v = true then some v else match v with
  | .ref k => (match h[k]? with
    | some (.lst vs) => if pureVs vs = true then some (.lst vs) else none
    | _ => none)
  | _ => none
def callQ (T : Nat → List Str) (f : Fx) (as : List Val) (h : Hh) : Res := if pureVs as = true then callP T f as h else match as.mapM (lend h) with
  | some bs => (match callP T f bs [] with
    | .ok v _ => if noLst v = true then .ok v h else .bad
    | _ => .bad)
  | none => .bad
structure Fn (T : Tb) (X : Cx) (x : Str) (ps : List Str) (k : Nat) (f : Fx) : Prop where
  ex : ∃ (a : Addr) (fd : FuncData), FnG X.prog X.w X.K X.mg X.base (CX X.prog X.w) k a fd ps (spF T X.K f) ∧ X.mg x = some (.ref a) ∧ PySem.W.keepIn X.K (.ref a) = true ∧ ∃ (dv : List V) (ds : List Value), True
section
variable {T : Tb} {X : Cx} {W : WX} {e : Expr} {es : List Expr} {fl : Lx} {pos : Pos} {ps : List Str} {k : Nat} {f : Fx} {x : Str} {a : Addr} {fd : FuncData} {dvs : List V} {ds : List Value}
def xCallP (T : Nat → List Str) (f : Fx) (dfl : List Val) (l : Lx) : Ex := fun sg h => (l sg h).bind fun as h1 => callQ T f (as ++ dfl) h1
def xCallA (f : Fx) (dfl : List Val) (l : Lx) : Ex := fun sg h => (l sg h).bind fun as h1 => f h1 (as ++ dfl)
def Dfl (T : Tb) (K : PySem.W.Frag) (dfl : List Val) (dvs : List V) : Prop := ∀ io n F, VRs T K io n F dfl dvs
theorem Dfl.nil {K : PySem.W.Frag} : Dfl T K [] [] := fun _ _ _ => .nil
theorem je_callA (G : FnG X.prog X.w X.K X.mg X.base (CX X.prog X.w) k a fd ps (spF T X.K f)) (hr : RoomG k X.A) (hm : X.mg x = some (.ref a)) (hk : PySem.W.keepIn X.K (.ref a) = true) {dfl : List Val} (hD : Dfl T X.K dfl dvs) (hb : Binds X.K fd ps ds) (hd : Vals dvs ds) (tk : Takes X W)
    (ha : JA T X W (e :: es) fl) {p : Pos} (hg : Gl X x := by rfl) (hdb : (x == ("__debug__" : Str)) = false := by decide) (he : starEach (e :: es) X.env = (false, eval e X.env) :: starEach es X.env := by rfl) (hpl : (backTo pos (starEach es X.env)).any (·.1) = false := by rfl) :
    JE T X W (.Call (.Name x p) (e :: es) [] pos) (xCallA f dfl fl) :=
  pe_imp (pe_callG (E := fun σ c d H => W c d σ H) G hr hg hm hk hb hd (fun σ => passAt tk σ) ha hdb he hpl) fun σ H Q ⟨io, h, F, sg, sr, rs, w⟩ =>
    ⟨io, h, F, sg, sr, rs, Wants.bindOfL w fun vs h1 io1 F1 H1 xs st sr1 vr w1 => callA_ok sr1 (vr.append (hD _ _ _)) w1⟩
end
end Py
namespace Py
open PySem PySem.Spec PyProof.Rows L2
def WantsGw (T : Tb) (K : PySem.W.Frag) (io : Nat → Addr) (n : Nat) (F H : Hp) (σ : L2.St) (ws : List Nat) (Q : L2.St → Hp → Prop) : ResG → Prop
  | .ok sg' h' => ∀ io' F' H' σ', Step io n F H io' h'.length F' H' → SR T K io' h' F' H' → RSt T K io' h'.length F' sg' σ' → (∀ j, j ∉ ws → σ'[j]? = σ[j]?) → σ'.length = σ.length → Q σ' H'
  | .bad => False
def tGw (T : Tb) (K : PySem.W.Frag) (ws : List Nat) (g : Gx) : TG := fun x σ H Q => ∃ io h F sg v, SR T K io h F H ∧ RSt T K io h.length F sg σ ∧ VR T K io h.length F v x ∧ WantsGw T K io h.length F H σ ws Q (g v sg h)
abbrev JGw (T : Tb) (X : Cx) (ws : List Nat) (e : Expr) (g : Gx) : Prop := PG X e (tGw T X.K ws g)
section
variable {T : Tb} {X : Cx} {W : WX} {a b c e : Expr} {fa fb fc fe : Ex} {pos : Pos}
theorem WantsGw.rebase {K : PySem.W.Frag} {io io1 : Nat → Addr} {n : Nat} {F F1 H H1 : Hp} {h1 : Hh} {σ : L2.St} {ws : List Nat} {Q : L2.St → Hp → Prop} {r : ResG} (w : WantsGw T K io n F H σ ws Q r) (a : Step io n F H io1 h1.length F1 H1) (s : SR T K io1 h1 F1 H1) : WantsGw T K io1 h1.length F1 H1 σ ws Q r := by
  cases r with
  | ok v h' => exact fun io' F' H' x st sr vr hj hl => w io' F' H' x (a.trans s st) sr vr hj hl
  | bad => exact w
theorem jgw_name (i : Nat) {x : Str} (hN : X.N.Nodup) (hi : X.N[i]? = some x := by rfl) (hx : Loc X.env.scope x := by first | exact .inl rfl | exact .inr rfl) (hf : X.fn x = true ∨ X.env.scope.names.lookup x = some .local := by first | exact .inl rfl | exact .inr rfl | assumption) : JGw T X [i] (.Name x pos) (gN i) :=
  pg_imp (pg_name hN hi hx hf) fun x σ H Q ⟨io, h, F, sg, v, sr, rs, vr, w⟩ => w io F H _ .refl sr (rs.set i vr) (fun j hj => by rw [List.getElem?_set_ne (fun z => hj (by simp [z]))]) (by simp)
abbrev Wno : WX := fun _ _ _ _ => False
def wipeG (sg : Sg) : List Nat → Sg
  | [] => sg
  | v :: vs => (wipeG sg vs).set v none
theorem wipeG_ok {K : PySem.W.Frag} {io : Nat → Addr} {n : Nat} {F : Hp} {sg : Sg} {σ : L2.St} (r : RSt T K io n F sg σ) : ∀ vs : List Nat, RSt T K io n F (wipeG sg vs) (wipe σ vs)
  | [] => r
  | v :: vs => by
    have ih := wipeG_ok r vs
    refine ⟨by simp [wipeG, wipe, ih.len], fun i u e => ?_⟩
    unfold wipeG at e
    by_cases hv : v = i
    · subst hv
      by_cases hl : v < (wipeG sg vs).length
      · rw [List.getElem?_set_self hl] at e; cases e
      · rw [List.getElem?_eq_none (by simpa using hl)] at e; cases e
    · rw [List.getElem?_set_ne hv] at e
      obtain ⟨x, e1, e2⟩ := ih.at_ i u e
      exact ⟨x, by unfold wipe; rw [List.getElem?_set_ne hv]; exact e1, e2⟩
theorem wipe_at {σ : L2.St} {i : Nat} : ∀ {vs : List Nat}, i ∉ vs → (wipe σ vs)[i]? = σ[i]?
  | [], _ => rfl
  | v :: vs, h => by
    unfold wipe
    rw [List.getElem?_set_ne (fun z => h (by simp [z])), wipe_at (fun z => h (List.mem_cons_of_mem _ z))]
theorem wipe_in {σ : L2.St} {i : Nat} : ∀ {vs : List Nat}, i ∈ vs → i < σ.length → (wipe σ vs)[i]? = some none
  | v :: vs, h, hl => by
    unfold wipe
    by_cases hv : v = i
    · subst hv; rw [List.getElem?_set_self (by rw [wipe_length]; exact hl)]
    · rw [List.getElem?_set_ne hv, wipe_in ((List.mem_cons.mp h).resolve_left (fun z => hv z.symm)) hl]
theorem wipe_eq {σ σ' : L2.St} {vs ws : List Nat} (hw : ∀ j, j ∈ ws → j ∈ vs) (hj : ∀ j, j ∉ ws → σ'[j]? = (wipe σ vs)[j]?) (hl : σ'.length = (wipe σ vs).length) : wipe σ' vs = wipe σ vs := by
  apply List.ext_getElem?
  intro j
  by_cases h : j ∈ vs
  · by_cases hs : j < σ.length
    · rw [wipe_in h hs, wipe_in h (by rw [hl, wipe_length]; exact hs)]
    · rw [List.getElem?_eq_none (by rw [wipe_length, hl, wipe_length]; omega), List.getElem?_eq_none (by rw [wipe_length]; omega)]
  · rw [wipe_at h, hj j (fun z => h (hw j z))]
def compItems (g : Gx) (t e : Ex) (sg : Sg) : List Val → List Val → Hh → ResL
  | [], acc, h => .ok acc h
  | v :: r, acc, h => match g v sg h with
    | .ok sg1 h1 => (match t sg1 h1 with
      | .ok (.bl true) h2 => (match e sg1 h2 with
        | .ok y h3 => compItems g t e sg r (acc ++ [y]) h3
        | _ => .bad)
      | .ok (.bl false) h2 => compItems g t e sg r acc h2
      | _ => .bad)
    | .bad => .bad
def compRef (g : Gx) (t e : Ex) (sg : Sg) (k : Hh → Option (List Val)) : Nat → Nat → List Val → Hh → ResL
  | 0, _, _, _ => .bad
  | m + 1, i, acc, h => match k h with
    | some xs => (match xs[i]? with
      | none => .ok acc h
      | some v => match g v sg h with
        | .ok sg1 h1 => (match t sg1 h1 with
          | .ok (.bl true) h2 => (match e sg1 h2 with
            | .ok y h3 => compRef g t e sg k m (i + 1) (acc ++ [y]) h3
            | _ => .bad)
          | .ok (.bl false) h2 => compRef g t e sg k m (i + 1) acc h2
          | _ => .bad)
        | .bad => .bad)
    | _ => .bad
def xCompL (own : List Nat) (fi : Ix) (g : Gx) (t e : Ex) : Lx := fun sg h => match fi sg h with
  | .ok (.items vs) h1 => if vs.length ≤ 1000000 then compItems g t e (wipeG sg own) vs [] h1 else .bad
  | .ok (.ref k) h1 => compRef g t e (wipeG sg own) k 1000000 0 [] h1
  | .exc c fs h1 => .exc c fs h1
  | .bad => .bad
def xComp (own : List Nat) (fi : Ix) (g : Gx) (t e : Ex) : Ex := fun sg h => (xCompL own fi g t e sg h).bind fun vs h1 => .ok (.ref h1.length) (h1 ++ [.lst vs])
def xCompF (own : List Nat) (fi : Ix) (g : Gx) (t e : Ex) : Ex := fun sg h => (xCompL own fi g t e sg h).bind fun vs h1 => .ok (.lst vs) h1
abbrev JTs (T : Tb) (X : Cx) (W : WX) (es : List Expr) (f : Ex) : Prop := PTs X es (tB1 T X.K W f)
theorem jts_nil : JTs T X W [] (xC (.bl true)) := ⟨fun pins s σ H Q I ⟨io, h, F, sg, sr, rs, w⟩ => pts_nil.run pins s σ H Q I (w io F H .refl sr)⟩
def WantsD (T : Tb) (K : PySem.W.Frag) (io1 : Nat → Addr) (n1 : Nat) (F1 H1 : Hp) (D : Addr) (Q : VK) : ResL → Prop
  | .ok acc h' => ∀ io' F' H' xs, Step io1 n1 F1 H1 io' h'.length F' H' → SR T K io' h' F' H' → H' D = some (.lst xs) → VRs T K io' h'.length F' acc xs → F' D = none → (∀ k, k < h'.length → io' k ≠ D) → Q (.ref D) H'
  | _ => False
structure CInv (T : Tb) (K : PySem.W.Frag) (io1 : Nat → Addr) (n1 : Nat) (F1 H1 : Hp) (D : Addr) (io : Nat → Addr) (h : Hh) (F H : Hp) : Prop where
  sr : SR T K io h F H
  st : Step io1 n1 F1 H1 io h.length F H
  fd : F D = none
  nd : ∀ k, k < h.length → io k ≠ D
theorem CInv.go {K : PySem.W.Frag} {io1 io io' : Nat → Addr} {n1 : Nat} {F1 H1 F H F' H' : Hp} {D : Addr} {h h' : Hh} {xs : List V} (c : CInv T K io1 n1 F1 H1 D io h F H) (hD : H D = some (.lst xs)) (st : Step io h.length F H io' h'.length F' H') (sr : SR T K io' h' F' H') :
    CInv T K io1 n1 F1 H1 D io' h' F' H' ∧ H' D = some (.lst xs) := by
  have e := st.frame D _ hD c.nd
  refine ⟨⟨sr, c.st.trans c.sr st, ?_, fun k hk z => ?_⟩, e⟩
  · cases q : F' D with
    | none => rfl
    | some o =>
      exfalso
      rcases st.fresh D o q with z | z | ⟨y, z⟩
      · rw [c.fd] at z; cases z
      · rw [hD] at z; cases z
      · subst z
        have := sr.sub D _ q
        rw [e] at this; cases this
  · by_cases hk' : k < h.length
    · exact c.nd k hk' ((st.eq k hk').symm.trans z)
    · have := st.new k (by omega) hk
      rw [z, hD] at this; cases this
theorem CInv.app {K : PySem.W.Frag} {io1 io : Nat → Addr} {n1 : Nat} {F1 H1 F H : Hp} {D : Addr} {h : Hh} {xs : List V} (hD1 : H1 D = none) (c : CInv T K io1 n1 F1 H1 D io h F H) (hD : H D = some (.lst xs)) (ys : List V) : CInv T K io1 n1 F1 H1 D io h F (upd H D (.lst ys)) := by
  refine ⟨⟨fun b o e => ?_, c.sr.dis, c.sr.inj, fun k o e => ?_, fun pq hq => (c.sr.tabs pq hq).mono (fun _ _ h _ e => by rw [h] at e; cases e) (fun _ _ e _ => e) fun ps e => by rw [upd_ne (fun z => by rw [z, hD] at e; cases e)]; exact e⟩, ⟨c.st.le, c.st.eq, c.st.phi, fun b o e hb => ?_, c.st.new, c.st.fresh⟩, c.fd, c.nd⟩
  · have : b ≠ D := fun z => by rw [z, c.fd] at e; cases e
    rw [upd_ne this]; exact c.sr.sub b o e
  · have hk : k < h.length := (List.getElem?_eq_some_iff.mp e).1
    have r := c.sr.obj k o e
    cases o with
    | lst vs => obtain ⟨zs, e1, r⟩ := r; exact ⟨zs, by rw [upd_ne (c.nd k hk)]; exact e1, r⟩
    | dct ks vs => obtain ⟨es, ep, zs, us, e1, r⟩ := r; exact ⟨es, ep, zs, us, by rw [upd_ne (c.nd k hk)]; exact e1, r⟩
    | exn cc vs =>
      obtain ⟨dx, zs, e1, d, r, l⟩ := r
      exact ⟨dx, zs, by rw [upd_ne (c.nd k hk)]; exact e1, fun y ey => by rw [upd_ne (fun z => by have t := d y ey; rw [z, hD] at t; cases t)]; exact d y ey, r, l⟩
    | ins cc vs =>
      obtain ⟨dx, zs, e1, d, r, l⟩ := r
      exact ⟨dx, zs, by rw [upd_ne (c.nd k hk)]; exact e1, by rw [upd_ne (fun z => by rw [z, hD] at d; cases d)]; exact d, r, l⟩
  · rw [upd_ne (ne_of_none e hD1)]; exact c.st.frm b o e hb
theorem comp_turn {K : PySem.W.Frag} {io1 io : Nat → Addr} {n1 : Nat} {F1 H1 F H : Hp} {D : Addr} {h : Hh} {xs : List V} {acc : List Val} {sg : Sg} {σ : L2.St} {own ws : List Nat} {g : Gx} {t el : Ex} {Q : VK} {J : It} {i : Nat} {v : Val} {rest : List Val → Hh → ResL} {Nx : Hp → Prop}
    (hw : ∀ j, j ∈ ws → j ∈ own) (hD1 : H1 D = none) (c : CInv T K io1 n1 F1 H1 D io h F H) (hD : H D = some (.lst xs)) (va : VRs T K io h.length F acc xs) (rs : RSt T K io h.length F sg (wipe σ own)) (hz : acc.length < 1000000)
    (y : YldOk T K J i (some v) io h F H)
    (w : WantsD T K io1 n1 F1 H1 D Q (match g v sg h with
      | .ok sg1 h1 => (match t sg1 h1 with
        | .ok (.bl true) h2 => (match el sg1 h2 with
          | .ok y h3 => rest (acc ++ [y]) h3
          | _ => .bad)
        | .ok (.bl false) h2 => rest acc h2
        | _ => .bad)
      | .bad => .bad))
    (hN : ∀ acc' h' io' F' H' xs', acc'.length ≤ acc.length + 1 → CInv T K io1 n1 F1 H1 D io' h' F' H' → H' D = some (.lst xs') → VRs T K io' h'.length F' acc' xs' → RSt T K io' h'.length F' sg (wipe σ own) → (h.length ≤ h'.length ∧ (∀ k, k < h.length → io' k = io k) ∧ ∀ b o, F b = some o → F' b = some o) → WantsD T K io1 n1 F1 H1 D Q (rest acc' h') → Nx H') :
    ∀ x H', J.yld i H x H' → tGw T K ws g x (wipe σ own) H' fun σ2 H2 => wipe σ2 own = wipe σ own ∧ tB1 T K Wno t σ2 H2 fun b H3 =>
      if b = true then tE T K Wno el σ2 H3 fun y H4 => ∃ acc, H4 D = some (.lst acc) ∧ acc.length < sizeLine ∧ Nx (upd H4 D (.lst (acc ++ [y]))) else Nx H3 := by
  intro x H' hy
  obtain ⟨F', st, sr', vr⟩ := y.2 x H' hy
  obtain ⟨c1, hD'⟩ := c.go hD st sr'
  refine ⟨io, h, F', sg, v, sr', rs.step st, vr, ?_⟩
  cases eg : g v sg h with
  | bad => rw [eg] at w; exact w.elim
  | ok sg1 h1 =>
    rw [eg] at w
    intro io2 F2 H2 σ2 st2 sr2 rs2 hj hl
    obtain ⟨c2, hD2⟩ := c1.go hD' st2 sr2
    refine ⟨wipe_eq hw hj hl, io2, h1, F2, sg1, sr2, rs2, ?_⟩
    dsimp only at w
    cases et : t sg1 h1 with
    | bad => rw [et] at w; exact w.elim
    | exc cc fs hh => rw [et] at w; exact w.elim
    | ok tv h2 =>
      rw [et] at w
      cases tv with
      | bl tb =>
        intro io3 F3 H3 st3 sr3
        obtain ⟨c3, hD3⟩ := c2.go hD2 st3 sr3
        have st03 := ((st.trans sr' st2).trans sr2 st3)
        cases tb with
        | false =>
          rw [if_neg Bool.false_ne_true]
          exact hN acc h2 io3 F3 H3 xs (Nat.le_succ _) c3 hD3 (va.step st03) (rs.step st03) ⟨st03.le, st03.eq, st03.phi⟩ w
        | true =>
          rw [if_pos rfl]
          refine ⟨io3, h2, F3, sg1, sr3, rs2.step st3, ?_⟩
          dsimp only at w
          cases ee : el sg1 h2 with
          | bad => rw [ee] at w; exact w.elim
          | exc cc fs hh => rw [ee] at w; exact w.elim
          | ok yv h3 =>
            rw [ee] at w
            intro io4 F4 H4 y4 st4 sr4 vr4
            obtain ⟨c4, hD4⟩ := c3.go hD3 st4 sr4
            have st04 := st03.trans sr3 st4
            have va4 := va.step st04
            refine ⟨xs, hD4, by rw [← va.length, sizeLine_eq]; omega, ?_⟩
            exact hN (acc ++ [yv]) h3 io4 F4 _ (xs ++ [y4]) (by simp) (c4.app hD1 hD4 _) upd_same (va4.append (.cons vr4 .nil)) (rs.step st04) ⟨st04.le, st04.eq, st04.phi⟩ w
      | _ => exact w.elim
theorem comp_core {tg iter elt : Expr} {ifs : List Expr} {fi : Ix} {g : Gx} {t el : Ex} {own ws : List Nat} (hw : ∀ j, j ∈ ws → j ∈ own) {σ : L2.St} {H : Hp} {Q : VK} {io : Nat → Addr} {h : Hh} {F : Hp} {sg : Sg} (sr : SR T X.K io h F H) (rs : RSt T X.K io h.length F sg σ)
    {R : VK} (w : match xCompL own fi g t el sg h with
      | .ok acc h' => ∀ D io' F' H' xs, H D = none → Step io h.length F H io' h'.length F' H' → SR T X.K io' h' F' H' → H' D = some (.lst xs) → VRs T X.K io' h'.length F' acc xs → F' D = none → (∀ k, k < h'.length → io' k ≠ D) → R (.ref D) H'
      | .exc c fs h' => WExc T X.K io h.length F H c fs h' (fun c d H' => W c d σ H')
      | .bad => False) :
    tLc (tI T X.K W fi) (tGw T X.K ws g) (tB1 T X.K Wno t) (tE T X.K Wno el) own σ H R := by
  refine ⟨io, h, F, sg, sr, rs, ?_⟩
  unfold xCompL at w
  cases e : fi sg h with
  | bad => rw [e] at w; exact w
  | exc c fs h1 => rw [e] at w; exact w
  | ok s h1 =>
    rw [e] at w
    intro io1 F1 H1 J st1 sr1 so D hD
    have hD0 : H D = none := by
      cases q : H D with
      | none => rfl
      | some o =>
        exfalso
        by_cases hc : ∀ k, k < h.length → io k ≠ D
        · obtain ⟨u0, hu0⟩ := st1.dom q hc; rw [hu0] at hD; cases hD
        · apply hc
          intro k hk z
          obtain ⟨u, hu⟩ := sr1.there (k := k) (Nat.lt_of_lt_of_le hk st1.le)
          rw [st1.eq k hk, z, hD] at hu; cases hu
    have c0 : CInv T X.K io1 h1.length F1 H1 D io1 h1 F1 (upd H1 D (.lst [])) :=
      ⟨sr1.garb hD _, sr1.garbStep hD _, sr1.none_of hD, fun k hk z => by obtain ⟨u, hu⟩ := sr1.there hk; rw [z, hD] at hu; cases hu⟩
    have rs1 := (wipeG_ok rs own).step st1
    have wd : ∀ r : ResL, (match r with
      | .ok acc h' => ∀ D io' F' H' xs, H D = none → Step io h.length F H io' h'.length F' H' → SR T X.K io' h' F' H' → H' D = some (.lst xs) → VRs T X.K io' h'.length F' acc xs → F' D = none → (∀ k, k < h'.length → io' k ≠ D) → R (.ref D) H'
      | .exc c fs h' => WExc T X.K io h.length F H c fs h' (fun c d H' => W c d σ H')
      | .bad => False) → (∀ c fs h', r ≠ .exc c fs h') → WantsD T X.K io1 h1.length F1 H1 D R r := fun r wr hne => by
      cases r with
      | bad => exact wr
      | exc c fs h' => exact absurd rfl (hne c fs h')
      | ok acc h' => exact fun io' F' H' xs st sr' hd va fd nd => wr D io' F' H' xs hD0 (st1.trans sr1 st) sr' hd va fd nd
    cases s with
    | items vs =>
      dsimp only at w
      by_cases hvl : vs.length ≤ 1000000
      · rw [if_pos hvl] at w
        have nex : ∀ (vs acc : List Val) (h : Hh) c fs h', compItems g t el (wipeG sg own) vs acc h ≠ .exc c fs h' := by
          intro vs
          induction vs with
          | nil => intro acc h c fs h' q; cases q
          | cons v r ih =>
            intro acc h c fs h'
            unfold compItems
            split
            · split
              · split
                · exact ih _ _ c fs h'
                · exact fun q => nomatch q
              · exact ih _ _ c fs h'
              · exact fun q => nomatch q
            · exact fun q => nomatch q
        have w1 := wd _ w (nex vs [] h1)
        refine ⟨fun i m H2 => m = vs.length - i ∧ i ≤ vs.length ∧ ∃ io2 h2 F2 acc xs, acc.length ≤ i ∧ CInv T X.K io1 h1.length F1 H1 D io2 h2 F2 H2 ∧ H2 D = some (.lst xs) ∧ VRs T X.K io2 h2.length F2 acc xs ∧ RSt T X.K io2 h2.length F2 (wipeG sg own) (wipe σ own) ∧ WantsD T X.K io1 h1.length F1 H1 D R (compItems g t el (wipeG sg own) (vs.drop i) acc h2),
          ⟨vs.length, by simp, Nat.zero_le _, io1, h1, F1, [], [], Nat.le_refl _, c0, upd_same, .nil, rs1, by simpa using w1⟩, ?_⟩
        rintro i m H2 ⟨rfl, hi, io2, h2, F2, acc, xs, hacc, c2, hD2, va, rs2, w2⟩
        have y := so i io2 h2 F2 H2 c2.sr c2.st.le c2.st.eq c2.st.phi hi
        by_cases hlt : i < vs.length
        · have ev : vs[i]? = some vs[i] := by simp [hlt]
          rw [ev] at y
          rw [List.drop_eq_getElem_cons hlt] at w2
          unfold compItems at w2
          refine .inr ⟨y.1, fun H3 => ∃ io2 h2 F2 acc xs, acc.length ≤ i + 1 ∧ CInv T X.K io1 h1.length F1 H1 D io2 h2 F2 H3 ∧ H3 D = some (.lst xs) ∧ VRs T X.K io2 h2.length F2 acc xs ∧ RSt T X.K io2 h2.length F2 (wipeG sg own) (wipe σ own) ∧ WantsD T X.K io1 h1.length F1 H1 D R (compItems g t el (wipeG sg own) (vs.drop (i + 1)) acc h2),
            fun H' n' => ⟨vs.length - (i + 1), by omega, rfl, hlt, n'⟩, ?_⟩
          refine comp_turn (rest := fun acc h => compItems g t el (wipeG sg own) (vs.drop (i + 1)) acc h) hw hD c2 hD2 va rs2 (by omega) y w2 fun acc' h' io' F' H' xs' hl c' hd' va' rs' _ w' => ⟨io', h', F', acc', xs', by omega, c', hd', va', rs', w'⟩
        · have : i = vs.length := by omega
          subst this
          rw [List.getElem?_eq_none (Nat.le_refl _)] at y
          rw [List.drop_length] at w2
          exact .inl ⟨y, w2 io2 F2 H2 xs c2.st c2.sr hD2 va c2.fd c2.nd⟩
      · rw [if_neg hvl] at w; exact w.elim
    | ref k =>
      dsimp only at w
      have nex : ∀ (m i : Nat) (acc : List Val) (h : Hh) c fs h', compRef g t el (wipeG sg own) k m i acc h ≠ .exc c fs h' := by
        intro m
        induction m with
        | zero => intro i acc h c fs h' q; cases q
        | succ m ih =>
          intro i acc h c fs h'
          unfold compRef
          split
          · split
            · exact fun q => nomatch q
            · split
              · split
                · split
                  · exact ih _ _ _ c fs h'
                  · exact fun q => nomatch q
                · exact ih _ _ _ c fs h'
                · exact fun q => nomatch q
              · exact fun q => nomatch q
          · exact fun q => nomatch q
      have w1 := wd _ w (nex 1000000 0 [] h1)
      refine ⟨fun i m H2 => m + i = 1000000 ∧ ∃ io2 h2 F2 acc xs, acc.length ≤ i ∧ CInv T X.K io1 h1.length F1 H1 D io2 h2 F2 H2 ∧ H2 D = some (.lst xs) ∧ VRs T X.K io2 h2.length F2 acc xs ∧ RSt T X.K io2 h2.length F2 (wipeG sg own) (wipe σ own) ∧ WantsD T X.K io1 h1.length F1 H1 D R (compRef g t el (wipeG sg own) k m i acc h2),
        ⟨1000000, rfl, io1, h1, F1, [], [], Nat.le_refl _, c0, upd_same, .nil, rs1, w1⟩, ?_⟩
      rintro i m H2 ⟨hm, io2, h2, F2, acc, xs, hacc, c2, hD2, va, rs2, w2⟩
      cases m with
      | zero => exact w2.elim
      | succ m =>
        unfold compRef at w2
        cases ek : k h2 with
        | none => rw [ek] at w2; exact w2.elim
        | some ys =>
          rw [ek] at w2
          · have y := so i io2 h2 F2 H2 ys c2.sr c2.st.le c2.st.eq c2.st.phi ek
            dsimp only at w2
            cases ev : ys[i]? with
            | none => rw [ev] at w2 y; exact .inl ⟨y, w2 io2 F2 H2 xs c2.st c2.sr hD2 va c2.fd c2.nd⟩
            | some v =>
              rw [ev] at w2 y
              dsimp only at w2
              refine .inr ⟨y.1, fun H3 => ∃ io2 h2 F2 acc xs, acc.length ≤ i + 1 ∧ CInv T X.K io1 h1.length F1 H1 D io2 h2 F2 H3 ∧ H3 D = some (.lst xs) ∧ VRs T X.K io2 h2.length F2 acc xs ∧ RSt T X.K io2 h2.length F2 (wipeG sg own) (wipe σ own) ∧ WantsD T X.K io1 h1.length F1 H1 D R (compRef g t el (wipeG sg own) k m (i + 1) acc h2),
                fun H' n' => ⟨m, Nat.lt_succ_self _, by omega, n'⟩, ?_⟩
              refine comp_turn (rest := fun acc h => compRef g t el (wipeG sg own) k m (i + 1) acc h) hw hD c2 hD2 va rs2 (by omega) y w2 fun acc' h' io' F' H' xs' hl c' hd' va' rs' _ w' => ⟨io', h', F', acc', xs', by omega, c', hd', va', rs', w'⟩
theorem CInv.push {K : PySem.W.Frag} {io1 io : Nat → Addr} {n1 : Nat} {F1 H1 F H : Hp} {D : Addr} {h : Hh} {xs : List V} {acc : List Val} (hD1 : H1 D = none) (st : Step io1 n1 F1 H1 io h.length F H) (sr : SR T K io h F H) (hD : H D = some (.lst xs)) (va : VRs T K io h.length F acc xs) (fd : F D = none) (nd : ∀ k, k < h.length → io k ≠ D) :
    Step io1 n1 F1 H1 (ioPush io h.length D) (h ++ [Obj.lst acc]).length F H ∧ SR T K (ioPush io h.length D) (h ++ [Obj.lst acc]) F H ∧ VR T K (ioPush io h.length D) (h ++ [Obj.lst acc]).length F (.ref h.length) (.ref D) := by
  have len : (h ++ [Obj.lst acc]).length = h.length + 1 := by simp
  refine ⟨⟨by rw [len]; exact Nat.le_succ_of_le st.le, fun k hk => (ioPush_lt io D (Nat.lt_of_lt_of_le hk st.le)).trans (st.eq k hk), st.phi, st.frm, fun k a b => ?_, st.fresh⟩, ⟨sr.sub, fun k hk => ?_, fun j k hj hk e => ?_, fun k o e => ?_, sr.tabs⟩, ?_⟩
  · rw [len] at b
    by_cases q : k = h.length
    · subst q; rw [ioPush_at]; exact hD1
    · rw [ioPush_lt io D (by omega)]; exact st.new k a (by omega)
  · rw [len] at hk
    by_cases q : k = h.length
    · subst q; rw [ioPush_at]; exact fd
    · rw [ioPush_lt io D (by omega)]; exact sr.dis k (by omega)
  · rw [len] at hj hk
    by_cases qj : j = h.length
    · by_cases qk : k = h.length
      · rw [qj, qk]
      · rw [qj, ioPush_at, ioPush_lt io D (by omega)] at e; exact absurd e.symm (nd k (by omega))
    · by_cases qk : k = h.length
      · rw [qk, ioPush_at, ioPush_lt io D (by omega)] at e; exact absurd e (nd j (by omega))
      · rw [ioPush_lt io D (by omega), ioPush_lt io D (by omega)] at e; exact sr.inj j k (by omega) (by omega) e
  · rw [len]
    by_cases q : k < h.length
    · rw [List.getElem?_append_left q] at e
      rw [ioPush_lt io D q]
      exact (sr.obj k o e).mono (Nat.le_succ _) (fun j hj => ioPush_lt io D hj) (fun _ _ e => e) (fun _ _ e => e)
    · rw [List.getElem?_append_right (by omega)] at e
      by_cases q2 : k = h.length
      · subst q2
        simp at e
        subst e
        rw [ioPush_at]
        exact ⟨xs, hD, va.mono (Nat.le_succ _) (fun j hj => ioPush_lt io D hj) (fun _ _ e => e)⟩
      · rw [List.getElem?_eq_none (by simp; omega)] at e; cases e
  · have vp : VR T K (ioPush io h.length D) (h ++ [Obj.lst acc]).length F (.ref h.length) (.ref (ioPush io h.length D h.length)) := .ref _ (by simp)
    rw [ioPush_at] at vp
    exact vp
theorem CInv.froze {K : PySem.W.Frag} {io1 io : Nat → Addr} {n1 : Nat} {F1 H1 F H : Hp} {D : Addr} {h : Hh} {o : HO} (hD1 : H1 D = none) (st : Step io1 n1 F1 H1 io h.length F H) (sr : SR T K io h F H) (hD : H D = some o) (fd : F D = none) (nd : ∀ k, k < h.length → io k ≠ D) (no : ∀ ps, o ≠ .tbl ps := by first | nofun | (intro ps z; unfold L2.DO at z; cases z)) :
    Step io1 n1 F1 H1 io h.length (upd F D o) H ∧ SR T K io h (upd F D o) H ∧ (∀ b u, F b = some u → upd F D o b = some u) := by
  have mn := upd_sub (o := o) F fd
  refine ⟨⟨st.le, st.eq, fun b u e => mn b u (st.phi b u e), st.frm, st.new, fun b u e => ?_⟩, ⟨fun b u e => ?_, fun k hk => ?_, sr.inj, fun k ob e => (sr.obj k ob e).mono (Nat.le_refl _) (fun _ _ => rfl) mn (fun _ _ e => e), fun pq hq => (sr.tabs pq hq).mono (fun ps u h hp' e => by rw [upd_ne (fun z => by rw [z, hD] at hp'; exact no ps (Option.some.inj hp')), h] at e; cases e) (fun c o e _ => mn c o e) fun _ e => e⟩, mn⟩
  · by_cases hb : b = D
    · subst hb; exact .inr (.inl hD1)
    · rw [upd_ne hb] at e; exact st.fresh b u e
  · by_cases hb : b = D
    · subst hb; rw [upd_same] at e; cases e; exact hD
    · rw [upd_ne hb] at e; exact sr.sub b u e
  · rw [upd_ne (nd k hk)]; exact sr.dis k hk
theorem je_lcF {elt tg iter : Expr} {ifs : List Expr} {scope : Scope} (own : List (Str × Nat)) {fi : Ix} {g : Gx} {t el : Ex} {ws : List Nat} (hc : X.calm = true) (hN : X.N.Nodup) (hi : JI T X W tg iter fi) (ok : BlkOk X.N X.env.scope scope own) (hw : ∀ j, j ∈ ws → j ∈ own.map (·.2))
    (hg : ∀ (s : Shared) (H : Hp) (C : Addr) (cl : List (Str × Addr)) (fp : List Addr), JGw T (X.blk s H scope (compEnvC scope cl C X.env) fp) ws tg g) (ht : ∀ (s : Shared) (H : Hp) (C : Addr) (cl : List (Str × Addr)) (fp : List Addr), JTs T (X.blk s H scope (compEnvC scope cl C X.env) fp) Wno ifs t)
    (he : ∀ (s : Shared) (H : Hp) (C : Addr) (cl : List (Str × Addr)) (fp : List Addr), JE T (X.blk s H scope (compEnvC scope cl C X.env) fp) Wno elt el) (hs : ∀ x, foldedSetIterable iter X.env x = pure x := by intro _; rfl) :
    JE T X W (.ListComp elt [⟨tg, iter, ifs, 0⟩] scope pos) (xCompF (own.map (·.2)) fi g t el) := by
  refine pe_imp (pe_lc hc hN hi ok hg ht he hs) fun σ H Q ⟨io, h, F, sg, sr, rs, w⟩ => comp_core (tg := tg) (iter := iter) (elt := elt) (ifs := ifs) (Q := Q) hw sr rs ?_
  unfold xCompF at w
  cases e : xCompL (own.map (·.2)) fi g t el sg h with
  | bad => rw [e] at w; exact w
  | exc c fs h' => rw [e] at w; exact w
  | ok acc h' =>
    rw [e] at w
    intro D io' F' H' xs hD st sr' hd va fd nd
    obtain ⟨s1, s2, mn⟩ := CInv.froze hD st sr' hd fd nd
    exact w _ _ H' _ s1 s2 (.lst (SqL.of upd_same) (va.mono (Nat.le_refl _) (fun _ _ => rfl) mn))
end
end Py
namespace Py
open PySem PySem.Spec PyProof.Rows L2
structure Cf (T : Tb) (K : PySem.W.Frag) (c : Nat) : Prop where
  cls : Cls K (He.ga K (T.cn c))
  nd : (T.fn c).Nodup
  no : ∀ f, f ∈ T.fn c → NoAttr K (He.ga K (T.cn c)) f
  few : (T.fn c).length < 1000
def AttOk (T : Tb) (K : PySem.W.Frag) (f : Str) (l : List (Nat × Nat)) : Prop := ∀ c i, l.lookup c = some i → (T.fn c)[i]? = some f ∧ Cf T K c
theorem AttOk.nil {T : Tb} {K : PySem.W.Frag} {f : Str} : AttOk T K f [] := fun c i e => by cases e
theorem AttOk.cons {T : Tb} {K : PySem.W.Frag} {f : Str} {l : List (Nat × Nat)} {c i : Nat} (h : (T.fn c)[i]? = some f) (k : Cf T K c) (r : AttOk T K f l) : AttOk T K f ((c, i) :: l) := fun c' i' e => by
  by_cases q : c' = c
  · subst q; simp [List.lookup] at e; subst e; exact ⟨h, k⟩
  · have hb : (c' == c) = false := beq_eq_false_iff_ne.mpr q
    simp only [List.lookup, hb] at e
    exact r c' i' e
section
variable {T : Tb} {X : Cx} {W : WX} {a b c e o : Expr} {fa fb fc fe fo : Ex} {pos pos' apos : Pos} {f : Str}
end
end Py
namespace Py
open PySem PySem.Spec PyProof.Rows L2
def isA (c : Nat) (h : Hh) : Val → Bool
  | .obj c' _ => c' == c
  | .ref k => (match h[k]? with
    | some (.ins c' _) => c' == c
    | _ => false)
  | _ => false
section
variable {T : Tb} {K : PySem.W.Frag} {io : Nat → Addr} {F H : Hp} {h : Hh} {v : Val} {x : V} {c : Nat}
end
section
variable {T : Tb} {X : Cx} {W : WX} {e o : Expr} {es : List Expr} {fo : Ex} {fl : Lx} {pos apos : Pos} {ps : List Str} {k : Nat} {f : Fx} {m : Str} {c : Nat} {a : Addr} {fd : FuncData} {dvs : List V} {ds : List Value} {CXq : CXT} {sp : Sp} {E : L2.St → XK}
def xMethP (T : Nat → List Str) (c : Nat) (f : Fx) (dfl : List Val) (o : Ex) (l : Lx) : Ex := fun sg h => (o sg h).bind fun ov h1 => if isA c h1 ov = true then (l sg h1).bind fun as h2 => callQ T f (ov :: (as ++ dfl)) h2 else .bad
def makeP (T : Nat → List Str) (c : Nat) (f : Fx) (as : List Val) (h : Hh) : Res := if (h.isEmpty || pureVs as) = true then (match f [.ins c []] (.ref 0 :: as) with
  | .ok _ h' => .ofO (frz T h' 30 (.ref 0)) h
  | .exc c fs h' => (match frzTops T h' fs with
    | some fs' => .exc c fs' h
    | none => .bad)
  | .bad => .bad) else .bad
def makeQ (T : Nat → List Str) (c : Nat) (f : Fx) (as : List Val) (h : Hh) : Res := if pureVs as = true then makeP T c f as h else match as.mapM (lend h) with
  | some bs => (match makeP T c f bs [] with
    | .ok v _ => if noLst v = true then .ok v h else .bad
    | _ => .bad)
  | none => .bad
variable {x : Str} {p : Pos}
def xMakeP (T : Nat → List Str) (c : Nat) (f : Fx) (dfl : List Val) (l : Lx) : Ex := fun sg h => (l sg h).bind fun as h1 => makeQ T c f (as ++ dfl) h1
end
end Py
namespace Py
open PySem PySem.Spec PyProof.Rows L2
section
variable {T : Tb} {K : PySem.W.Frag}
def gI (f : Int → Int → Val) : G2 := fun _ v u => match v, u with
  | .int i, .int j => some (f i j)
  | _, _ => none
theorem lift_I0 {f : Int → Int → V} {g : Int → Int → Val} (hg : ∀ i j io n F, VR T K io n F (g i j) (f i j)) : Lift2 T K (rI0 f) (gI g) := by
  intro io h F H v u x y z Q sr vr ur e q
  unfold gI at e
  cases vr with
  | int i =>
    cases ur with
    | int j => cases e; exact ⟨i, j, rfl, rfl, q F H _ .refl sr (hg i j _ _ _)⟩
    | _ => cases e
  | _ => cases e
def gIc (c : Int → Int → Bool) (f : Int → Int → Val) : G2 := fun _ v u => match v, u with
  | .int i, .int j => if c i j = true then some (f i j) else none
  | _, _ => none
theorem lift_I {C : Int → Int → Prop} {f : Int → Int → V} {c : Int → Int → Bool} {g : Int → Int → Val} (hc : ∀ i j, c i j = true → C i j) (hg : ∀ i j io n F, VR T K io n F (g i j) (f i j)) : Lift2 T K (rI C f) (gIc c g) := by
  intro io h F H v u x y z Q sr vr ur e q
  unfold gIc at e
  cases vr with
  | int i =>
    cases ur with
    | int j =>
      dsimp only at e
      by_cases h1 : c i j = true
      · rw [if_pos h1] at e; cases e; exact ⟨i, j, rfl, rfl, hc i j h1, q F H _ .refl sr (hg i j _ _ _)⟩
      · rw [if_neg h1] at e; cases e
    | _ => cases e
  | _ => cases e
abbrev gAdd : G2 := gI fun i j => .int (i + j)
abbrev gSub : G2 := gI fun i j => .int (i - j)
def okMul (i j : Int) : Bool := (decide (-18446744073709551616 < i) && decide (i < 18446744073709551616)) || (decide (-18446744073709551616 < j) && decide (j < 18446744073709551616))
abbrev gMul : G2 := gIc okMul fun i j => .int (i * j)
abbrev gFdiv : G2 := gIc (fun _ j => decide (0 < j) && decide (j < 1073741824)) fun i j => .int (i / j)
abbrev gMod : G2 := gIc (fun _ j => decide (0 < j)) fun i j => .int (i % j)
abbrev gPow : G2 := gIc (fun i j => decide (0 ≤ j) && decide (j ≤ 1000) && decide (i.natAbs < 18446744073709551616)) fun i j => .int (i ^ j.toNat)
abbrev gLt : G2 := gI fun i j => .bl (decide (i < j))
abbrev gGt : G2 := gI fun i j => .bl (decide (j < i))
abbrev gGe : G2 := gI fun i j => .bl (decide (j ≤ i))
theorem lift_add : Lift2 T K (rI0 fun i j => .int (i + j)) gAdd := lift_I0 fun i j _ _ _ => .int _
theorem lift_sub : Lift2 T K (rI0 fun i j => .int (i - j)) gSub := lift_I0 fun i j _ _ _ => .int _
theorem lift_mul : Lift2 T K (rI CMul fun i j => .int (i * j)) gMul := lift_I (fun i j h => by
  unfold okMul at h
  simp only [Bool.or_eq_true, Bool.and_eq_true, decide_eq_true_eq] at h
  have e : (2 : Int) ^ 64 = 18446744073709551616 := by decide
  unfold CMul
  omega) fun i j _ _ _ => .int _
theorem lift_fdiv : Lift2 T K (rI CDiv fun i j => .int (i / j)) gFdiv := lift_I (fun i j h => by
  simp only [Bool.and_eq_true, decide_eq_true_eq] at h
  exact h) fun i j _ _ _ => .int _
theorem lift_mod : Lift2 T K (rI (fun _ j => 0 < j) fun i j => .int (i % j)) gMod := lift_I (fun i j h => of_decide_eq_true h) fun i j _ _ _ => .int _
theorem lift_pow : Lift2 T K (rI CPow fun i j => .int (i ^ j.toNat)) gPow := lift_I (fun i j h => by
  simp only [Bool.and_eq_true, decide_eq_true_eq] at h
  have e : (2 : Nat) ^ 64 = 18446744073709551616 := by decide
  unfold CPow
  omega) fun i j _ _ _ => .int _
variable {X : Cx}
theorem op_lt' : OpR X (compareOp .Lt) (rI0 fun i j => .bl (decide (i < j))) := opB0 fun _ _ _ _ _ _ _ q => lt_int q
theorem op_gt' : OpR X (compareOp .Gt) (rI0 fun i j => .bl (decide (j < i))) := opB0 fun _ _ _ _ _ _ _ q => gt_int q
theorem op_ge' : OpR X (compareOp .GtE) (rI0 fun i j => .bl (decide (j ≤ i))) := opB0 fun _ _ _ _ _ _ _ q => ge_int q
theorem lift_lt : Lift2 T K (rI0 fun i j => .bl (decide (i < j))) gLt := lift_I0 fun i j _ _ _ => .bl _
theorem lift_gt : Lift2 T K (rI0 fun i j => .bl (decide (j < i))) gGt := lift_I0 fun i j _ _ _ => .bl _
theorem lift_ge : Lift2 T K (rI0 fun i j => .bl (decide (j ≤ i))) gGe := lift_I0 fun i j _ _ _ => .bl _
end
def okStr (s : List Nat) : Bool := s.all fun c => decide (c < 1114112)
def dat (h : Hh) : Nat → Val → Option PyData
  | 0, _ => none
  | n + 1, v => match v with
    | .non => some .none
    | .bl b => some (.bool b)
    | .int i => some (.int i)
    | .str s => if okStr s = true then some (.str ⟨s.toArray⟩) else none
    | .tup vs => (vs.mapM (dat h n)).map .tuple
    | .lst vs => (vs.mapM (dat h n)).map .list
    | .ref k => (match h[k]? with
      | some (.lst vs) => (vs.mapM (dat h n)).map .list
      | _ => none)
    | _ => none
section
variable {T : Tb} {K : PySem.W.Frag} {io : Nat → Addr} {F H : Hp} {h : Hh}
theorem mapM_Dp {g : Val → Option PyData} {n : Nat} (hg : ∀ v d x, g v = some d → VR T K io h.length F v x → Dp K H x d ∧ PyData.canLay0 d = true ∧ d.depth ≤ n) : ∀ {vs : List Val} {ds : List PyData} {xs : List V}, vs.mapM g = some ds → VRs T K io h.length F vs xs → DpAll K H xs ds ∧ PyData.canLayAll0 ds = true ∧ PyData.depthAll ds ≤ n
  | [], ds, xs, e, r => by
    simp at e; subst e
    cases r; exact ⟨.nil, rfl, Nat.zero_le _⟩
  | v :: vs, ds, xs, e, r => by
    rw [List.mapM_cons] at e
    cases q : g v with
    | none => rw [q] at e; simp at e
    | some d =>
      rw [q] at e
      cases q2 : vs.mapM g with
      | none => rw [q2] at e; simp at e
      | some us =>
        rw [q2] at e
        simp at e
        subst e
        cases r with
        | cons a b =>
          obtain ⟨a1, a2, a3⟩ := hg v d _ q a
          obtain ⟨b1, b2, b3⟩ := mapM_Dp hg q2 b
          exact ⟨.cons a1 b1, by simp [PyData.canLayAll0, a2, b2], by simp [PyData.depthAll]; omega⟩
theorem dat_ok (sr : SR T K io h F H) : ∀ (n : Nat) (v : Val) (d : PyData) (x : V), dat h n v = some d → VR T K io h.length F v x → Dp K H x d ∧ PyData.canLay0 d = true ∧ d.depth ≤ n
  | 0, _, _, _, e, _ => by cases e
  | n + 1, v, d, x, e, r => by
    have ih := dat_ok sr n
    unfold dat at e
    cases r with
    | non => cases e; exact ⟨.non, rfl, Nat.zero_le _⟩
    | bl b => cases e; exact ⟨.bl b, rfl, Nat.zero_le _⟩
    | int i => cases e; exact ⟨.int i, rfl, Nat.zero_le _⟩
    | str s =>
      dsimp only at e
      by_cases hs : okStr s = true
      · rw [if_pos hs] at e
        cases e
        refine ⟨.str _, ?_, Nat.zero_le _⟩
        simp only [PyData.canLay0, PyData.strOk, List.all_toArray]
        unfold okStr at hs
        exact hs
      · rw [if_neg hs] at e; cases e
    | glo g => cases e
    | dct _ _ _ _ _ => cases e
    | @obj c vs a dx xs q qd rr hl => cases e
    | @tup vs a xs q rr =>
      obtain ⟨ds, e1, rfl⟩ := map_some e
      obtain ⟨b1, b2, b3⟩ := mapM_Dp ih e1 rr
      exact ⟨.tup (sqT_mono sr.sub q) b1, b2, Nat.succ_le_succ b3⟩
    | @lst vs a xs q rr =>
      obtain ⟨ds, e1, rfl⟩ := map_some e
      obtain ⟨b1, b2, b3⟩ := mapM_Dp ih e1 rr
      exact ⟨.lst (sqL_mono sr.sub q) b1, b2, Nat.succ_le_succ b3⟩
    | ref k hk =>
      dsimp only at e
      cases ek : h[k]? with
      | none => rw [ek] at e; cases e
      | some ob =>
        rw [ek] at e
        cases ob with
        | exn c vs => cases e
        | ins c vs => cases e
        | dct ks vs => cases e
        | lst vs =>
          obtain ⟨xs, ea, rr⟩ := sr.obj k _ ek
          obtain ⟨ds, e1, rfl⟩ := map_some e
          obtain ⟨b1, b2, b3⟩ := mapM_Dp ih e1 rr
          exact ⟨.lst (SqL.of ea) b1, b2, Nat.succ_le_succ b3⟩
theorem shaped_of {d : PyData} {n : Nat} (hn : n ≤ 60) (h1 : PyData.canLay0 d = true) (h2 : d.depth ≤ n) : SeqAt.shaped d = true := by
  unfold SeqAt.shaped
  rw [h1, Bool.true_and]
  exact decide_eq_true (by omega)
def eqD (h : Hh) (v u : Val) : Option Bool := match dat h 30 v, dat h 30 u with
  | some d, some e => some (PyData.eqv d e)
  | _, _ => none
def gEq : G2 := fun h v u => (eqD h v u).map .bl
def gNe : G2 := fun h v u => (eqD h v u).map fun b => .bl (!b)
theorem eqD_ok (sr : SR T K io h F H) {v u : Val} {x y : V} {b : Bool} (vr : VR T K io h.length F v x) (ur : VR T K io h.length F u y) (e : eqD h v u = some b) : ∃ d e, Dp K H x d ∧ Dp K H y e ∧ SeqAt.shaped d = true ∧ SeqAt.shaped e = true ∧ PyData.eqv d e = b := by
  unfold eqD at e
  cases e1 : dat h 30 v with
  | none => rw [e1] at e; cases e
  | some d =>
    rw [e1] at e
    cases e2 : dat h 30 u with
    | none => rw [e2] at e; cases e
    | some d2 =>
      rw [e2] at e
      obtain ⟨a1, a2, a3⟩ := dat_ok sr 30 v d x e1 vr
      obtain ⟨b1, b2, b3⟩ := dat_ok sr 30 u d2 y e2 ur
      exact ⟨d, d2, a1, b1, shaped_of (by omega) a2 a3, shaped_of (by omega) b2 b3, Option.some.inj e⟩
theorem lift_eqD : Lift2 T K (rEqD K) gEq := by
  intro io h F H v u x y z Q sr vr ur e q
  obtain ⟨b, eb, rfl⟩ := map_some e
  obtain ⟨d, d2, a1, a2, a3, a4, a5⟩ := eqD_ok sr vr ur eb
  exact ⟨d, d2, a1, a2, a3, a4, by rw [a5]; exact q F H _ .refl sr (.bl b)⟩
theorem lift_neD : Lift2 T K (rNeD K) gNe := by
  intro io h F H v u x y z Q sr vr ur e q
  obtain ⟨b, eb, rfl⟩ := map_some e
  obtain ⟨d, d2, a1, a2, a3, a4, a5⟩ := eqD_ok sr vr ur eb
  exact ⟨d, d2, a1, a2, a3, a4, by rw [a5]; exact q F H _ .refl sr (.bl _)⟩
end
def lstOf (h : Hh) : Val → Option (List Val)
  | .lst vs => some vs
  | .ref k => (match h[k]? with
    | some (.lst vs) => some vs
    | _ => none)
  | _ => none
section
variable {T : Tb} {K : PySem.W.Frag} {io : Nat → Addr} {F H : Hp} {h : Hh} {v : Val} {x : V} {vs : List Val}
theorem lstOf_ok (sr : SR T K io h F H) (r : VR T K io h.length F v x) (e : lstOf h v = some vs) : ∃ a xs, x = .ref a ∧ SqL K H a xs ∧ VRs T K io h.length F vs xs := by
  unfold lstOf at e
  cases r with
  | @lst vs' a xs q rr => cases e; exact ⟨a, xs, rfl, sqL_mono sr.sub q, rr⟩
  | ref k hk =>
    dsimp only at e
    cases ek : h[k]? with
    | none => rw [ek] at e; cases e
    | some ob =>
      rw [ek] at e
      cases ob with
      | exn c vs => cases e
      | ins c vs => cases e
      | dct ks vs => cases e
      | lst vs =>
        cases e
        obtain ⟨xs, ea, rr⟩ := sr.obj k _ ek
        exact ⟨io k, xs, rfl, SqL.of ea, rr⟩
  | _ => cases e
end
def atV (vs : List Val) (i : Int) : Option Val := if 0 ≤ i then vs[i.toNat]? else if 0 ≤ i + vs.length then vs[(i + vs.length).toNat]? else none
theorem atV_ok {T : Tb} {K : PySem.W.Frag} {io : Nat → Addr} {n : Nat} {F : Hp} {vs : List Val} {xs : List V} {i : Int} {z : Val} (r : VRs T K io n F vs xs) (e : atV vs i = some z) : ∃ y, atI xs i = some y ∧ VR T K io n F z y := by
  have hl := r.length
  unfold atV at e
  unfold atI ixN
  by_cases h0 : 0 ≤ i
  · rw [if_pos h0] at e
    have hi : i.toNat < vs.length := (List.getElem?_eq_some_iff.mp e).1
    rw [if_pos h0, if_pos (by omega)]
    obtain ⟨y, e1, r1⟩ := r.get e
    exact ⟨y, e1, r1⟩
  · rw [if_neg h0] at e
    by_cases h1 : 0 ≤ i + vs.length
    · rw [if_pos h1] at e
      rw [if_neg h0, if_pos (by omega)]
      obtain ⟨y, e1, r1⟩ := r.get e
      refine ⟨y, ?_, r1⟩
      show xs[(i + xs.length).toNat]? = some y
      rw [← hl]; exact e1
    · rw [if_neg h1] at e; cases e
def gIx : G2 := fun h v u => match u with
  | .int i => (match v with
    | .tup vs => atV vs i
    | .str s => if s.length ≤ 1000000 then (if 0 ≤ i then (s[i.toNat]?).map fun c => .str [c] else if 0 ≤ i + s.length then (s[(i + s.length).toNat]?).map fun c => .str [c] else none) else none
    | v => (match lstOf h v with
      | some vs => atV vs i
      | none => none))
  | _ => none
section
variable {T : Tb} {K : PySem.W.Frag}
theorem lift_ix : Lift2 T K (rIx K) gIx := by
  intro io h F H v u x y z Q sr vr ur e q
  unfold gIx at e
  cases ur with
  | int i =>
    have viaL : (match lstOf h v with
      | some vs => atV vs i
      | none => none) = some z → rIx K x (.int i) H Q := fun e => by
      cases el : lstOf h v with
      | none => rw [el] at e; cases e
      | some vs =>
        rw [el] at e
        obtain ⟨a, xs, rfl, sq, rr⟩ := lstOf_ok sr vr el
        obtain ⟨y, e1, r1⟩ := atV_ok rr e
        exact .inl ⟨a, xs, i, y, rfl, rfl, sq, e1, q F H _ .refl sr r1⟩
    cases vr with
    | @tup vs a xs sq rr =>
      obtain ⟨y, e1, r1⟩ := atV_ok rr e
      exact .inr (.inl ⟨a, xs, i, y, rfl, rfl, sqT_mono sr.sub sq, e1, q F H _ .refl sr r1⟩)
    | str s =>
      dsimp only at e
      by_cases hz : s.length ≤ 1000000
      · rw [if_pos hz] at e
        refine .inr (.inr ?_)
        have fin : ∀ c, atI s i = some c → z = .str [c] → rIxS (.str ⟨s.toArray⟩) (.int i) H Q := fun c hc hz' => by
          subst hz'
          exact ⟨⟨s.toArray⟩, i, c, rfl, rfl, by show s.toArray.size ≤ sizeLine; simpa using sizeOk hz, by simpa using hc, q F H _ .refl sr (.str [c])⟩
        by_cases h0 : 0 ≤ i
        · rw [if_pos h0] at e
          obtain ⟨c, ec, rfl⟩ := map_some e
          refine fin c ?_ rfl
          have hi := (List.getElem?_eq_some_iff.mp ec).1
          unfold atI ixN
          rw [if_pos h0, if_pos (by omega)]
          exact ec
        · rw [if_neg h0] at e
          by_cases h1 : 0 ≤ i + s.length
          · rw [if_pos h1] at e
            obtain ⟨c, ec, rfl⟩ := map_some e
            refine fin c ?_ rfl
            unfold atI ixN
            rw [if_neg h0, if_pos (by omega)]
            exact ec
          · rw [if_neg h1] at e; cases e
      · rw [if_neg hz] at e; cases e
    | ref k hk => exact viaL e
    | @lst vs a xs sq rr => exact viaL e
    | non => exact viaL e
    | bl b => exact viaL e
    | int j => exact viaL e
    | obj a b c d => exact viaL e
    | glo g => exact viaL e
    | dct _ _ _ _ _ => exact viaL e
  | _ => cases e
end
section
variable {T : Tb} {X : Cx} {W : WX} {a b e o : Expr} {es : List Expr} {fa fb fe fo : Ex} {fl : Lx} {pos apos cpos p : Pos} {r : R2} {g : G2}
theorem je_ix (ha : JE T X W a fa) (hb : JE T X W b fb) (hs : PlainIx b := by exact fun _ _ => rfl) : JE T X W (.Subscript a b pos) (xOp gIx fa fb) :=
  pe_imp (pe_ix ix_seq ha hb hs) fun _ _ _ => tOp_of lift_ix
abbrev GC := Hh → List Val → Option (Val × Hh)
def LiftC (T : Tb) (K : PySem.W.Frag) (r : List V → Hp → VK → Prop) (g : GC) : Prop :=
  ∀ io h F H vs xs z h' Q, SR T K io h F H → VRs T K io h.length F vs xs → g h vs = some (z, h') →
    (∀ io' F' H' x', Step io h.length F H io' h'.length F' H' → SR T K io' h' F' H' → VR T K io' h'.length F' z x' → Q x' H') → r xs H Q
def Res.ofP (o : Option (Val × Hh)) : Res := match o with
  | some (v, h) => .ok v h
  | none => .bad
def xCB (g : GC) (l : Lx) : Ex := fun sg h => (l sg h).bind fun vs h1 => .ofP (g h1 vs)
theorem wants_ofP {K : PySem.W.Frag} {io : Nat → Addr} {n : Nat} {F H : Hp} {W : XK} {Q : VK} {o : Option (Val × Hh)} (w : Wants T K io n F H W Q (.ofP o)) : ∃ z h', o = some (z, h') ∧ Wants T K io n F H W Q (.ok z h') := by
  cases o with
  | none => exact w.elim
  | some z => obtain ⟨z, h'⟩ := z; exact ⟨z, h', rfl, w⟩
theorem tCB_of {r : List V → Hp → VK → Prop} {g : GC} (hl : LiftC T X.K r g) {σ : L2.St} {H : Hp} {Q : VK} : tE T X.K W (xCB g fl) σ H Q → tCB r (tL T X.K W fl) σ H Q := by
  rintro ⟨io, h, F, sg, sr, rs, w⟩
  refine ⟨io, h, F, sg, sr, rs, Wants.bindOfL w fun vs h1 io1 F1 H1 xs st sr1 vrs w1 => ?_⟩
  obtain ⟨z, h', e, w2⟩ := wants_ofP w1
  exact hl io1 h1 F1 H1 vs xs z h' Q sr1 vrs e w2
theorem je_callB {x : Str} {id : String} {r : List V → Hp → VK → Prop} {g : GC} (hc : CallR X (.builtin id) r) (hl : LiftC T X.K r g) (hm : X.mg x = none) (ha : JA T X W (e :: es) fl) (hv : bootBuiltins x = some (.builtin id) := by decide +kernel) (hg : Gl X x := by rfl) (hn : x ≠ "__name__" := by decide) (hdb : (x == ("__debug__" : Str)) = false := by decide)
    (he : starEach (e :: es) X.env = (false, eval e X.env) :: starEach es X.env := by rfl) (hpl : (backTo pos (starEach es X.env)).any (·.1) = false := by rfl) : JE T X W (.Call (.Name x p) (e :: es) [] pos) (xCB g fl) :=
  pe_imp (pe_callB hc hg hm hv ha hn hdb he hpl) fun _ _ _ => tCB_of hl
theorem je_callTy {x : Str} {id : String} {r : List V → Hp → VK → Prop} {g : GC} (hc : CallR X (.type id) r) (hl : LiftC T X.K r g) (hm : X.mg x = none) (ha : JA T X W (e :: es) fl) (hv : bootBuiltins x = some (.type id) := by decide +kernel) (hg : Gl X x := by rfl) (hn : x ≠ "__name__" := by decide) (hdb : (x == ("__debug__" : Str)) = false := by decide)
    (he : starEach (e :: es) X.env = (false, eval e X.env) :: starEach es X.env := by rfl) (hpl : (backTo pos (starEach es X.env)).any (·.1) = false := by rfl) : JE T X W (.Call (.Name x p) (e :: es) [] pos) (xCB g fl) :=
  pe_imp (pe_callTy hc hg hm hv ha hn hdb he hpl) fun _ _ _ => tCB_of hl
def gLen : GC := fun h vs => match vs with
  | [.str s] => if s.length ≤ 1000000 then some (.int s.length, h) else none
  | [.tup xs] => some (.int xs.length, h)
  | [v] => (lstOf h v).map fun xs => (.int xs.length, h)
  | _ => none
theorem lift_len {K : PySem.W.Frag} : LiftC T K (fun xs H Q => ∃ x n, xs = [x] ∧ LenV K x H n ∧ Q (.int n) H) gLen := by
  intro io h F H vs xs z h' Q sr rr e q
  have one : ∃ v x, vs = [v] ∧ xs = [x] ∧ VR T K io h.length F v x := by
    cases rr with
    | nil => cases e
    | @cons v x vs xs r t =>
      cases t with
      | nil => exact ⟨v, x, rfl, rfl, r⟩
      | cons r2 t2 => cases v <;> cases e
  obtain ⟨v, x, rfl, rfl, r⟩ := one
  have viaL : (lstOf h v).map (fun xs => (Val.int xs.length, h)) = some (z, h') → ∃ x1 n, [x] = [x1] ∧ LenV K x1 H n ∧ Q (.int n) H := fun e => by
    obtain ⟨ys, el, e2⟩ := map_some e
    cases e2
    obtain ⟨a, xs, rfl, sq, rr⟩ := lstOf_ok sr r el
    exact ⟨_, xs.length, rfl, .inl ⟨xs, sq, rfl⟩, by rw [← rr.length]; exact q io F H _ .refl sr (.int _)⟩
  cases r with
  | str s =>
    simp only [gLen] at e
    by_cases hz : s.length ≤ 1000000
    · rw [if_pos hz] at e
      cases e
      exact ⟨_, s.length, rfl, ⟨by show s.toArray.size ≤ sizeLine; simpa using sizeOk hz, by show s.length = s.toArray.size; simp⟩, q io F H _ .refl sr (.int _)⟩
    · rw [if_neg hz] at e; cases e
  | @tup ys a xs sq r9 =>
    cases e
    exact ⟨_, xs.length, rfl, .inr ⟨xs, sqT_mono sr.sub sq, rfl⟩, by rw [← r9.length]; exact q io F H _ .refl sr (.int _)⟩
  | ref k hk => exact viaL e
  | lst sq rr => exact viaL e
  | non => exact viaL e
  | bl b => exact viaL e
  | int j => exact viaL e
  | obj a b c d => exact viaL e
  | glo g => exact viaL e
  | dct _ _ _ _ _ => exact viaL e
def gAbs : GC := fun h vs => match vs with
  | [.int i] => some (.int (if i < 0 then -i else i), h)
  | _ => none
theorem vrs_int1 {K : PySem.W.Frag} {io : Nat → Addr} {n : Nat} {F : Hp} {i : Int} {xs : List V} (r : VRs T K io n F [.int i] xs) : xs = [.int i] := by
  cases r with
  | cons a b => cases a; cases b; rfl
theorem vrs_int2 {K : PySem.W.Frag} {io : Nat → Addr} {n : Nat} {F : Hp} {i j : Int} {xs : List V} (r : VRs T K io n F [.int i, .int j] xs) : xs = [.int i, .int j] := by
  cases r with
  | cons a b => cases a; cases b with
    | cons a b => cases a; cases b; rfl
theorem lift_abs {K : PySem.W.Frag} : LiftC T K (fun xs H Q => ∃ i, xs = [.int i] ∧ Q (.int (if i < 0 then -i else i)) H) gAbs := by
  intro io h F H vs xs z h' Q sr rr e q
  unfold gAbs at e
  split at e
  · cases e
    rw [vrs_int1 rr]
    exact ⟨_, rfl, q io F H _ .refl sr (.int _)⟩
  · cases e
def gMax2 : GC := fun h vs => match vs with
  | [.int i, .int j] => some (.int (if j > i then j else i), h)
  | _ => none
def gMin2 : GC := fun h vs => match vs with
  | [.int i, .int j] => some (.int (if j < i then j else i), h)
  | _ => none
theorem lift_max2 {K : PySem.W.Frag} : LiftC T K (fun xs H Q => ∃ i j, xs = [.int i, .int j] ∧ Q (.int (if j > i then j else i)) H) gMax2 := by
  intro io h F H vs xs z h' Q sr rr e q
  unfold gMax2 at e
  split at e
  · cases e
    rw [vrs_int2 rr]
    exact ⟨_, _, rfl, q io F H _ .refl sr (.int _)⟩
  · cases e
theorem lift_min2 {K : PySem.W.Frag} : LiftC T K (fun xs H Q => ∃ i j, xs = [.int i, .int j] ∧ Q (.int (if j < i then j else i)) H) gMin2 := by
  intro io h F H vs xs z h' Q sr rr e q
  unfold gMin2 at e
  split at e
  · cases e
    rw [vrs_int2 rr]
    exact ⟨_, _, rfl, q io F H _ .refl sr (.int _)⟩
  · cases e
def gInt1 : GC := fun h vs => match vs with
  | [.int i] => some (.int i, h)
  | [.bl b] => some (.int (if b then 1 else 0), h)
  | _ => none
theorem lift_int1 {K : PySem.W.Frag} : LiftC T K (fun xs H Q => (∃ i, xs = [.int i] ∧ Q (.int i) H) ∨ ∃ k, xs = [.bl k] ∧ Q (.int (if k then 1 else 0)) H) gInt1 := by
  intro io h F H vs xs z h' Q sr rr e q
  unfold gInt1 at e
  split at e
  · cases e
    rw [vrs_int1 rr]
    exact .inl ⟨_, rfl, q io F H _ .refl sr (.int _)⟩
  · cases e
    cases rr with
    | cons a b =>
      cases a
      cases b
      exact .inr ⟨_, rfl, q io F H _ .refl sr (.int _)⟩
  · cases e
def bools : List Val → Option (List Bool)
  | [] => some []
  | .bl b :: r => (bools r).map (b :: ·)
  | _ :: _ => none
def gTuple : GC := fun h vs => match vs with
  | [.tup xs] => some (.tup xs, h)
  | [v] => (match lstOf h v with
    | some ys => some (.tup ys, h)
    | none => none)
  | _ => none
theorem lift_tuple {K : PySem.W.Frag} : LiftC T K (fun xs H Q => ∃ p ys, xs = [.ref p] ∧ ((SqL K H p ys ∧ ∀ l, H l = none → Q (.ref l) (upd H l (.tup ys))) ∨ (SqT K H p ys ∧ Q (.ref p) H))) gTuple := by
  intro io h F H vs xs z h' Q sr rr e q
  have one : ∃ v x, vs = [v] ∧ xs = [x] ∧ VR T K io h.length F v x := by
    cases rr with
    | nil => cases e
    | @cons v x vs xs r t =>
      cases t with
      | nil => exact ⟨v, x, rfl, rfl, r⟩
      | cons r2 t2 => cases v <;> cases e
  obtain ⟨v, x, rfl, rfl, r⟩ := one
  have viaL : (match lstOf h v with
    | some ys => some (Val.tup ys, h)
    | none => none) = some (z, h') → ∃ p ys, [x] = [V.ref p] ∧ ((SqL K H p ys ∧ ∀ l, H l = none → Q (.ref l) (upd H l (.tup ys))) ∨ (SqT K H p ys ∧ Q (.ref p) H)) := fun e => by
    cases el : lstOf h v with
    | none => rw [el] at e; cases e
    | some ys =>
      rw [el] at e
      cases e
      obtain ⟨a, xs, rfl, sq, r2⟩ := lstOf_ok sr r el
      exact ⟨a, xs, rfl, .inl ⟨sq, fun l hl => q io _ _ _ (sr.allocStep hl _) (sr.alloc hl _) (.tup (SqT.of upd_same) (r2.step (sr.allocStep hl (.tup xs))))⟩⟩
  cases r with
  | @tup ys a xs sq r2 => cases e; exact ⟨a, xs, rfl, .inr ⟨sqT_mono sr.sub sq, q io F H _ .refl sr (.tup sq r2)⟩⟩
  | ref k hk => exact viaL e
  | lst sq r2 => exact viaL e
  | str s => exact viaL e
  | non => exact viaL e
  | bl b => exact viaL e
  | int j => exact viaL e
  | obj a b c d => exact viaL e
  | glo g => exact viaL e
  | dct _ _ _ _ _ => exact viaL e
theorem push_new {K : PySem.W.Frag} {io : Nat → Addr} {F H : Hp} {h : Hh} {l : Addr} {ys : List Val} {xs : List V} (sr : SR T K io h F H) (r : VRs T K io h.length F ys xs) (hl : H l = none) :
    Step io h.length F H (ioPush io h.length l) (h ++ [Obj.lst ys]).length F (upd H l (.lst xs)) ∧ SR T K (ioPush io h.length l) (h ++ [Obj.lst ys]) F (upd H l (.lst xs)) ∧ VR T K (ioPush io h.length l) (h ++ [Obj.lst ys]).length F (.ref h.length) (.ref l) := by
  have hH : ∀ b u, H b = some u → upd H l (.lst xs) b = some u := upd_sub H hl
  refine ⟨sr.pushStep hl hH, sr.push hl hH ⟨xs, upd_same, r.mono (Nat.le_succ _) (fun k hk => ioPush_lt io l hk) (fun _ _ e => e)⟩, ?_⟩
  have vp : VR T K (ioPush io h.length l) (h ++ [Obj.lst ys]).length F (.ref h.length) (.ref (ioPush io h.length l h.length)) := .ref _ (by simp)
  rw [ioPush_at] at vp
  exact vp
abbrev GM := Hh → Val → List Val → Option (Val × Hh)
def LiftM (T : Tb) (K : PySem.W.Frag) (r : V → List V → Hp → VK → Prop) (g : GM) : Prop :=
  ∀ io h F H v x vs xs z h' Q, SR T K io h F H → VR T K io h.length F v x → VRs T K io h.length F vs xs → g h v vs = some (z, h') →
    (∀ io' F' H' x', Step io h.length F H io' h'.length F' H' → SR T K io' h' F' H' → VR T K io' h'.length F' z x' → Q x' H') → r x xs H Q
def isTy (ty : String) (h : Hh) (v : Val) : Bool := match v with
  | .str _ => decide (ty = "str")
  | v => decide (ty = "list") && (lstOf h v).isSome
theorem isTy_ok {K : PySem.W.Frag} {io : Nat → Addr} {F H : Hp} {h : Hh} {v : Val} {x : V} {ty : String} (sr : SR T K io h F H) (r : VR T K io h.length F v x) (e : isTy ty h v = true) : tyV K ty x H := by
  have viaL : (decide (ty = "list") && (lstOf h v).isSome) = true → tyV K ty x H := fun e => by
    rw [Bool.and_eq_true] at e
    obtain ⟨ys, el⟩ := Option.isSome_iff_exists.mp e.2
    obtain ⟨a, xs, rfl, sq, r2⟩ := lstOf_ok sr r el
    exact .inl ⟨of_decide_eq_true e.1, xs, sq⟩
  unfold isTy at e
  cases r with
  | str s => exact (of_decide_eq_true e : ty = "str")
  | ref k hk => exact viaL e
  | lst sq r2 => exact viaL e
  | tup sq r2 => exact viaL e
  | non => exact viaL e
  | bl b => exact viaL e
  | int j => exact viaL e
  | obj a b c d => exact viaL e
  | glo g => exact viaL e
  | dct _ _ _ _ _ => exact viaL e
def xBM (ty : String) (g : GM) (o : Ex) (l : Lx) : Ex := fun sg h => (o sg h).bind fun ov h1 => if isTy ty h1 ov = true then (l sg h1).bind fun vs h2 => .ofP (g h2 ov vs) else .bad
theorem je_bm {ty id : String} {name : Str} {r : V → List V → Hp → VK → Prop} {g : GM} (pa : PlainAttrs ty) (slot : Slot ty name id) (hty : typeOf (.builtin id) = pure (.type "method_descriptor")) (hm : MtR X id r) (hl : LiftM T X.K r g) (ho : JE T X W o fo) (ha : JA T X W (e :: es) fl)
    (hbase : attributeBase o name X.env (eval o X.env) = eval o X.env := by rfl)
    (hfew : ((backTo cpos (starEach (e :: es) X.env)).all (fun x => !x.1) && (backToKw cpos (keywordEach [] X.env)).all (fun x => x.1.isSome)
      && decide ((e :: es).length + ([] : List Keyword).length + (if ([] : List Keyword).isEmpty then 0 else 1) < 30)) = true := by rfl)
    (hline : (apos.endLine == cpos.line) = true := by rfl) (hs : starEach (e :: es) X.env = (false, eval e X.env) :: starEach es X.env := by rfl) (hplain : (backTo cpos (starEach es X.env)).any (·.1) = false := by rfl) :
    JE T X W (.Call (.Attribute o name apos) (e :: es) [] cpos) (xBM ty g fo fl) := by
  refine pe_imp (pe_bm pa slot hty hm ho ha hbase hfew hline hs hplain) fun σ H Q ⟨io, h, F, sg, sr, rs, w⟩ => ⟨io, h, F, sg, sr, rs, Wants.bind w fun ov h1 io1 F1 H1 x st sr1 vr w1 => ?_⟩
  by_cases ht : isTy ty h1 ov = true
  · rw [if_pos ht] at w1
    refine ⟨isTy_ok sr1 vr ht, io1, h1, F1, sg, sr1, rs.step st, Wants.bindOfL w1 fun vs h2 io2 F2 H2 xs st2 sr2 vrs w2 => ?_⟩
    obtain ⟨z, h', e, w3⟩ := wants_ofP w2
    exact hl io2 h2 F2 H2 ov x vs xs z h' Q sr2 (vr.step st2) vrs e w3
  · rw [if_neg ht] at w1; exact w1.elim
def mutOf (h : Hh) : Val → Option (Nat × List Val)
  | .ref k => (match h[k]? with
    | some (.lst vs) => some (k, vs)
    | _ => none)
  | _ => none
theorem mutOf_ok {K : PySem.W.Frag} {io : Nat → Addr} {F H : Hp} {h : Hh} {v : Val} {x : V} {k : Nat} {vs : List Val} (sr : SR T K io h F H) (r : VR T K io h.length F v x) (e : mutOf h v = some (k, vs)) : ∃ xs, x = .ref (io k) ∧ k < h.length ∧ H (io k) = some (.lst xs) ∧ VRs T K io h.length F vs xs ∧
    ∀ ys zs, VRs T K io h.length F ys zs → Step io h.length F H io (h.set k (.lst ys)).length F (upd H (io k) (.lst zs)) ∧ SR T K io (h.set k (.lst ys)) F (upd H (io k) (.lst zs)) := by
  unfold mutOf at e
  cases r with
  | ref k' hk =>
    dsimp only at e
    cases ek : h[k']? with
    | none => rw [ek] at e; cases e
    | some ob =>
      rw [ek] at e
      cases ob with
      | exn c vs => cases e
      | ins c vs => cases e
      | dct ks vs => cases e
      | lst us =>
        cases e
        obtain ⟨xs, ea, rr⟩ := sr.obj k _ ek
        exact ⟨xs, rfl, hk, ea, rr, fun ys zs r2 => ⟨sr.writeStep hk, sr.write hk (fun y q => by rw [ea] at q; cases q) ⟨zs, upd_same, r2⟩⟩⟩
  | _ => cases e
def gAppend : GM := fun h v vs => match vs with
  | [y] => (match mutOf h v with
    | some (k, us) => if us.length < 1000000 then some (.non, h.set k (.lst (us ++ [y]))) else none
    | none => none)
  | _ => none
theorem lift_append {K : PySem.W.Frag} : LiftM T K rAppend gAppend := by
  intro io h F H v x vs xs z h' Q sr vr rr e q
  unfold gAppend at e
  split at e
  · rename_i y
    cases rr with
    | @cons _ yx _ _ ry t =>
      cases t
      cases em : mutOf h v with
      | none => rw [em] at e; cases e
      | some p =>
        obtain ⟨k, us⟩ := p
        rw [em] at e
        dsimp only at e
        by_cases hz : us.length < 1000000
        · rw [if_pos hz] at e
          cases e
          obtain ⟨xs, rfl, hk, ea, rr, go⟩ := mutOf_ok sr vr em
          obtain ⟨s1, s2⟩ := go (us ++ [y]) (xs ++ [yx]) (rr.append (.cons ry .nil))
          exact ⟨io k, xs, yx, rfl, rfl, ea, by rw [← rr.length, sizeLine_eq]; omega, q io F _ _ s1 s2 .non⟩
        · rw [if_neg hz] at e; cases e
  · cases e
def gSetIx (o i : Ex) : Gx := fun v sg h => match o sg h with
  | .ok ov h1 => (match i sg h1 with
    | .ok (.int j) h2 => (match mutOf h2 ov with
      | some (k, us) => if 0 ≤ j ∧ j < us.length then .ok sg (h2.set k (.lst (us.set j.toNat v))) else .bad
      | none => .bad)
    | _ => .bad)
  | _ => .bad
theorem jg_ix {i : Expr} {fi : Ex} (ho : JE T X Wno o fo) (hi : JE T X Wno i fi)
    (ha : ∀ v, assign (.Subscript o i pos) X.env v = (do
      let ov ← holding [v] (eval o X.env)
      let iv ← holding [v, ov] (eval i X.env)
      standAt pos
      holding [v, ov, iv] (setItem ov iv v)
      release [v, ov, iv] []) := by intro _; rfl) : JG T X (.Subscript o i pos) (gSetIx fo fi) := by
  refine pg_imp (pg_sub ho hi set_list ha) fun y σ H Q ⟨io, h, F, sg, v, sr, rs, vr, w⟩ => ⟨io, h, F, sg, sr, rs, ?_⟩
  unfold gSetIx at w
  cases eo : fo sg h with
  | bad => rw [eo] at w; exact w
  | exc c fs h1 => rw [eo] at w; exact w.elim
  | ok ov h1 =>
    rw [eo] at w
    intro io1 F1 H1 ox st1 sr1 vo
    refine ⟨io1, h1, F1, sg, sr1, rs.step st1, ?_⟩
    dsimp only at w
    cases ei : fi sg h1 with
    | bad => rw [ei] at w; exact w
    | exc c fs h1 => rw [ei] at w; exact w.elim
    | ok iv h2 =>
      rw [ei] at w
      intro io2 F2 H2 ix st2 sr2 vi
      cases vi with
      | int j =>
        dsimp only at w
        cases em : mutOf h2 ov with
        | none => rw [em] at w; exact w.elim
        | some p =>
          obtain ⟨k, us⟩ := p
          rw [em] at w
          dsimp only at w
          by_cases hj : 0 ≤ j ∧ j < us.length
          · rw [if_pos hj] at w
            obtain ⟨xs, rfl, hk, ea, rr, go⟩ := mutOf_ok sr2 (vo.step st2) em
            have st02 := st1.trans sr1 st2
            obtain ⟨s1, s2⟩ := go (us.set j.toNat v) (xs.set j.toNat y) (rr.set (vr.step st02) _)
            refine ⟨io2 k, xs, j, j.toNat, rfl, rfl, ea, ?_, w io2 F2 _ σ (st02.trans sr2 s1) s2 ((rs.step st02).step s1)⟩
            unfold ixN
            rw [if_pos hj.1, if_pos (by rw [← rr.length]; exact hj.2)]
          · rw [if_neg hj] at w; exact w.elim
      | _ => exact w.elim
end
end Py
namespace Py
open PySem PySem.Spec PyProof.Rows L2
inductive Kd where
  | non | bool | int | str | tuple | list
  deriving DecidableEq
def Kd.name : Kd → String
  | .non => "NoneType"
  | .bool => "bool"
  | .int => "int"
  | .str => "str"
  | .tuple => "tuple"
  | .list => "list"
section
variable {T : Tb} {K : PySem.W.Frag} {io : Nat → Addr} {F H : Hp} {h : Hh} {v : Val} {x : V} {k : Kd}
end
structure CTy (K : PySem.W.Frag) (C : Addr) : Prop where
  cls : Cls K C
  cc : PySem.W.findIn K (.ref C) "__class__" = some (some (.builtin "object.__class__"))
  gt : PySem.W.specialIn K (.builtin "object.__class__") "__get__" = some (some (.builtin "getset_descriptor.__get__"))
  tk : PySem.W.takesIn K (.builtin "object.__class__") = some true
  ob : PySem.W.mroIn K C (.type "object") = some true
  ne : PySem.W.findIn K (.ref C) "__ne__" = some (some (.builtin "object.__ne__"))
def ctyB (K : PySem.W.Frag) (x : Str) : Bool := (He.Fa.cls x).ok K && (He.eqO (PySem.W.findIn K (.ref (He.ga K x)) "__class__") (some (some (.builtin "object.__class__"))) &&
  (He.eqO (PySem.W.specialIn K (.builtin "object.__class__") "__get__") (some (some (.builtin "getset_descriptor.__get__"))) && (decide (PySem.W.takesIn K (.builtin "object.__class__") = some true) &&
  (decide (PySem.W.mroIn K (He.ga K x) (.type "object") = some true) && He.eqO (PySem.W.findIn K (.ref (He.ga K x)) "__ne__") (some (some (.builtin "object.__ne__")))))))
theorem cty_of {K : PySem.W.Frag} {x : Str} (h : ctyB K x = true) : CTy K (He.ga K x) := by
  obtain ⟨h1, h⟩ := He.ba h
  obtain ⟨h2, h⟩ := He.ba h
  obtain ⟨h3, h⟩ := He.ba h
  obtain ⟨h4, h⟩ := He.ba h
  obtain ⟨h5, h6⟩ := He.ba h
  exact ⟨He.cls_ok h1, He.eqO_ok h2, He.eqO_ok h3, of_decide_eq_true h4, of_decide_eq_true h5, He.eqO_ok h6⟩
def kds : List Kd := [.non, .bool, .int, .str, .tuple, .list]
structure KdC (K : PySem.W.Frag) (C : Addr) : Prop where
  ct : CTy K C
  kd : ∀ b : Kd, PySem.W.kitOne K (.ref C) (.type b.name) = some false
abbrev KdO (T : Tb) (K : PySem.W.Frag) : Prop := ∀ c, 10 ≤ c → PySem.W.makesIn K (He.ga K (T.cn c)) = true → KdC K (He.ga K (T.cn c))
def koB (K : PySem.W.Frag) (x : Str) : Bool := !PySem.W.makesIn K (He.ga K x) || (ctyB K x && kds.all fun b => decide (PySem.W.kitOne K (.ref (He.ga K x)) (.type b.name) = some false))
theorem ko_of {K : PySem.W.Frag} {x : Str} (h : koB K x = true) (hm : PySem.W.makesIn K (He.ga K x) = true) : KdC K (He.ga K x) := by
  unfold koB at h
  rw [hm, Bool.not_true, Bool.false_or] at h
  obtain ⟨h1, h2⟩ := He.ba h
  exact ⟨cty_of h1, fun b => of_decide_eq_true (List.all_eq_true.mp h2 b (by cases b <;> decide))⟩
section
variable {T : Tb} {X : Cx} {W : WX} {a b c e o : Expr} {es : List Expr} {fa fb fe fo : Ex} {fl : Lx} {pos apos cpos p p1 p2 p3 : Pos}
def flat : Val → Bool
  | .non => true
  | .bl _ => true
  | .int _ => true
  | .str _ => true
  | _ => false
def frzB (T : Nat → List Str) (h : Hh) : Nat → Val → Option Val
  | 0, _ => none
  | n + 1, v => match v with
    | .ref k => if k = 0 then none else (match h[k]? with
      | some (.lst vs) => (vs.mapM (frzB T h n)).map .lst
      | some (.ins c vs) => if vs.length = (T c).length then (vs.mapM (frzB T h n)).map (.obj c) else none
      | some (.dct ks vs) => (vs.mapM (frzB T h n)).map (.dct ks)
      | some (.exn _ _) => none
      | none => none)
    | .tup vs => (vs.mapM (frzB T h n)).map .tup
    | .lst vs => (vs.mapM (frzB T h n)).map .lst
    | .obj c vs => (vs.mapM (frzB T h n)).map (.obj c)
    | .dct ks vs => (vs.mapM (frzB T h n)).map (.dct ks)
    | v => some v
theorem frzB_ok {K : PySem.W.Frag} {io io' : Nat → Addr} {F F2 H : Hp} {h : Hh} (sr : SR T K io h F H) (hF : ∀ b o, F b = some o → F2 b = some o) (ht : ∀ k, 0 < k → k < h.length → F2 (io k) = H (io k)) (ho : ∀ k dx, 0 < k → k < h.length → H dx = some (.own (io k)) → F2 dx = some (.own (io k))) :
    ∀ (fu : Nat) (v v' : Val) (x : V), frzB T.fn h fu v = some v' → VR T K io h.length F v x → VR T K io' 0 F2 v' x
  | 0, _, _, _, e, _ => by cases e
  | fu + 1, v, v', x, e, r => by
    have ih := frzB_ok (io' := io') sr hF ht ho fu
    unfold frzB at e
    cases r with
    | non => cases e; exact .non
    | bl b => cases e; exact .bl b
    | int i => cases e; exact .int i
    | str s => cases e; exact .str s
    | glo g => cases e; exact .glo g
    | @tup vs a xs q rr =>
      obtain ⟨us, e1, rfl⟩ := map_some e
      exact .tup (sqT_mono hF q) (mapM_VRs ih e1 rr)
    | @lst vs a xs q rr =>
      obtain ⟨us, e1, rfl⟩ := map_some e
      exact .lst (sqL_mono hF q) (mapM_VRs ih e1 rr)
    | @obj c vs a dx xs q qd rr hl =>
      obtain ⟨us, e1, rfl⟩ := map_some e
      exact .obj (hF _ _ q) (hF _ _ qd) (mapM_VRs ih e1 rr) hl
    | @dct ks vs a es ep xs ys q hk he r1 r2 =>
      obtain ⟨us, e1, rfl⟩ := map_some e
      exact .dct (hF _ _ q) hk he ((r1.pure (io' := io') (m := 0) hk.pure).mono (Nat.le_refl _) (fun _ _ => rfl) hF) (mapM_VRs ih e1 r2)
    | ref k hk =>
      dsimp only at e
      by_cases h0 : k = 0
      · rw [if_pos h0] at e; cases e
      · rw [if_neg h0] at e
        have kp : 0 < k := Nat.pos_of_ne_zero h0
        cases ek : h[k]? with
        | none => rw [ek] at e; cases e
        | some ob =>
          rw [ek] at e
          have o := sr.obj k ob ek
          cases ob with
          | lst vs =>
            obtain ⟨xs, ea, rr⟩ := o
            obtain ⟨us, e1, rfl⟩ := map_some e
            exact .lst (SqL.of (by rw [ht k kp hk]; exact ea)) (mapM_VRs ih e1 rr)
          | dct ks vs =>
            obtain ⟨es, ep, xs, ys, ea, hkk, he, r1, r2⟩ := o
            obtain ⟨us, e1, rfl⟩ := map_some e
            exact .dct (by rw [ht k kp hk]; exact ea) hkk.2 he ((r1.pure (io' := io') hkk.2.pure).mono (Nat.le_refl _) (fun _ _ => rfl) hF) (mapM_VRs ih e1 r2)
          | exn c vs => cases e
          | ins c vs =>
            obtain ⟨dx, xs, ea, ed, rr, hl⟩ := o
            dsimp only at e
            by_cases hz : vs.length = (T.fn c).length
            · rw [if_pos hz] at e
              obtain ⟨us, e1, rfl⟩ := map_some e
              refine .obj (dx := dx) (xs := xs) (by rw [ht k kp hk, ea, hz, List.take_length]) (ho k dx kp hk ed) (mapM_VRs ih e1 rr) ⟨by rw [← rr.length]; exact hz, hl.2⟩
            · rw [if_neg hz] at e; cases e
open Classical in
noncomputable def FBof (io' : Nat → Addr) (n' : Nat) (F' H' : Hp) : Hp := fun b => match F' b with
  | some o => some o
  | none => if (∃ k, 0 < k ∧ k < n' ∧ io' k = b) ∨ (∃ k, 0 < k ∧ k < n' ∧ H' b = some (.own (io' k))) then H' b else none
theorem FBof_sub {io' : Nat → Addr} {F' H' : Hp} {n' : Nat} : ∀ b o, F' b = some o → FBof io' n' F' H' b = some o := fun b o e => by unfold FBof; rw [e]
theorem FBof_cases {io' : Nat → Addr} {F' H' : Hp} {n' : Nat} {b : Addr} {o : HO} (e : FBof io' n' F' H' b = some o) : F' b = some o ∨ (H' b = some o ∧ ((∃ k, 0 < k ∧ k < n' ∧ io' k = b) ∨ ∃ y, o = .own y)) := by
  unfold FBof at e
  cases q : F' b with
  | some u => rw [q] at e; cases e; exact .inl rfl
  | none =>
    rw [q] at e
    dsimp only at e
    split at e
    · rename_i z
      refine .inr ⟨e, ?_⟩
      rcases z with z | ⟨k, _, _, z⟩
      · exact .inl z
      · rw [z] at e; cases e; exact .inr ⟨_, rfl⟩
    · cases e
def callB (T : Nat → List Str) (f : Fx) (as : List Val) (h : Hh) : Res := match as with
  | .ref k :: rest => (match h[k]? with
    | some (.lst cs) => if (pureVs rest && pureVs cs) = true then (match f [.lst cs] (.ref 0 :: rest) with
      | .ok v h' => (match (h'[0]? : Option Obj) with
        | some (Obj.lst cs') => if pureVs cs' = true then (match (if pureV v = true then some v else frzB T h' 30 v) with
          | some v' => .ok v' (h.set k (.lst cs'))
          | none => .bad) else .bad
        | _ => .bad)
      | _ => .bad) else .bad
    | _ => .bad)
  | _ => .bad
theorem callB_ok {K : PySem.W.Frag} {io : Nat → Addr} {F H : Hp} {h : Hh} {W : XK} {Q : VK} {f : Fx} {as : List Val} {vs : List V} (sr : SR T K io h F H) (r : VRs T K io h.length F as vs) (w : Wants T K io h.length F H W Q (callB T.fn f as h)) : spF T K f vs H Q W := by
  unfold callB at w
  split at w
  · rename_i k rest
    cases ek : h[k]? with
    | none => rw [ek] at w; exact w.elim
    | some ob =>
      rw [ek] at w
      cases ob with
      | exn c us => exact w.elim
      | ins c us => exact w.elim
      | dct ks us => exact w.elim
      | lst cs =>
        dsimp only at w
        by_cases hp : (pureVs rest && pureVs cs) = true
        · rw [if_pos hp] at w
          rw [Bool.and_eq_true] at hp
          cases r with
          | @cons _ x0 _ xs0 r0 rt =>
          cases r0 with
          | ref _ hk =>
          obtain ⟨ys, ea, rc⟩ := sr.obj k _ ek
          let io0 : Nat → Addr := fun _ => io k
          have s0 : SR T K io0 [.lst cs] F H := by
            refine ⟨sr.sub, fun j hj => sr.dis k hk, fun i j hi hj _ => ?_, fun j o e => ?_, sr.tabs⟩
            · have h1 : i < 1 := hi
              have h2 : j < 1 := hj
              omega
            · have hj : j = 0 := by
                have h1 : j < 1 := (List.getElem?_eq_some_iff.mp e).1
                omega
              subst hj
              cases (Option.some.inj e : Obj.lst cs = o)
              exact ⟨ys, ea, rc.pure hp.2⟩
          refine ⟨io0, [.lst cs], F, .ref 0 :: rest, s0, .cons (.ref 0 (Nat.lt_succ_self 0)) (rt.pure hp.1), ?_⟩
          cases e : f [.lst cs] (.ref 0 :: rest) with
          | bad => rw [e] at w; exact w
          | exc c fs h' => rw [e] at w; exact w.elim
          | ok v h' =>
            rw [e] at w
            intro io1 F1 H1 x1 st sr1 vr
            dsimp only at w
            cases e0 : h'[0]? with
            | none => rw [e0] at w; exact w.elim
            | some ob =>
              rw [e0] at w
              cases ob with
              | exn c us => exact w.elim
              | ins c us => exact w.elim
              | dct ks us => exact w.elim
              | lst cs' =>
                dsimp only at w
                by_cases hq : pureVs cs' = true
                · rw [if_pos hq] at w
                  cases ev : (if pureV v = true then some v else frzB T.fn h' 30 v) with
                  | none => rw [ev] at w; exact w.elim
                  | some v' =>
                    rw [ev] at w
                    have hlen : 0 < h'.length := (List.getElem?_eq_some_iff.mp e0).1
                    have i0 : io1 0 = io k := st.eq 0 (Nat.lt_succ_self 0)
                    obtain ⟨zs, ea1, rz⟩ := sr1.obj 0 _ e0
                    rw [i0] at ea1
                    have fr : ∀ b o, H b = some o → b ≠ io k → (∀ ps, o ≠ .tbl ps) → H1 b = some o := fun b o hb hne nt => st.frame b o hb (fun j hj z => hne (show b = io k from (show io0 j = b from z).symm)) nt
                    have keep : ∀ j, j < h.length → j ≠ k → ∀ o, H (io j) = some o → H1 (io j) = some o := fun j hj hne o ho => fr _ o ho (fun z => hne (sr.inj j k hj hk z)) ((sr.obj j h[j] (by simp [hj])).notTbl ho)
                    have dis2 : ∀ j, j < h.length → FBof io1 h'.length F1 H1 (io j) = none := fun j hj => by
                      cases q : FBof io1 h'.length F1 H1 (io j) with
                      | none => rfl
                      | some o =>
                        exfalso
                        obtain ⟨u, hu⟩ := sr.there hj
                        have oj := sr.obj j h[j] (by simp [hj])
                        have notown : ∀ y, H1 (io j) ≠ some (.own y) := fun y z => by
                          by_cases hjk : j = k
                          · subst hjk; rw [ea1] at z; cases z
                          · rw [keep j hj hjk u hu] at z
                            exact oj.notOwn y (hu.trans z)
                        rcases FBof_cases q with z | ⟨z, ⟨i, hi0, hi, ei⟩ | ⟨y, z2⟩⟩
                        · rcases st.fresh _ o z with z1 | z1 | ⟨y, z1⟩
                          · rw [sr.dis j hj] at z1; cases z1
                          · rw [hu] at z1; cases z1
                          · subst z1; exact notown y (sr1.sub _ _ z)
                        · have := st.new i (show 1 ≤ i from hi0) hi
                          rw [ei, hu] at this; cases this
                        · subst z2; exact notown y z
                    have mF : ∀ b o, F b = some o → FBof io1 h'.length F1 H1 b = some o := fun b o e => FBof_sub b o (st.phi b o e)
                    have s2 : SR T K io (h.set k (.lst cs')) (FBof io1 h'.length F1 H1) H1 := by
                      have ln : (h.set k (Obj.lst cs')).length = h.length := by simp
                      refine ⟨fun b o e => ?_, fun j hj => dis2 j (by rwa [ln] at hj), fun i j hi hj => sr.inj i j (by rwa [ln] at hi) (by rwa [ln] at hj), fun j o e => ?_, fun pq hq => (sr1.tabs pq hq).mono (fun ps o h hp' e => by
    rcases FBof_cases e with z | ⟨z, ⟨i, hi0, hi, ei⟩ | ⟨y, z2⟩⟩
    · rw [h] at z; cases z
    · exact (sr1.obj i h'[i] (by simp [hi])).notTbl (by rw [ei]; exact hp') ps rfl
    · subst z2; rw [hp'] at z; cases z) (fun c o e _ => FBof_sub c o e) fun _ e => e⟩
                      · rcases FBof_cases e with z | ⟨z, _⟩
                        · exact sr1.sub b o z
                        · exact z
                      · rw [ln]
                        by_cases q : k = j
                        · subst q
                          rw [List.getElem?_set_self hk] at e
                          cases e
                          exact ⟨zs, ea1, (rz.pure hq).mono (Nat.le_refl _) (fun _ _ => rfl) FBof_sub⟩
                        · rw [List.getElem?_set_ne q] at e
                          have hj : j < h.length := (List.getElem?_eq_some_iff.mp e).1
                          have o1 := sr.obj j o e
                          cases o with
                          | lst us => obtain ⟨xs, e1, r1⟩ := o1; exact ⟨xs, keep j hj (Ne.symm q) _ e1, r1.mono (Nat.le_refl _) (fun _ _ => rfl) mF⟩
                          | dct ks us => obtain ⟨es, ep, xs, ys, e1, hkk, he, r1, r2⟩ := o1; exact ⟨es, ep, xs, ys, keep j hj (Ne.symm q) _ e1, hkk, he, r1.mono (Nat.le_refl _) (fun _ _ => rfl) mF, r2.mono (Nat.le_refl _) (fun _ _ => rfl) mF⟩
                          | exn c us =>
                            obtain ⟨dx, xs, e1, d1, r1, l1⟩ := o1
                            exact ⟨dx, xs, keep j hj (Ne.symm q) _ e1, fun y ey => fr y _ (d1 y ey) (fun z => (by have t := d1 y ey; rw [z, ea] at t; cases t)) (fun ps z => by cases z), r1.mono (Nat.le_refl _) (fun _ _ => rfl) mF, l1⟩
                          | ins c us =>
                            obtain ⟨dx, xs, e1, d1, r1, l1⟩ := o1
                            exact ⟨dx, xs, keep j hj (Ne.symm q) _ e1, fr dx _ d1 (fun z => (by rw [z, ea] at d1; cases d1)) (fun ps z => by cases z), r1.mono (Nat.le_refl _) (fun _ _ => rfl) mF, l1⟩
                    have st2 : Step io h.length F H io (h.set k (.lst cs')).length (FBof io1 h'.length F1 H1) H1 := by
                      refine ⟨by simp, fun _ _ => rfl, mF, fun b o e hb => st.frm b o e fun j hj z => hb k hk ((show io0 j = b from z)), fun j a b => absurd (by simpa using b) (Nat.not_lt.mpr a), fun b o e => ?_⟩
                      rcases FBof_cases e with z | ⟨z, ⟨i, hi0, hi, ei⟩ | z2⟩
                      · exact st.fresh b o z
                      · subst ei; exact .inr (.inl (st.new i (show 1 ≤ i from hi0) hi))
                      · exact .inr (.inr z2)
                    have v2 : VR T K io (h.set k (.lst cs')).length (FBof io1 h'.length F1 H1) v' x1 := by
                      by_cases hv : pureV v = true
                      · rw [if_pos hv] at ev
                        cases ev
                        exact (vr.pure hv).mono (Nat.le_refl _) (fun _ _ => rfl) FBof_sub
                      · rw [if_neg hv] at ev
                        refine (frzB_ok (io' := io) sr1 FBof_sub (fun j hj0 hj => ?_) (fun j dx hj0 hj e => ?_) 30 v v' x1 ev vr).ofEmpty rfl
                        · unfold FBof
                          rw [sr1.dis j hj]
                          dsimp only
                          rw [if_pos (.inl ⟨j, hj0, hj, rfl⟩)]
                        · unfold FBof
                          cases q : F1 dx with
                          | some u => have := sr1.sub dx u q; rw [e] at this; cases this; rfl
                          | none =>
                            dsimp only
                            rw [if_pos (.inr ⟨j, hj0, hj, e⟩)]
                            exact e
                    exact w io _ H1 x1 st2 s2 v2
                · rw [if_neg hq] at w; exact w.elim
        · rw [if_neg hp] at w; exact w.elim
  · exact w.elim
def xCallB (T : Nat → List Str) (f : Fx) (dfl : List Val) (l : Lx) : Ex := fun sg h => (l sg h).bind fun as h1 => callB T f (as ++ dfl) h1
theorem je_callBw {ps : List Str} {k : Nat} {f : Fx} {x : Str} {ad : Addr} {fd : FuncData} {dvs : List V} {ds : List Value} (G : FnG X.prog X.w X.K X.mg X.base (CX X.prog X.w) k ad fd ps (spF T X.K f)) (hr : RoomG k X.A) (hm : X.mg x = some (.ref ad)) (hk : PySem.W.keepIn X.K (.ref ad) = true) {dfl : List Val} (hD : Dfl T X.K dfl dvs) (hb : Binds X.K fd ps ds) (hd : Vals dvs ds) (tk : Takes X W)
    (ha : JA T X W (e :: es) fl) {p : Pos} (hg : Gl X x := by rfl) (hdb : (x == ("__debug__" : Str)) = false := by decide) (he : starEach (e :: es) X.env = (false, eval e X.env) :: starEach es X.env := by rfl) (hpl : (backTo pos (starEach es X.env)).any (·.1) = false := by rfl) :
    JE T X W (.Call (.Name x p) (e :: es) [] pos) (xCallB T.fn f dfl fl) :=
  pe_imp (pe_callG (E := fun σ c d H => W c d σ H) G hr hg hm hk hb hd (fun σ => passAt tk σ) ha hdb he hpl) fun σ H Q ⟨io, h, F, sg, sr, rs, w⟩ =>
    ⟨io, h, F, sg, sr, rs, Wants.bindOfL w fun vs h1 io1 F1 H1 xs st sr1 vr w1 => callB_ok sr1 (vr.append (hD _ _ _)) w1⟩
end
end Py
namespace Py
open PySem PySem.Spec PyProof.Rows L2
abbrev Ky := List (Int ⊕ List Nat)
def IsTK (h : Heap) (shape : Nat → Bool) (v : Value) : Prop := ∃ k f, tupKey h shape v = some k ∧ TupOf h shape v f
theorem IsTK.keeps {h h' : Heap} {shape : Nat → Bool} {v : Value} {k : Ky} (e : tupKey h shape v = some k) (hk : ∀ b o, h.get? b = some o → (∃ xs n, o.data = .seq xs n ∧ v = .ref b) → h'.get? b = some o) : tupKey h' shape v = some k := by
  obtain ⟨a, o, xs, n, rfl, ho, hd, hi⟩ := tupKey_some e
  show (match h'.get? a with
    | some o => match o.data with
      | .seq xs _ => tupItems shape 0 xs.toList
      | _ => none
    | none => none) = some k
  rw [hk a o ho ⟨xs, n, hd, rfl⟩]
  show (match o.data with
      | .seq xs _ => tupItems shape 0 xs.toList
      | _ => none) = some k
  rw [hd]; exact hi
section
variable {X : Cx}
end
end Py
namespace Py
open PySem PySem.Spec PyProof.Rows L2
section
variable {T : Tb} {X : Cx} {W : WX} {a b c e o : Expr} {es : List Expr} {fa fb fe fo : Ex} {fl : Lx} {pos apos cpos p : Pos}
def xISq (e : Ex) : Ix := fun sg h => match e sg h with
  | .ok v h1 => (match v with
    | .tup vs => .ok (.items vs) h1
    | .lst vs => .ok (.items vs) h1
    | .str s => .ok (.items (s.map fun c => .str [c])) h1
    | .ref k => (match h1[k]? with
      | some (.lst _) => .ok (.ref (curL k)) h1
      | _ => .bad)
    | _ => .bad)
  | .exc c fs h1 => .exc c fs h1
  | .bad => .bad
def xIStr (e : Ex) : Ix := fun sg h => match e sg h with
  | .ok (.str s) h1 => .ok (.items (s.map fun c => .str [c])) h1
  | .ok _ _ => .bad
  | .exc c fs h1 => .exc c fs h1
  | .bad => .bad
theorem ji_str {tg iter : Expr} (he : JE T X W iter fe) : JI T X W tg iter (xIStr fe) := by
  refine pi_imp (pi_str he) fun σ H R ⟨io, h, F, sg, sr, rs, w⟩ => ⟨io, h, F, sg, sr, rs, ?_⟩
  unfold xIStr at w
  cases e : fe sg h with
  | bad => rw [e] at w; exact w
  | exc c fs h1 => rw [e] at w; exact w
  | ok v h1 =>
    rw [e] at w
    intro io1 F1 H1 x st1 sr1 vr
    cases vr with
    | str s =>
      refine ⟨_, rfl, w io1 F1 H1 _ st1 sr1 fun i io2 h2 F2 H2 sr2 hn he hF hi => ?_⟩
      by_cases hlt : i < s.length
      · have ev : (s.map fun c => Val.str [c])[i]? = some (.str [s[i]]) := by simp [hlt]
        rw [ev]
        refine ⟨by show i < s.toArray.size; simpa using hlt, fun x H' ⟨e', c, ec, ex⟩ => ?_⟩
        subst e' ex
        have hc : c = s[i] := by simpa [hlt] using ec.symm
        subst hc
        exact ⟨F2, .refl, sr2, .str [s[i]]⟩
      · rw [List.getElem?_eq_none (by simpa using hlt)]
        show s.toArray.size ≤ i
        simpa using hlt
    | _ => exact w.elim
theorem pi_or {tg iter : Expr} {t u : TI} (h1 : PI X tg iter t) (h2 : PI X tg iter u) : PI X tg iter (fun σ H R => t σ H R ∨ u σ H R) :=
  ⟨fun pins s σ H R I q => q.elim (h1.run pins s σ H R I) (h2.run pins s σ H R I)⟩
theorem ji_seq {tg iter : Expr} (he : JE T X W iter fe) : JI T X W tg iter (xISq fe) := by
  refine pi_imp (pi_or (ji_str (tg := tg) he) (pi_or (ji_list (tg := tg) he) (ji_tup (tg := tg) he))) fun σ H R ⟨io, h, F, sg, sr, rs, w⟩ => ?_
  unfold xISq at w
  cases e : fe sg h with
  | bad => rw [e] at w; exact w.elim
  | exc c fs h1 => rw [e] at w; exact .inr (.inl ⟨io, h, F, sg, sr, rs, by unfold xISeq; rw [e]; exact w⟩)
  | ok v h1 =>
    rw [e] at w
    cases v with
    | str t => exact .inl ⟨io, h, F, sg, sr, rs, by unfold xIStr; rw [e]; exact w⟩
    | tup vs => exact .inr (.inr ⟨io, h, F, sg, sr, rs, by unfold xITup; rw [e]; exact w⟩)
    | lst vs => exact .inr (.inl ⟨io, h, F, sg, sr, rs, by unfold xISeq; rw [e]; exact w⟩)
    | ref k => exact .inr (.inl ⟨io, h, F, sg, sr, rs, by unfold xISeq; rw [e]; exact w⟩)
    | _ => exact w.elim
def callO (T : Nat → List Str) (f : Fx) (as : List Val) (h : Hh) : Res := if (h.isEmpty || pureVs as) = true then (match f [] as with
  | .ok v h' => (match v with
    | .ref j => (match (h'[j]? : Option Obj) with
      | some (Obj.lst cs) => if pureVs cs = true then .ok (.ref h.length) (h ++ [.lst cs]) else .bad
      | _ => .bad)
    | _ => .bad)
  | _ => .bad) else .bad
theorem callO_ok {K : PySem.W.Frag} {io : Nat → Addr} {F H : Hp} {h : Hh} {W : XK} {Q : VK} {f : Fx} {as : List Val} {vs : List V} (sr : SR T K io h F H) (r : VRs T K io h.length F as vs) (w : Wants T K io h.length F H W Q (callO T.fn f as h)) : spF T K f vs H Q W := by
  unfold callO at w
  by_cases hp : (h.isEmpty || pureVs as) = true
  · rw [if_pos hp] at w
    have r0 : VRs T K io ([] : Hh).length F as vs := by
      rcases Bool.or_eq_true_iff.mp hp with z | z
      · have : h = [] := List.isEmpty_iff.mp z
        subst this; exact r
      · exact r.pure z
    refine ⟨io, [], F, as, ⟨sr.sub, fun k hk => absurd hk (Nat.not_lt_zero _), fun j k hj => absurd hj (Nat.not_lt_zero _), fun k o e => by simp at e, sr.tabs⟩, r0, ?_⟩
    cases e : f [] as with
    | bad => rw [e] at w; exact w
    | exc c fs h' => rw [e] at w; exact w.elim
    | ok v h' =>
      rw [e] at w
      intro io1 F1 H1 x st sr1 vr
      cases vr with
      | ref j hj =>
        dsimp only at w
        cases ej : (h'[j]? : Option Obj) with
        | none => rw [ej] at w; exact w.elim
        | some ob =>
          rw [ej] at w
          cases ob with
          | exn c us => exact w.elim
          | ins c us => exact w.elim
          | dct ks us => exact w.elim
          | lst cs =>
            dsimp only at w
            by_cases hc : pureVs cs = true
            · rw [if_pos hc] at w
              obtain ⟨ys, ea, rc⟩ := sr1.obj j _ ej
              have hH : ∀ b o, H b = some o → (∀ ps, o ≠ .tbl ps) → H1 b = some o := fun b o e nt => st.frame b o e (fun k hk => absurd hk (Nat.not_lt_zero _)) nt
              have nw : H (io1 j) = none := st.new j (Nat.zero_le _) hj
              have dis : ∀ k, k < h.length → F1 (io k) = none := fun k hk => by
                cases q : F1 (io k) with
                | none => rfl
                | some o =>
                  exfalso
                  obtain ⟨u, hu⟩ := sr.there hk
                  rcases st.fresh _ o q with z | z | ⟨y, z⟩
                  · rw [sr.dis k hk] at z; cases z
                  · rw [hu] at z; cases z
                  · subst z
                    have e3 := sr1.sub _ _ q
                    rw [hH _ _ hu ((sr.obj k h[k] (by simp [hk])).notTbl hu)] at e3
                    exact (sr.obj k h[k] (by simp [hk])).notOwn y (hu.trans e3)
              have s0 : SR T K io h F1 H1 := ⟨sr1.sub, dis, sr.inj, fun k o e => (sr.obj k o e).monoN (Nat.le_refl _) (fun _ _ => rfl) st.phi hH, sr1.tabs⟩
              have t0 : Step io h.length F H io h.length F1 H1 := ⟨Nat.le_refl _, fun _ _ => rfl, st.phi, fun b o e _ => st.frm b o e fun k hk => absurd hk (Nat.not_lt_zero _), fun k a b => absurd b (Nat.not_lt.mpr a), st.fresh⟩
              obtain ⟨p1, p2, p3⟩ := CInv.push (acc := cs) nw t0 s0 ea (rc.pure hc) (sr1.dis j hj) (fun k hk z => by obtain ⟨u, hu⟩ := sr.there hk; rw [z, nw] at hu; cases hu)
              exact w _ F1 H1 _ p1 p2 p3
            · rw [if_neg hc] at w; exact w.elim
      | _ => exact w.elim
  · rw [if_neg hp] at w; exact w.elim
def Callee (T : Tb) (P : Program) (w : World) (K : PySem.W.Frag) (mg : Str → Option Value) (base : Heap) (k : Nat) (a : Addr) (ps : List Str) (f : Fx) (dvs : List V) : Prop :=
  ∃ fd ds, FnG P w K mg base (CX P w) k a fd ps (spF T K f) ∧ PySem.W.keepIn K (.ref a) = true ∧ Vals dvs ds ∧ Binds K fd ps ds
variable {k : Nat} {ad : Addr} {ps : List Str} {f : Fx} {dvs : List V} {x m : Str} {cc : Nat}
abbrev CalleeX (T : Tb) (X : Cx) (k : Nat) (a : Addr) (ps : List Str) (f : Fx) (dvs : List V) : Prop := Callee T X.prog X.w X.K X.mg X.base k a ps f dvs
def xCallO (T : Nat → List Str) (f : Fx) (dfl : List Val) (l : Lx) : Ex := fun sg h => (l sg h).bind fun as h1 => callO T f (as ++ dfl) h1
theorem jc_A (C : CalleeX T X k ad ps f dvs) (hr : RoomG k X.A) (hm : X.mg x = some (.ref ad)) {dfl : List Val} (hD : Dfl T X.K dfl dvs) (tk : Takes X W) (ha : JA T X W (e :: es) fl) (hg : Gl X x := by rfl) (hdb : (x == ("__debug__" : Str)) = false := by decide)
    (he : starEach (e :: es) X.env = (false, eval e X.env) :: starEach es X.env := by rfl) (hpl : (backTo pos (starEach es X.env)).any (·.1) = false := by rfl) : JE T X W (.Call (.Name x p) (e :: es) [] pos) (xCallA f dfl fl) := by
  obtain ⟨fd, ds, G, kp, hv, hb⟩ := C
  exact je_callA G hr hm kp hD hb hv tk ha hg hdb he hpl
theorem jc_B (C : CalleeX T X k ad ps f dvs) (hr : RoomG k X.A) (hm : X.mg x = some (.ref ad)) {dfl : List Val} (hD : Dfl T X.K dfl dvs) (tk : Takes X W) (ha : JA T X W (e :: es) fl) (hg : Gl X x := by rfl) (hdb : (x == ("__debug__" : Str)) = false := by decide)
    (he : starEach (e :: es) X.env = (false, eval e X.env) :: starEach es X.env := by rfl) (hpl : (backTo pos (starEach es X.env)).any (·.1) = false := by rfl) : JE T X W (.Call (.Name x p) (e :: es) [] pos) (xCallB T.fn f dfl fl) := by
  obtain ⟨fd, ds, G, kp, hv, hb⟩ := C
  exact je_callBw G hr hm kp hD hb hv tk ha hg hdb he hpl
theorem jc_O (C : CalleeX T X k ad ps f dvs) (hr : RoomG k X.A) (hm : X.mg x = some (.ref ad)) {dfl : List Val} (hD : Dfl T X.K dfl dvs) (tk : Takes X W) (ha : JA T X W (e :: es) fl) (hg : Gl X x := by rfl) (hdb : (x == ("__debug__" : Str)) = false := by decide)
    (he : starEach (e :: es) X.env = (false, eval e X.env) :: starEach es X.env := by rfl) (hpl : (backTo pos (starEach es X.env)).any (·.1) = false := by rfl) : JE T X W (.Call (.Name x p) (e :: es) [] pos) (xCallO T.fn f dfl fl) := by
  obtain ⟨fd, ds, G, kp, hv, hb⟩ := C
  exact pe_imp (pe_callG (E := fun σ c d H => W c d σ H) G hr hg hm kp hb hv (fun σ => passAt tk σ) ha hdb he hpl) fun σ H Q ⟨io, h, F, sg, sr, rs, w⟩ =>
    ⟨io, h, F, sg, sr, rs, Wants.bindOfL w fun vs h1 io1 F1 H1 xs st sr1 vr w1 => callO_ok sr1 (vr.append (hD _ _ _)) w1⟩
end
section
end
end Py
namespace Py
open PySem PySem.Spec PyProof.Rows L2
def Dv1 : He.Dv → Option Val
  | .non => some .non
  | .bl b => some (.bl b)
  | .int i => some (.int i)
  | .str x => some (.str x.cps.toList)
  | _ => none
theorem Dv1_ok {T : Tb} {K : PySem.W.Frag} {d : He.Dv} {v : Val} (e : Dv1 d = some v) (io : Nat → Addr) (n : Nat) (F : Hp) : VR T K io n F v (d.v K) := by
  cases d with
  | non => cases e; exact .non
  | bl b => cases e; exact .bl b
  | int i => cases e; exact .int i
  | str x =>
    cases e
    have : (⟨x.cps.toList.toArray⟩ : Str) = x := by cases x; simp
    show VR T K io n F (.str x.cps.toList) (.str x)
    rw [← this]
    simpa using VR.str (T := T) (K := K) (io := io) (n := n) (F := F) x.cps.toList
  | _ => cases e
theorem Dv1_all {T : Tb} {K : PySem.W.Frag} (io : Nat → Addr) (n : Nat) (F : Hp) : ∀ {ds : List He.Dv} {vs : List Val}, ds.mapM Dv1 = some vs → VRs T K io n F vs (ds.map (He.Dv.v K))
  | [], vs, e => by simp at e; subst e; exact .nil
  | d :: ds, vs, e => by
    rw [List.mapM_cons] at e
    cases q : Dv1 d with
    | none => rw [q] at e; simp at e
    | some v =>
      rw [q] at e
      cases q2 : ds.mapM Dv1 with
      | none => rw [q2] at e; simp at e
      | some us =>
        rw [q2] at e
        simp at e
        subst e
        exact .cons (Dv1_ok q io n F) (Dv1_all io n F q2)
theorem Dfl.of {T : Tb} {K : PySem.W.Frag} {ds : List He.Dv} {vs : List Val} (e : ds.mapM Dv1 = some vs) : Dfl T K vs (ds.map (He.Dv.v K)) := fun io n F => Dv1_all io n F e
def cfB (K : PySem.W.Frag) (x : Str) (fs : List Str) : Bool := (He.Fa.cls x).ok K && fs.all fun f => (He.Fa.noat x f).ok K
def obsM (chk : PySem.W.Frag → Bool) (fn : List He.DefD) (K : PySem.W.Frag) : He.AlD := (chk K && fn.all fun d => d.ok K, fn.map fun d => He.fnW K d.at_)
def SaysM (chk : PySem.W.Frag → Bool) (fn : List He.DefD) (K : PySem.W.Frag) : Prop := obsM chk fn K = He.valD fn
section
variable {ck : PySem.W.Frag → Bool} {fn : List He.DefD} {K : PySem.W.Frag}
theorem SaysM.def_ (c : SaysM ck fn K) (i : Nat) {d : He.DefD} (h : fn[i]? = some d := by rfl) : ∃ fd, FunD K d.name d.qual d.params d.body d.scope (d.dvs K) (d.kws K) (He.fAd K d.at_) fd := by
  have c2 := (He.ba (congrArg (fun z : He.AlD => z.1) c : (ck K && fn.all fun d => d.ok K) = true)).2
  have e : fn.map (fun d => He.fnW K d.at_) = fn.map He.DefD.val := congrArg (fun z : He.AlD => z.2) c
  have e2 := congrArg (fun l : List He.FnW => l[i]?) e
  simp only [List.getElem?_map, h, Option.map_some, Option.some.injEq] at e2
  exact He.DefD.funD e2 (List.all_eq_true.mp c2 d (List.mem_of_getElem? h))
end
theorem all_at {α : Type} {l : List α} {p : α → Bool} (h : l.all p = true) {i : Nat} {a : α} (e : l[i]? = some a) : p a = true := List.all_eq_true.mp h a (List.mem_of_getElem? e)
theorem cx_false {P : Program} {w : World} {H : Hp} {s : Shared} {e : Value} {s' : Shared} (h : L2.CX P w [] H s (fun _ _ _ => False) e s') : False := by
  obtain ⟨_, _, _, _, _, _, _, _, _, _, _, _, z⟩ := h
  exact z
theorem law_end {l : PySem.W.OpenLaw} {k : Nat} {q : Program} {loose : List Str} {XP : (Str → Option Value) → Heap → Prop} {YP : World → Heap → Prop} {d : DefRec} {T : World → Tb} {fl : Fx}
    (hts : ∀ w, (T w).ts = []) (hn : l.most = some 63) (hdf : d.params.defaults = []) (hr : RoomG k callerA)
    (F : ∀ (w : World) (mg : Str → Option Value) (fa : Addr) (h : Heap), YP w h → h.Ns mainGlobals mg → mg d.name = some (.ref fa) →
      ∃ (K : PySem.W.Frag) (fd : FuncData), K.In h ∧ (∀ (s : Shared) (u : Value), BindsTo s fd ⟨[u], []⟩ [("_law_script", u)]) ∧ ∀ base : Heap, K.In base → base.Ns mainGlobals mg → FnG l.prog w K mg base (CX l.prog w) k fa fd ["_law_script"] (spF (T w) K fl))
    (hl : ∀ ns : List Int, ns.length ≤ 63 → (∀ z ∈ ns, Builtin.Int.intBits z ≤ 1048576) → ∃ h', fl [] [.lst (ns.map Val.int)] = .ok (.bl true) h') :
    PySem.W.WalkO q loose XP YP l.row.toRowW d [] (fun f vs => PySem.call f vs) := by
  refine Att.attach_callB hn hdf fun w s0 s1 mg mb fa o pm cd doc a vs ns G Y ho hd hcd hmg hobj hints hlen hbits hg => ?_
  obtain ⟨K, fd, KX, hb, hF⟩ := F w mg fa _ Y G.T.g hmg
  refine law_callG (C := CX l.prog w) KX G.T.g G.T.b G.T.builtins G.T.nolimit hg hobj hints (Nat.le_trans hlen (by decide)) hr hF hb (fun H hO hS => ?_) fun H e s' hc => cx_false hc
  obtain ⟨h', e⟩ := hl ns hlen hbits
  have allInts : ∀ l : List Int, VRs (T w) K (fun _ => 0) 0 H (l.map Val.int) (l.map V.int) := by
    intro l
    induction l with
    | nil => exact .nil
    | cons i l ih => exact .cons (.int i) ih
  refine ⟨fun _ => 0, [], H, [.lst (ns.map Val.int)], ⟨fun _ _ e => e, fun k hk => absurd hk (Nat.not_lt_zero _), fun j k hj => absurd hj (Nat.not_lt_zero _), fun k o e => by simp at e, fun pq hq => by rw [hts] at hq; cases hq⟩, .cons (.lst hS (allInts ns)) .nil, ?_⟩
  rw [e]
  intro io' F' H' x st sr vr
  cases vr
  rfl
section
variable {T : Tb} {X : Cx} {W : WX} {pos : Pos}
theorem takesNo : Takes X Wno := fun u s' ⟨_, _, _, _, _, _, _, _, _, _, _, _, _, _, _, _, z⟩ => False.elim z
theorem js_setLcF (i : Nat) {y : Str} {py spos : Pos} {elt tg iter : Expr} {ifs : List Expr} {scope : Scope} (own : List (Str × Nat)) {fi : Ix} {g : Gx} {t el : Ex} {ws : List Nat} (hc : X.calm = true) (hN : X.N.Nodup) (hi : JI T X W tg iter fi) (ok : BlkOk X.N X.env.scope scope own) (hw : ∀ j, j ∈ ws → j ∈ own.map (·.2))
    (hg : ∀ (s : Shared) (H : Hp) (C : Addr) (cl : List (Str × Addr)) (fp : List Addr), JGw T (X.blk s H scope (compEnvC scope cl C X.env) fp) ws tg g) (ht : ∀ (s : Shared) (H : Hp) (C : Addr) (cl : List (Str × Addr)) (fp : List Addr), JTs T (X.blk s H scope (compEnvC scope cl C X.env) fp) Wno ifs t)
    (he : ∀ (s : Shared) (H : Hp) (C : Addr) (cl : List (Str × Addr)) (fp : List Addr), JE T (X.blk s H scope (compEnvC scope cl C X.env) fp) Wno elt el) (hy : X.N[i]? = some y := by rfl) (hyl : X.env.scope.names.lookup y = some .local := by rfl)
    (hsw : swapsWith (.ListComp elt [⟨tg, iter, ifs, 0⟩] scope pos) (some (.Name y py)) spos.line X.env = pure true := by exact sw_true rfl rfl rfl (by decide +kernel)) (hs : ∀ x, foldedSetIterable iter X.env x = pure x := by intro _; rfl) :
    JS T X W (.Assign [.Name y py] (.ListComp elt [⟨tg, iter, ifs, 0⟩] scope pos) spos) (xSet i (xCompF (own.map (·.2)) fi g t el)) := by
  refine ps_imp (ps_setLc hc hN hy hyl hsw hi ok hg ht he hs) fun D σ H ⟨io, h, F, sg, sr, rs, w⟩ => comp_core (tg := tg) (iter := iter) (elt := elt) (ifs := ifs) (Q := fun _ _ => True) hw sr rs ?_
  unfold xSet xCompF at w
  cases e : xCompL (own.map (·.2)) fi g t el sg h with
  | bad => rw [e] at w; exact w
  | exc c fs h' => rw [e] at w; exact fun io' F' H' d st sr xr => w io' F' H' σ d st sr (rs.step st) xr
  | ok acc h' =>
    rw [e] at w
    intro D io' F' H' xs hD st sr' hd va fd nd
    obtain ⟨s1, s2, mn⟩ := CInv.froze hD st sr' hd fd nd
    exact w _ _ H' _ s1 s2 ((rs.step s1).set i (.lst (SqL.of upd_same) (va.mono (Nat.le_refl _) (fun _ _ => rfl) mn)))
end
end Py
namespace Py
open PySem PySem.Spec PyProof.Rows L2
def seedF (c : Int) : Fx := fnOf 2 3
 (xSeq (xSet 2 (xOp gAdd (xOp gMul (xC (.int 8831)) (xVar 1)) (xC (.int 101))))
 (xSeq (xIfS (xOp gLt (xVar 1) (xCB gLen (xCons (xVar 0) xNil)))
 (xSet 2 (xCB gAbs (xCons (xOp gIx (xVar 0) (xVar 1)) xNil)))
 (xIfS (xOp gGt (xCB gLen (xCons (xVar 0) xNil)) (xC (.int 0)))
 (xSet 2 (xOp gAdd (xVar 2) (xOp gMul (xOp gMod (xCB gInt1 (xCons (xCB gAbs (xCons (xOp gIx (xVar 0) (xOp gMod (xCB gInt1 (xCons (xVar 1) xNil)) (xCB gLen (xCons (xVar 0) xNil)))) xNil)) xNil)) (xC (.int 2147483629))) (xC (.int c)))))
 xSkip))
 (xRet (xLst (xCons (xIf (xOp gGe (xVar 2) (xOp gPow (xC (.int 10)) (xC (.int 18)))) (xVar 2) (xC (.int 0))) (xCons (xOp gAdd (xOp gMod (xCB gInt1 (xCons (xOp gAdd (xOp gMul (xOp gMod (xCB gInt1 (xCons (xVar 2) xNil)) (xC (.int 2147483629))) (xC (.int 48271))) (xOp gMul (xC (.int 37021)) (xVar 1))) xNil)) (xC (.int 2147483629))) (xC (.int 1))) xNil))))))
def chooseF : Fx := fnOf 2 4
 (xSeq (xIfS (xOp gGt (xOp gIx (xVar 0) (xC (.int 0))) (xC (.int 0)))
 (xSeq (xSet 2 (xOp gMod (xCB gInt1 (xCons (xOp gIx (xVar 0) (xC (.int 0))) xNil)) (xVar 1)))
 (xSeq (xAsg (xOp gFdiv (xOp gIx (xVar 0) (xC (.int 0))) (xVar 1)) (gSetIx (xVar 0) (xC (.int 0))))
 (xRet (xVar 2))))
 xSkip)
 (xSeq (xSet 3 (xOp gMod (xCB gInt1 (xCons (xOp gAdd (xOp gMul (xOp gIx (xVar 0) (xC (.int 1))) (xC (.int 40014))) (xC (.int 71))) xNil)) (xC (.int 2147483563))))
 (xSeq (xAsg (xOp gAdd (xOp gMod (xCB gInt1 (xCons (xOp gAdd (xOp gMul (xVar 3) (xC (.int 40692))) (xC (.int 4603))) xNil)) (xC (.int 2147483629))) (xC (.int 1))) (gSetIx (xVar 0) (xC (.int 1))))
 (xRet (xOp gMod (xCB gInt1 (xCons (xOp gFdiv (xOp gAdd (xOp gMul (xVar 3) (xC (.int 2147483647))) (xOp gIx (xVar 0) (xC (.int 1)))) (xC (.int 8191))) xNil)) (xVar 1))))))
def cA (a m : Int) : Int := if 0 < a then a / m else a
def cB (a b : Int) : Int := if 0 < a then b else ((b * 40014 + 71) % 2147483563 * 40692 + 4603) % 2147483629 + 1
def cD (a b m : Int) : Int := if 0 < a then a % m else ((b * 40014 + 71) % 2147483563 * 2147483647 + (((b * 40014 + 71) % 2147483563 * 40692 + 4603) % 2147483629 + 1)) / 8191 % m
theorem cD_lo (a b m : Int) (h0 : 0 < m) : 0 ≤ cD a b m := by
  unfold cD; split
  · exact Int.emod_nonneg _ (by omega)
  · exact Int.emod_nonneg _ (by omega)
theorem cD_hi (a b m : Int) (h0 : 0 < m) : cD a b m < m := by
  unfold cD; split
  · exact Int.emod_lt_of_pos _ h0
  · exact Int.emod_lt_of_pos _ h0
theorem choose_eq (a b m : Int) (h0 : 0 < m) (h1 : m < 1073741824) : chooseF [.lst [.int a, .int b]] [.ref 0, .int m] = .ok (.int (cD a b m)) [.lst [.int (cA a m), .int (cB a b)]] := by
  by_cases hb : 0 < a
  · simp [cA, cB, cD, chooseF, fnOf, xSeq, xIfS, xOp, xVar, xC, xSet, xRet, xAsg, xCB, xCons, xNil, xSkip, Res.bind, Res.bindS, Res.bindL, ResL.bind, ResL.bindL, ResG.bindS, Res.testS, gIx, lstOf, atV, gI, gIc, Res.ofO, Res.ofP, gInt1, gSetIx, mutOf, okMul, hb, h0, h1]
  · simp [cA, cB, cD, chooseF, fnOf, xSeq, xIfS, xOp, xVar, xC, xSet, xRet, xAsg, xCB, xCons, xNil, xSkip, Res.bind, Res.bindS, Res.bindL, ResL.bind, ResL.bindL, ResG.bindS, Res.testS, gIx, lstOf, atV, gI, gIc, Res.ofO, Res.ofP, gInt1, gSetIx, mutOf, okMul, hb, h0, h1]
theorem lst2 (a b : Ex) : xLst (xCons a (xCons b xNil)) = fun sg h => (a sg h).bind fun x h1 => (b sg h1).bind fun y h2 => .ok (.ref h2.length) (h2 ++ [.lst [x, y]]) := by
  funext sg h
  unfold xLst xCons xNil
  cases a sg h with
  | bad => rfl
  | exc c fs h1 => rfl
  | ok x h1 =>
    simp only [Res.bindL, Res.bind]
    cases b sg h1 with
    | bad => rfl
    | exc c fs h1 => rfl
    | ok y h2 => rfl
theorem pow18 : xOp gPow (xC (.int 10)) (xC (.int 18)) = xC (.int 1000000000000000000) := by
  funext sg h
  have e : (10 : Int) ^ ((18 : Int).toNat) = 1000000000000000000 := by decide
  simp [xOp, xC, Res.bind, gIc, Res.ofO]
theorem seed_1 (c : Int) (ns : List Int) (k : Nat) (hk : k < ns.length) : ∃ a b, seedF c [] [.lst (ns.map Val.int), .int k] = .ok (.ref 0) [.lst [.int a, .int b]] := by
  generalize hz : (if ns[k] < 0 then -ns[k] else ns[k]) = z
  unfold seedF
  rw [pow18, lst2]
  by_cases hq : 1000000000000000000 ≤ z
  · refine ⟨z, ((z % 2147483629 * 48271 + 37021 * k) % 2147483629 + 1), ?_⟩
    simp [fnOf, xSeq, xIfS, xOp, xVar, xC, xSet, xRet, xAsg, xCB, xCons, xNil, xSkip, xIf, Res.test, Res.bind, Res.bindS, Res.bindL, ResL.bind, ResL.bindL, ResG.bindS, Res.testS, gIx, lstOf, atV, gI, gIc, Res.ofO, Res.ofP, gInt1, gSetIx, mutOf, okMul, gLen, gAbs, hk, hz, hq]
  · refine ⟨0, ((z % 2147483629 * 48271 + 37021 * k) % 2147483629 + 1), ?_⟩
    simp [fnOf, xSeq, xIfS, xOp, xVar, xC, xSet, xRet, xAsg, xCB, xCons, xNil, xSkip, xIf, Res.test, Res.bind, Res.bindS, Res.bindL, ResL.bind, ResL.bindL, ResG.bindS, Res.testS, gIx, lstOf, atV, gI, gIc, Res.ofO, Res.ofP, gInt1, gSetIx, mutOf, okMul, gLen, gAbs, hk, hz, hq]
theorem xSeq_n {a b : Sx} {sg sg1 : Sg} {h h1 : Hh} (e : a sg h = .next sg1 h1) : xSeq a b sg h = b sg1 h1 := by unfold xSeq; rw [e]
theorem xIfS_f {c : Ex} {a b : Sx} {sg : Sg} {h h1 : Hh} (e : c sg h = .ok (.bl false) h1) : xIfS c a b sg h = b sg h1 := by unfold xIfS; rw [e]; rfl
theorem fnOf_r {np nN : Nat} {b : Sx} {h h1 : Hh} {as : List Val} {v : Val} (hl : as.length = np) (e : b (as.map some ++ List.replicate (nN - np) none) h = .ret v h1) : fnOf np nN b h as = .ok v h1 := by unfold fnOf; rw [if_pos hl, e]
theorem seed_2a (l : List Val) (k : Int) : xSet 2 (xOp gAdd (xOp gMul (xC (.int 8831)) (xVar 1)) (xC (.int 101))) [some (.lst l), some (.int k), none] [] = .next [some (.lst l), some (.int k), some (.int (8831 * k + 101))] [] := by simp [xOp, xVar, xC, xSet, xRet, xCB, xCons, xNil, xIf, Res.test, Res.bind, Res.bindS, Res.bindL, ResL.bind, ResL.bindL, gIx, lstOf, gI, gIc, Res.ofO, Res.ofP, gInt1, gLen, okMul]
theorem seed_2b (l : List Val) (k z : Int) (hk : ¬ k < l.length) : xOp gLt (xVar 1) (xCB gLen (xCons (xVar 0) xNil)) [some (.lst l), some (.int k), some (.int z)] [] = .ok (.bl false) [] := by simp [xOp, xVar, xC, xSet, xRet, xCB, xCons, xNil, xIf, Res.test, Res.bind, Res.bindS, Res.bindL, ResL.bind, ResL.bindL, gIx, lstOf, gI, gIc, Res.ofO, Res.ofP, gInt1, gLen, okMul]; omega
theorem seed_2c (l : List Val) (k z : Int) (hk : l = []) : xOp gGt (xCB gLen (xCons (xVar 0) xNil)) (xC (.int 0)) [some (.lst l), some (.int k), some (.int z)] [] = .ok (.bl false) [] := by subst hk; rfl
theorem seed_2d (l : List Val) (k z : Int) : ∃ a b, (xRet (fun sg h => (xIf (xOp gGe (xVar 2) (xC (.int 1000000000000000000))) (xVar 2) (xC (.int 0)) sg h).bind fun x h1 => (xOp gAdd (xOp gMod (xCB gInt1 (xCons (xOp gAdd (xOp gMul (xOp gMod (xCB gInt1 (xCons (xVar 2) xNil)) (xC (.int 2147483629))) (xC (.int 48271))) (xOp gMul (xC (.int 37021)) (xVar 1))) xNil)) (xC (.int 2147483629))) (xC (.int 1)) sg h1).bind fun y h2 => .ok (.ref h2.length) (h2 ++ [.lst [x, y]]))) [some (.lst l), some (.int k), some (.int z)] [] = .ret (.ref 0) [.lst [.int a, .int b]] := by
  by_cases hq : 1000000000000000000 ≤ z
  · refine ⟨z, ((z % 2147483629 * 48271 + 37021 * k) % 2147483629 + 1), ?_⟩
    simp [xOp, xVar, xC, xSet, xRet, xCB, xCons, xNil, xIf, Res.test, Res.bind, Res.bindS, Res.bindL, ResL.bind, ResL.bindL, gIx, lstOf, gI, gIc, Res.ofO, Res.ofP, gInt1, gLen, okMul, hq]
  · refine ⟨0, ((z % 2147483629 * 48271 + 37021 * k) % 2147483629 + 1), ?_⟩
    simp [xOp, xVar, xC, xSet, xRet, xCB, xCons, xNil, xIf, Res.test, Res.bind, Res.bindS, Res.bindL, ResL.bind, ResL.bindL, gIx, lstOf, gI, gIc, Res.ofO, Res.ofP, gInt1, gLen, okMul, hq]
theorem seed_2 (c : Int) (k : Nat) : ∃ a b, seedF c [] [.lst (([] : List Int).map Val.int), .int k] = .ok (.ref 0) [.lst [.int a, .int b]] := by
  obtain ⟨a, b, e⟩ := seed_2d [] k (8831 * k + 101)
  refine ⟨a, b, ?_⟩
  unfold seedF
  rw [pow18, lst2]
  refine fnOf_r rfl ?_
  refine (xSeq_n (seed_2a [] k)).trans ?_
  refine (xSeq_n ((xIfS_f (seed_2b [] k _ (by simp))).trans (xIfS_f (seed_2c [] k _ rfl)))).trans ?_
  exact e
theorem seed_3 (c : Int) (hc0 : 0 < c ∧ c < 18446744073709551616) (ns : List Int) (k : Nat) (hk : ¬ k < ns.length) (hp : 0 < ns.length) : ∃ a b, seedF c [] [.lst (ns.map Val.int), .int k] = .ok (.ref 0) [.lst [.int a, .int b]] := by
  have hj : k % ns.length < ns.length := Nat.mod_lt _ hp
  have hj' : ((k : Int) % (ns.length : Int)).toNat = k % ns.length := by rw [← Int.natCast_emod]; rfl
  generalize hz : (if ns[k % ns.length] < 0 then -ns[k % ns.length] else ns[k % ns.length]) = z
  have hj0 : 0 ≤ (k : Int) % (ns.length : Int) := Int.emod_nonneg _ (by omega)
  have hc1 : -18446744073709551616 < c := by omega
  have hc2 := hc0.2
  unfold seedF
  rw [pow18, lst2]
  generalize hy : 8831 * (k : Int) + 101 + z % 2147483629 * c = y
  by_cases hq : 1000000000000000000 ≤ y
  · refine ⟨y, ((y % 2147483629 * 48271 + 37021 * k) % 2147483629 + 1), ?_⟩
    simp [fnOf, xSeq, xIfS, xOp, xVar, xC, xSet, xRet, xAsg, xCB, xCons, xNil, xSkip, xIf, Res.test, Res.bind, Res.bindS, Res.bindL, ResL.bind, ResL.bindL, ResG.bindS, Res.testS, gIx, lstOf, atV, gI, gIc, Res.ofO, Res.ofP, gInt1, gSetIx, mutOf, okMul, gLen, gAbs, hk, hq, hp, hj, hj', hj0, hz, hc1, hc2, hy]
  · refine ⟨0, ((y % 2147483629 * 48271 + 37021 * k) % 2147483629 + 1), ?_⟩
    simp [fnOf, xSeq, xIfS, xOp, xVar, xC, xSet, xRet, xAsg, xCB, xCons, xNil, xSkip, xIf, Res.test, Res.bind, Res.bindS, Res.bindL, ResL.bind, ResL.bindL, ResG.bindS, Res.testS, gIx, lstOf, atV, gI, gIc, Res.ofO, Res.ofP, gInt1, gSetIx, mutOf, okMul, gLen, gAbs, hk, hq, hp, hj, hj', hj0, hz, hc1, hc2, hy]
theorem seed_ok (c : Int) (hc0 : 0 < c ∧ c < 18446744073709551616) (ns : List Int) (k : Nat) : ∃ a b, seedF c [] [.lst (ns.map Val.int), .int k] = .ok (.ref 0) [.lst [.int a, .int b]] := by
  by_cases hk : k < ns.length
  · exact seed_1 c ns k hk
  · by_cases hn : ns = []
    · subst hn; exact seed_2 c k
    · exact seed_3 c hc0 ns k hk (List.length_pos_iff.mpr hn)
theorem pureVs_ints : ∀ ns : List Int, pureVs (ns.map Val.int) = true
  | [] => rfl
  | n :: r => by simp [pureVs, pureV, pureVs_ints r]
theorem callO_seed (T : Nat → List Str) (c : Int) (hc0 : 0 < c ∧ c < 18446744073709551616) (ns : List Int) (k : Nat) (h : Hh) : ∃ a b, callO T (seedF c) [.lst (ns.map Val.int), .int k] h = .ok (.ref h.length) (h ++ [.lst [.int a, .int b]]) := by
  obtain ⟨a, b, e⟩ := seed_ok c hc0 ns k
  refine ⟨a, b, ?_⟩
  unfold callO
  rw [if_pos (by simp [pureVs, pureV, pureVs_ints]), e]
  rfl
theorem callB_choose (T : Nat → List Str) (a b m : Int) (h0 : 0 < m) (h1 : m < 1073741824) (k : Nat) (h : Hh) (hk : h[k]? = some (.lst [.int a, .int b])) : callB T chooseF [.ref k, .int m] h = .ok (.int (cD a b m)) (h.set k (.lst [.int (cA a m), .int (cB a b)])) := by
  unfold callB
  simp only [hk]
  rw [if_pos (by rfl), choose_eq a b m h0 h1]
  rfl
theorem rng_mem : ∀ (n : Nat) (lo : Int) (v : Val), v ∈ rng lo n → ∃ i : Nat, i < n ∧ v = .int (lo + i)
  | 0, lo, v, h => by simp [rng] at h
  | n + 1, lo, v, h => by
    simp [rng] at h
    rcases h with h | h
    · exact ⟨0, by omega, by simp [h]⟩
    · obtain ⟨i, hi, e⟩ := rng_mem n (lo + 1) v h
      exact ⟨i + 1, by omega, by rw [e]; congr 1; omega⟩
end Py
namespace Py
open PySem PySem.Spec PyProof.Rows L2
section
variable {T : Tb} {K : PySem.W.Frag}
def dec (i : Int) : List Nat := (Str.ofString (toString i)).cps.toList
def okDec (i : Int) : Bool := decide (i.natAbs < 1000000000000000000000000)
theorem okDec_log {i : Int} (h : okDec i = true) : i.natAbs.log2 < 1920 := by
  have h := of_decide_eq_true h
  by_cases h0 : i.natAbs = 0
  · rw [h0]; decide
  · rw [Nat.log2_lt h0]
    exact Nat.lt_trans h (by decide +kernel)
theorem str_cat (s t : List Nat) : (⟨s.toArray⟩ : Str) ++ ⟨t.toArray⟩ = ⟨(s ++ t).toArray⟩ := by
  show (⟨s.toArray ++ t.toArray⟩ : Str) = _
  simp
theorem str_len (s : List Nat) : (⟨s.toArray⟩ : Str).length = s.length := by show s.toArray.size = _; simp
def gPlus : G2 := fun h v u => match v, u with
  | .int i, .int j => some (.int (i + j))
  | .str s, .str t => if s.length + t.length ≤ 1000000 then some (.str (s ++ t)) else none
  | .tup xs, .tup ys => if xs.length + ys.length ≤ 1000000 then some (.tup (xs ++ ys)) else none
  | _, _ => none
def rPlus (K : PySem.W.Frag) : R2 := fun x y H Q => rI0 (fun i j => .int (i + j)) x y H Q ∨ (fun x y H Q => (∃ i j, x = V.str i ∧ y = V.str j ∧ i.length + j.length ≤ sizeLine ∧ Q (V.str (i ++ j)) H) ∨ rCatA K x y H Q) x y H Q
theorem op_plus {X : Cx} : OpR X (binaryOp .Add) (rPlus X.K) := OpR.or op_add (OpR.or op_add_str op_catA)
theorem lift_plus : Lift2 T K (rPlus K) gPlus := by
  intro io h F H v u x y z Q sr vr ur e q
  unfold gPlus at e
  split at e
  · cases e; cases vr; cases ur
    exact .inl ⟨_, _, rfl, rfl, q F H _ .refl sr (.int _)⟩
  · rename_i s t
    split at e
    · rename_i hz
      cases e; cases vr; cases ur
      refine .inr (.inl ⟨_, _, rfl, rfl, by rw [str_len, str_len]; exact sizeOk hz, ?_⟩)
      rw [str_cat]
      exact q F H _ .refl sr (.str _)
    · cases e
  · rename_i xs ys
    split at e
    · rename_i hz
      cases e
      cases vr with
      | @tup _ a us sa ra =>
        cases ur with
        | @tup _ b ws sb rb =>
          refine .inr (.inr ⟨a, b, us, ws, rfl, rfl, sqT_mono sr.sub sa, sqT_mono sr.sub sb, by rw [← ra.length, ← rb.length]; exact sizeOk hz, fun e => ?_, fun _ e => ?_, fun _ _ p hp => ?_⟩)
          · subst e; cases ra
            exact q F H _ .refl sr (.tup sb rb)
          · subst e; cases rb
            exact q F H _ .refl sr (by rw [List.append_nil]; exact .tup sa ra)
          · exact q _ _ _ (sr.allocStep hp _) (sr.alloc hp _) (.tup (.inl (.inl upd_same)) ((ra.append rb).step (sr.allocStep hp (.tup (us ++ ws)))))
    · cases e
  · cases e
def cutL {α : Type} (xs : List α) (lo hi : Option Int) : List α := (xs.drop (HT.sIx xs.length 0 lo)).take (HT.sIx xs.length xs.length hi - HT.sIx xs.length 0 lo)
theorem VRs.cut {io : Nat → Addr} {n : Nat} {F : Hp} {vs : List Val} {xs : List V} (r : VRs T K io n F vs xs) (lo hi : Option Int) : VRs T K io n F (cutL vs lo hi) (cutV xs lo hi) := by
  unfold cutL cutV
  rw [r.length]
  exact (r.drop _).take _
theorem cutL_all {α : Type} {xs : List α} {lo hi : Option Int} (h : HT.sIx xs.length 0 lo = 0 ∧ HT.sIx xs.length xs.length hi = xs.length) : cutL xs lo hi = xs := by
  unfold cutL
  rw [h.1, h.2]
  simp
def partOf : Option Val → Option (Option Int)
  | none => some none
  | some (.int i) => some (some i)
  | _ => none
abbrev Ox := Sg → Hh → Option (Option Val × Hh)
def oNone : Ox := fun _ h => some (none, h)
def oSome (e : Ex) : Ox := fun sg h => match e sg h with
  | .ok v h1 => some (some v, h1)
  | _ => none
def slV (h : Hh) (v : Val) (lo hi : Option Int) : Option Val := match v with
  | .str s => if s.length ≤ 1000000 then some (.str (cutL s lo hi)) else none
  | .tup xs => some (.tup (cutL xs lo hi))
  | v => (match lstOf h v with
    | some xs => some (.lst (cutL xs lo hi))
    | none => none)
def rSl (K : PySem.W.Frag) : V → Option Int → Option Int → Hp → VK → Prop := fun x lo hi H Q => rSlS x lo hi H Q ∨ (fun x lo hi H Q => rSlA K x lo hi H Q ∨ rSlL K x lo hi H Q) x lo hi H Q
theorem sl_any {X : Cx} : SlR X (rSl X.K) := SlR.or sl_str (SlR.or sl_tupA sl_list)
theorem slV_ok {io : Nat → Addr} {h : Hh} {F H : Hp} {v z : Val} {x : V} {lo hi : Option Int} {Q : VK} (sr : SR T K io h F H) (vr : VR T K io h.length F v x) (e : slV h v lo hi = some z)
    (q : ∀ F' H' x', Step io h.length F H io h.length F' H' → SR T K io h F' H' → VR T K io h.length F' z x' → Q x' H') : rSl K x lo hi H Q := by
  unfold slV at e
  have viaL : (match lstOf h v with
    | some xs => some (Val.lst (cutL xs lo hi))
    | none => none) = some z → rSl K x lo hi H Q := fun e => by
    cases el : lstOf h v with
    | none => rw [el] at e; cases e
    | some vs =>
      rw [el] at e
      cases e
      obtain ⟨a, xs, rfl, sq, rr⟩ := lstOf_ok sr vr el
      exact .inr (.inr ⟨a, xs, rfl, sq, fun p hp => q _ _ _ (sr.allocStep hp _) (sr.alloc hp _) (.lst (.inl (.inl upd_same)) ((rr.cut lo hi).step (sr.allocStep hp (.lst (cutV xs lo hi)))))⟩)
  cases vr with
  | str s =>
    dsimp only at e
    split at e
    · rename_i hz
      cases e
      refine .inl ⟨_, rfl, by rw [str_len]; exact sizeOk hz, ?_⟩
      have ec : cutS ⟨s.toArray⟩ lo hi = ⟨(cutL s lo hi).toArray⟩ := by
        unfold cutS cutL
        rw [str_len]
      rw [ec]
      exact q F H _ .refl sr (.str _)
    · cases e
  | @tup vs a xs sq rr =>
    cases e
    refine .inr (.inl ⟨a, xs, rfl, sqT_mono sr.sub sq, fun w => ?_, fun w p hp => ?_⟩)
    · refine q F H _ .refl sr ?_
      rw [cutL_all (by rw [rr.length]; exact w)]
      exact .tup sq rr
    · exact q _ _ _ (sr.allocStep hp _) (sr.alloc hp _) (.tup (.inl (.inl upd_same)) ((rr.cut lo hi).step (sr.allocStep hp (.tup (cutV xs lo hi)))))
  | ref k hk => exact viaL e
  | lst sq rr => exact viaL e
  | non => exact viaL e
  | bl b => exact viaL e
  | int j => exact viaL e
  | obj a b c d => exact viaL e
  | glo g => exact viaL e
  | dct _ _ _ _ _ => exact viaL e
def xSlice (e : Ex) (lo hi : Ox) : Ex := fun sg h => (e sg h).bind fun v h1 => match lo sg h1 with
  | some (a, h2) => (match hi sg h2 with
    | some (b, h3) => (match partOf a, partOf b with
      | some l, some u => .ofO (slV h3 v l u) h3
      | _, _ => .bad)
    | none => .bad)
  | none => .bad
end
section
variable {T : Tb} {X : Cx} {W : WX} {pos : Pos}
def JO (T : Tb) (X : Cx) (e : Option Expr) (f : Ox) : Prop := ∃ t, PO X e t ∧ ∀ σ H io h F sg a h1 l (R : Option Int → Hp → Prop), SR T X.K io h F H → RSt T X.K io h.length F sg σ → f sg h = some (a, h1) → partOf a = some l →
  (∀ io1 F1 H1, Step io h.length F H io1 h1.length F1 H1 → SR T X.K io1 h1 F1 H1 → R l H1) → t σ H R
theorem jo_none : JO T X none oNone := ⟨_, po_none, fun σ H io h F sg a h1 l R sr rs e ea q => by
  cases e
  cases ea
  exact q io F H .refl sr⟩
theorem jo_some {e : Expr} {f : Ex} (he : JE T X Wno e f) : JO T X (some e) (oSome f) := ⟨_, po_some he, fun σ H io h F sg a h1 l R sr rs e ea q => by
  unfold oSome at e
  cases ef : f sg h with
  | bad => rw [ef] at e; cases e
  | exc c fs h' => rw [ef] at e; cases e
  | ok v h' =>
    rw [ef] at e
    cases e
    refine ⟨io, h, F, sg, sr, rs, ?_⟩
    rw [ef]
    intro io1 F1 H1 x st sr1 vr
    cases vr with
    | int i => cases ea; exact ⟨i, rfl, q io1 F1 H1 st sr1⟩
    | _ => cases ea⟩
theorem je_slice {e : Expr} {fe : Ex} {lo hi : Option Expr} {fl fh : Ox} {p2 : Pos} (he : JE T X W e fe) (hl : JO T X lo fl) (hh : JO T X hi fh) : JE T X W (.Subscript e (.Slice lo hi none p2) pos) (xSlice fe fl fh) := by
  obtain ⟨tl, pl, ql⟩ := hl
  obtain ⟨th, ph, qh⟩ := hh
  refine pe_imp (pe_slice sl_any he pl ph) fun σ H Q ⟨io, h, F, sg, sr, rs, w⟩ => ⟨io, h, F, sg, sr, rs, Wants.bind w fun v h1 io1 F1 H1 x st sr1 vr w1 => ?_⟩
  cases el : fl sg h1 with
  | none => rw [el] at w1; exact w1.elim
  | some z =>
    obtain ⟨a, h2⟩ := z
    rw [el] at w1
    dsimp only at w1
    cases eh : fh sg h2 with
    | none => rw [eh] at w1; exact w1.elim
    | some z =>
      obtain ⟨b, h3⟩ := z
      rw [eh] at w1
      dsimp only at w1
      cases pa : partOf a with
      | none => rw [pa] at w1; exact w1.elim
      | some l =>
        cases pb : partOf b with
        | none => rw [pa, pb] at w1; exact w1.elim
        | some u =>
          rw [pa, pb] at w1
          dsimp only at w1
          refine ql σ H1 io1 h1 F1 sg a h2 l _ sr1 (rs.step st) el pa fun io2 F2 H2 st2 sr2 => ?_
          refine qh σ H2 io2 h2 F2 sg b h3 u _ sr2 ((rs.step st).step st2) eh pb fun io3 F3 H3 st3 sr3 => ?_
          cases es : slV h3 v l u with
          | none => rw [es] at w1; exact w1.elim
          | some z =>
            rw [es] at w1
            refine slV_ok sr3 ((vr.step st2).step st3) es fun F' H' x' st4 sr4 vr4 => ?_
            exact w1 io3 F' H' x' ((st2.trans sr2 st3).trans sr3 st4) sr4 vr4
end
end Py
namespace Py
open PySem PySem.Spec PyProof.Rows L2
section
variable {T : Tb} {X : Cx} {W : WX} {pos : Pos}
def xJ : List Ex → List Nat → Ex
  | [], acc => fun _ h => .ok (.str acc) h
  | f :: r, acc => fun sg h => (f sg h).bind fun v h1 => match v with
    | .str s => if (acc ++ s).length ≤ 1000000 then xJ r (acc ++ s) sg h1 else .bad
    | _ => .bad
def unS (s : Str) : List Nat := s.cps.toList
theorem unS_eq (s : Str) : (⟨(unS s).toArray⟩ : Str) = s := by unfold unS; simp
theorem VR.unS {K : PySem.W.Frag} {io : Nat → Addr} {n : Nat} {F : Hp} (s : Str) : VR T K io n F (.str (Py.unS s)) (.str s) := by
  have h := VR.str (T := T) (K := K) (io := io) (n := n) (F := F) (Py.unS s)
  rw [unS_eq] at h
  exact h
theorem VRs.unS {K : PySem.W.Frag} {io : Nat → Addr} {n : Nat} {F : Hp} : ∀ l : List Str, VRs T K io n F (l.map fun s => Val.str (Py.unS s)) (l.map V.str)
  | [] => .nil
  | s :: r => .cons (VR.unS s) (VRs.unS r)
theorem one_of {K : PySem.W.Frag} {io : Nat → Addr} {n : Nat} {F : Hp} {u : Val} {xs : List V} (r : VRs T K io n F [u] xs) : ∃ x, xs = [x] ∧ VR T K io n F u x := by
  cases r with
  | cons a t => cases t; exact ⟨_, rfl, a⟩
end
end Py
namespace Py
open PySem PySem.Spec PyProof.Rows L2
section
variable {T : Tb} {X : Cx} {W : WX} {pos : Pos}
abbrev STab := List (Nat × Fx)
end
end Py
namespace Py
open PySem PySem.Spec PyProof.Rows L2 Builtin
section
variable {prog : Program} {w : World} {A : Around} {E : Value → Shared → Prop} {s : Shared} {K : PySem.W.Frag} {x C f : Addr} {ox : PySem.Obj} {od : Option PySem.Obj} {b : Value}
end
section
variable {T : Tb} {X : Cx} {W : WX} {pos : Pos}
section
variable {a b : Expr} {fa fb : Ex} {tb : STab}
end
end
end Py
namespace Py
open PySem PySem.Spec PyProof.Rows L2
structure IsOk (T : Tb) (K : PySem.W.Frag) (x : Str) (l : List (Nat × Bool)) : Prop where
  kd : ∀ k : Kd, PySem.W.kitOne K (.type k.name) (.ref (He.ga K x)) = some false
  own : ∀ c b, l.lookup c = some b → PySem.W.kitOne K (.ref (He.ga K (T.cn c))) (.ref (He.ga K x)) = some b ∧ CTy K (He.ga K (T.cn c))
def isB (T : Nat → Str) (K : PySem.W.Frag) (x : Str) (l : List (Nat × Bool)) : Bool := (kds.all fun k => decide (PySem.W.kitOne K (.type k.name) (.ref (He.ga K x)) = some false)) && l.all fun p => decide (PySem.W.kitOne K (.ref (He.ga K (T p.1))) (.ref (He.ga K x)) = some p.2) && ctyB K (T p.1)
theorem lookup_mem {l : List (Nat × Bool)} {c : Nat} {b : Bool} (h : l.lookup c = some b) : (c, b) ∈ l := by
  induction l with
  | nil => cases h
  | cons p l ih =>
    obtain ⟨c', b'⟩ := p
    by_cases hc : c = c'
    · subst hc
      simp only [List.lookup_cons_self] at h
      cases h
      exact List.Mem.head _
    · have z : (c == c') = false := beq_false_of_ne hc
      simp only [List.lookup_cons, z] at h
      exact List.Mem.tail _ (ih h)
section
variable {T : Tb} {X : Cx} {W : WX} {e : Expr} {fe : Ex} {pos p1 p2 : Pos}
end
structure DefP where
  adr : PySem.W.Frag → Addr
  d : He.DefD
def fnWA (K : PySem.W.Frag) (a : Addr) : He.FnW := match K.lookup a with
  | some ⟨_, _, .func fd, _⟩ => some (fd.name, fd.qualname, fd.params, fd.body, fd.scope, fd.globals, fd.closure, fd.builtins)
  | _ => none
def DefP.ok (K : PySem.W.Frag) (d : DefP) : Bool := PySem.W.keepIn K (.ref (d.adr K)) && (match K.lookup (d.adr K) with
  | some ⟨_, _, .func fd, _⟩ => PySem.W.codeIn K fd.code d.d.qual && (He.dflB K fd.defaults (d.d.dvs K) && He.kwdB K fd.kwdefaults (d.d.kws K))
  | _ => false)
theorem DefP.funD {K : PySem.W.Frag} {d : DefP} (e : fnWA K (d.adr K) = d.d.val) (c : d.ok K = true) : ∃ fd, FunD K d.d.name d.d.qual d.d.params d.d.body d.d.scope (d.d.dvs K) (d.d.kws K) (d.adr K) fd := by
  obtain ⟨kp, c2⟩ := He.ba c
  unfold fnWA at e
  cases q : K.lookup (d.adr K) with
  | none => rw [q] at c2; cases c2
  | some o =>
    obtain ⟨oc, od, dt, osl⟩ := o
    rw [q] at c2 e
    cases dt with
    | func fd =>
      obtain ⟨m1, m2, m3, m4, m5, m6, m7, m8, m9, m10, m11, m12, m13, m14, m15⟩ := fd
      have e2 : (some (m1, m2, m3, m4, m5, m6, m7, m15) : He.FnW) = some (d.d.name, d.d.qual, d.d.params, .stmts d.d.body, d.d.scope, mainGlobals, [], builtinsNs) := e
      simp only [Option.some.injEq, Prod.mk.injEq] at e2
      obtain ⟨g1, g2, g3, g4, g5, g6, g7, g8⟩ := e2
      subst g1 g2 g3 g4 g5 g6 g7 g8
      have c3 : (PySem.W.codeIn K m13 d.d.qual && (He.dflB K m8 (d.d.dvs K) && He.kwdB K m9 (d.d.kws K))) = true := c2
      obtain ⟨l1, l2⟩ := He.ba c3
      obtain ⟨l3, l4⟩ := He.ba l2
      exact ⟨_, ⟨oc, od, m8, m9, m10, m11, m12, m13, m14, osl, rfl, q, l1, He.dflB_ok l3, He.kwdB_ok l4⟩, kp⟩
    | _ => cases c2
def valP (fn : List DefP) : He.AlD := (true, fn.map fun d => d.d.val)
def obsP (chk : PySem.W.Frag → Bool) (fn : List DefP) (K : PySem.W.Frag) : He.AlD := (chk K && fn.all fun d => d.ok K, fn.map fun d => fnWA K (d.adr K))
def SaysP (chk : PySem.W.Frag → Bool) (fn : List DefP) (K : PySem.W.Frag) : Prop := obsP chk fn K = valP fn
section
variable {ck : PySem.W.Frag → Bool} {fn : List DefP} {K : PySem.W.Frag}
theorem SaysP.both (c : SaysP ck fn K) : ck K = true ∧ (fn.all fun d => d.ok K) = true := He.ba (congrArg (fun z : He.AlD => z.1) c : (ck K && fn.all fun d => d.ok K) = true)
theorem SaysP.def_ (c : SaysP ck fn K) (i : Nat) {d : DefP} (h : fn[i]? = some d := by rfl) : ∃ fd, FunD K d.d.name d.d.qual d.d.params d.d.body d.d.scope (d.d.dvs K) (d.d.kws K) (d.adr K) fd := by
  have e : fn.map (fun d => fnWA K (d.adr K)) = fn.map fun d => d.d.val := congrArg (fun z : He.AlD => z.2) c
  have e2 := congrArg (fun l : List He.FnW => l[i]?) e
  simp only [List.getElem?_map, h, Option.map_some, Option.some.injEq] at e2
  exact DefP.funD e2 (List.all_eq_true.mp c.both.2 d (List.mem_of_getElem? h))
end
def propB (K : PySem.W.Frag) (x m : Str) : Bool := He.eqO (PySem.W.findIn K (.ref (He.ga K x)) m) (some (some (.ref (He.ma K (He.ga K x) m)))) &&
  (He.eqO (PySem.W.specialIn K (.ref (He.ma K (He.ga K x) m)) "__get__") (some (some (.builtin "property.__get__"))) && (decide (PySem.W.takesIn K (.ref (He.ma K (He.ga K x) m)) = some true) &&
  (match PySem.W.recIn K (He.ma K (He.ga K x) m) "property" with | some (.ref _ :: _) => true | _ => false)))
end Py
namespace Py
open PySem PySem.Spec PyProof.Rows L2
section
variable {T : Tb} {X : Cx} {W : WX} {pos : Pos}
end
end Py
namespace Py
open PySem PySem.Spec PyProof.Rows L2
section
variable {T : Tb} {X : Cx} {W : WX} {pos : Pos}
def rRepr (K : PySem.W.Frag) : List V → Hp → VK → Prop := fun xs H Q => ∃ x d, xs = [x] ∧ Dp K H x d ∧ SeqAt.shaped d = true ∧ d.showable = true ∧ d.shown.length ≤ sizeLine ∧ Q (.str d.shown) H
theorem shaped_lay {d : PyData} (h : SeqAt.shaped d = true) : PyData.canLay0 d = true ∧ d.depth ≤ 64 := by
  unfold SeqAt.shaped at h
  obtain ⟨a, b⟩ := Bool.and_eq_true_iff.mp h
  exact ⟨a, by have := of_decide_eq_true b; omega⟩
theorem cr_repr {k : Nat} (hr : RoomG k X.A) : CallR X (.builtin "repr") (rRepr X.K) := by
  rintro pins s σ H xs us Q I vals ⟨x, d, rfl, hd, sh, sw, sz, q⟩
  cases vals with
  | cons r0 t0 =>
  cases t0
  obtain ⟨lay, dep⟩ := shaped_lay sh
  have hu := hr.un
  have big : ∀ {a : Addr}, x = .ref a → wpAny (model X.prog X.w) X.A (call (.builtin "repr") [.ref a]) (EP X pins σ Q) X.xe s := by
    rintro a rfl
    obtain ⟨as, r⟩ := Dp.reads I d _ (.ref a) hd rfl
    exact repr_of_reads' r sw (PyData.noDict_hsm (PyData.hasDict_of_canLay d lay)) hr.gd (by omega) (fun _ _ e => e) (fun h' u tk hk => ⟨.str d.shown, H, I.kept hk, ⟨u, rfl⟩, q⟩) sz
  cases hd with
  | non =>
    cases r0
    exact PySem.P.repr_of_none ⟨.str _, H, I.tok _, ⟨_, rfl⟩, q⟩
  | bl b =>
    cases r0
    exact PySem.P.repr_of_bool ⟨.str _, H, I.tok _, ⟨_, rfl⟩, q⟩
  | int i =>
    obtain ⟨t, rfl⟩ := r0
    exact PySem.P.repr_of_int (of_decide_eq_true sw) ⟨.str _, H, I.tok _, ⟨_, rfl⟩, q⟩
  | str y =>
    obtain ⟨t, rfl⟩ := r0
    exact PySem.P.repr_of_str ⟨.str _, H, I.tok _, ⟨_, rfl⟩, q⟩ sz
  | lst a b =>
    cases r0
    exact big rfl
  | tup a b =>
    cases r0
    exact big rfl
def reprV (h : Hh) (v : Val) : Option Val := match dat h 30 v with
  | some d => if d.showable = true ∧ d.shown.length ≤ 1000000 then some (.str (unS d.shown)) else none
  | none => none
def gRepr : GC := fun h vs => match vs with
  | [v] => (reprV h v).map fun z => (z, h)
  | _ => none
theorem lift_repr {K : PySem.W.Frag} : LiftC T K (rRepr K) gRepr := by
  intro io h F H vs xs z h' Q sr rr e q
  cases rr with
  | nil => cases e
  | cons a t =>
    cases t with
    | cons b u => cases e
    | nil =>
      unfold gRepr at e
      obtain ⟨z', e1, e2⟩ := map_some e
      cases e2
      unfold reprV at e1
      cases ed : dat h 30 _ with
      | none => rw [ed] at e1; cases e1
      | some d =>
        rw [ed] at e1
        dsimp only at e1
        split at e1
        · rename_i hz
          cases e1
          obtain ⟨a1, a2, a3⟩ := dat_ok sr 30 _ d _ ed a
          exact ⟨_, d, rfl, a1, shaped_of (by omega) a2 a3, hz.1, sizeOk hz.2, q io F H _ .refl sr (VR.unS _)⟩
        · cases e1
def gExtend : GM := fun h v vs => match vs with
  | [u] => (match mutOf h v, mutOf h u with
    | some (k, us), some (j, ws) => if k ≠ j ∧ us.length + ws.length ≤ 1000000 then some (.non, h.set k (.lst (us ++ ws))) else none
    | _, _ => none)
  | _ => none
theorem lift_extend {K : PySem.W.Frag} : LiftM T K rExtend gExtend := by
  intro io h F H v x vs xs z h' Q sr vr rr e q
  unfold gExtend at e
  split at e
  · rename_i u
    obtain ⟨y, rfl, ur⟩ := one_of rr
    cases em : mutOf h v with
    | none => rw [em] at e; cases e
    | some p =>
      obtain ⟨k, us⟩ := p
      cases en : mutOf h u with
      | none => rw [em, en] at e; cases e
      | some p2 =>
        obtain ⟨j, ws⟩ := p2
        rw [em, en] at e
        dsimp only at e
        split at e
        · rename_i hz
          cases e
          obtain ⟨xs, rfl, hk, ea, ra, go⟩ := mutOf_ok sr vr em
          obtain ⟨ys, rfl, hj, eb, rb, _⟩ := mutOf_ok sr ur en
          obtain ⟨s1, s2⟩ := go (us ++ ws) (xs ++ ys) (ra.append rb)
          exact ⟨io k, io j, xs, ys, rfl, rfl, ea, eb, by rw [← ra.length, ← rb.length]; exact sizeOk hz.2, q io F _ _ s1 s2 .non⟩
        · cases e
  · cases e
section
variable {a b : Expr} {fa fb : Ex} {p p2 pos2 : Pos}
end
end
end Py
namespace Py
open PySem PySem.Spec PyProof.Rows L2
section
variable {T : Tb} {X : Cx} {W : WX} {pos : Pos}
section
variable {pl : Sem Bool} {C g pa : Addr} {mc : Value} {m : Str} {o e : Expr} {es : List Expr} {apos : Pos} {k : Nat} {fd : FuncData} {ps : List Str} {ds : List Value} {dvs : List V} {sp : Sp} {E : L2.St → XK} {ta : TE} {t : TA}
end
end
end Py
namespace Py
open PySem PySem.Spec PyProof.Rows L2
def cmA (K : PySem.W.Frag) (x m : Str) : Addr := match PySem.W.recIn K (He.ma K (He.ga K x) m) "classmethod" with
  | some (.ref g :: _) => g
  | _ => 0
def cmB (K : PySem.W.Frag) (x m : Str) : Bool := PySem.W.readsIn K (He.ga K x) (.type "type") && (He.eqO (PySem.W.specialIn K (.ref (He.ga K x)) "__getattribute__") (some (some (.builtin "type.__getattribute__"))) &&
  ((match PySem.W.findCls K (.ref (He.ga K x)) (.type "type") m with
    | some (.get a b c d) => decide (a = .builtin "classmethod.__get__") && (decide (b = .ref (He.ma K (He.ga K x) m)) && (decide (c = .none) && decide (d = .ref (He.ga K x))))
    | _ => false) && ((match PySem.W.recIn K (He.ma K (He.ga K x) m) "classmethod" with | some (.ref _ :: _) => true | _ => false) && PySem.W.fnIn K (cmA K x m))))
def tup0B (K : PySem.W.Frag) (a : Addr) : Bool := match K.lookup a with
  | some ⟨.type c, _, .seq its _, _⟩ => decide (c = "tuple") && decide (its.size = 0)
  | _ => false
section
variable {T : Tb} {X : Cx} {W : WX} {pos : Pos}
section
variable {a b : Expr} {fa fb : Ex} {tb : STab}
end
end
end Py
namespace Py
open PySem PySem.Spec PyProof.Rows L2
def tidxB (K : PySem.W.Frag) (x : Str) : Bool := match K.lookup (He.ga K x) with
  | some o => decide (o.cls = .type "tuple") && o.dict.isNone
  | none => false
def obsPL (as : List Addr) (chk : PySem.W.Frag → Bool) (fn : List DefP) (g : Addr → Option PySem.Obj) : He.AlD := obsP chk fn (He.frG g as)
def hookL (as : List Addr) (chk : PySem.W.Frag → Bool) (fn : List DefP) : PySem.W.Hook where
  α := He.AlD
  obs := fun s => obsPL as chk fn s.heap.get?
  val := fun _ => valP fn
  says := fun _ h => ∃ K : PySem.W.Frag, K.In h ∧ SaysP chk fn K
  of := fun _ _ e => ⟨_, He.frG_in, e⟩
  keeps := fun _ _ _ ⟨K, hK, c⟩ k => ⟨K, PySem.W.Frag.In.keeps hK k, c⟩
theorem obsPL_eq {as : List Addr} {chk : PySem.W.Frag → Bool} {fn : List DefP} {g : Addr → Option PySem.Obj} {s : Shared} (h : ∀ a, g a = s.heap.get? a) : obsPL as chk fn g = (hookL as chk fn).obs s := by
  obtain rfl : g = s.heap.get? := funext h
  rfl
end Py
namespace PySem
namespace ExI
open PySem.W PySem.Calls PyProof.Rows PySem.HandSPX
def iA (f : Str) (p1 p2 : Pos) : Arguments := { posonlyargs := [], args := [{ arg := "self", annotation := none, pos := p1 }, { arg := f, annotation := none, pos := p2 }], vararg := none, kwonlyargs := [], kw_defaults := [], kwarg := none, defaults := [] }
def iB (f : Str) (a1 a2 a3 a4 a5 a6 q1 q2 q3 q4 : Pos) : List Stmt := [.Expr (.Call (.Attribute (.Call (.Name "super" a1) [] [] a2) "__init__" a3) [.Name f a4] [] a5) a6, .Assign [.Attribute (.Name "self" q1) f q2] (.Name f q3) q4]
def iS (f : Str) : Scope := { kind := .function, names := [("self", .local), (f, .local), ("__class__", .free), ("super", .globalImplicit)], isGenerator := false, isCoroutine := false, more := [] }
def argsB (f : Str) (a : Arguments) : Bool := match a with
  | ⟨[], [⟨s1, none, _⟩, ⟨s2, none, _⟩], none, [], [], none, []⟩ => decide (s1 = "self") && decide (s2 = f)
  | _ => false
def bodyB (f : Str) (b : FuncBody) : Bool := match b with
  | .stmts [.Expr (.Call (.Attribute (.Call (.Name s1 _) [] [] _) s2 a3) [.Name s3 _] [] a5) _, .Assign [.Attribute (.Name s4 _) s5 _] (.Name s6 _) _] =>
    decide (a3.endLine = a5.line) && (decide (s1 = "super") && (decide (s2 = "__init__") && (decide (s3 = f) && (decide (s4 = "self") && (decide (s5 = f) && decide (s6 = f))))))
  | _ => false
def initB (K : Frag) (file : Str) (f : Str) (C fI : Addr) : Bool := match K.lookup fI with
  | some ⟨_, _, .func ⟨nm, q, pr, bd, sc, gl, [(cn, cc)], .none, .none, _, _, _, .ref cda, _, bt⟩, _⟩ =>
    decide (nm = "__init__") && (argsB f pr && (bodyB f bd && (decide (sc = iS f) && (decide (gl = mainGlobals) && (decide (bt = builtinsNs) && (decide (cn = "__class__") && (codeIn K (.ref cda) q &&
      ((match K.lookup cda with
        | some ⟨_, _, .fields vs, _⟩ => (match (vs[2]? : Option Value) with
          | some (Value.str fl _) => (file == fl)
          | _ => false)
        | _ => false) &&
      (match K.lookup cc with
        | some ⟨_, _, .cell (some (.ref D)), _⟩ => decide (D = C)
        | _ => false)))))))))
  | _ => false
def bNm (i : Bool) : String := cond i "IndexError" "ValueError"
def bNew (i : Bool) : String := cond i "IndexError.__new__" "ValueError.__new__"
def bIni (i : Bool) : String := cond i "IndexError.__init__" "ValueError.__init__"
def bTl (i : Bool) : List Value := cond i [.type "IndexError", .type "LookupError", .type "Exception", .type "BaseException", .type "object"] [.type "ValueError", .type "Exception", .type "BaseException", .type "object"]
def clsB (i : Bool) (K : Frag) (C : Addr) : Bool := match K.lookup C with
  | some ⟨.type "type", _, .cls cd, sl⟩ => (match cd.mro, sl.toList with
    | .ref C' :: bm, [_, _, _, _, some (.builtin n), _] => C' == C && n == bNew i && !cd.hasDel && cd.hasDict && excTail (bTl i) bm
    | _, _ => false)
  | _ => false
def exwB (i : Bool) (K : Frag) (file : Str) (C fI : Addr) (f : Str) : Bool := (decide (f = "word") || decide (f = "at")) && (clsB i K C && (initB K file f C fI && (He.eqO (findIn K (.ref C) "__setattr__") (some (some (.builtin "object.__setattr__"))) &&
  (He.eqO (findIn K (.ref C) "__getattribute__") (some (some (.builtin "BaseException.__getattribute__"))) && (He.eqO (findIn K (.ref C) "__getattr__") (some none) && (He.eqO (findIn K (.ref C) f) (some none) &&
  (He.eqO (findIn K (.ref C) "__init__") (some (some (.ref fI))) && (decide (typeIn K (.ref fI) = some (.type "function")) && (keepIn K (.ref C) && (decide (subIn K (.ref C) (.type "BaseException") = some true) &&
  (decide (typeIn K (.ref C) = some (.type "type")) && (hasDictIn K C && (He.eqO (nsIn K cStatics "thirdparty.any") (some none) && (He.eqO (nsIn K mainGlobals "super") (some none) &&
  (He.eqO (ks_superIn K C C "__init__") (some (some (.builtin (bIni i)))) && (decide (subIn K (.ref C) (.type (bNm i)) = some true) && decide (mroIn K C (.ref C) = some true)))))))))))))))))
end ExI
end PySem
namespace Py
open PySem PySem.Spec PyProof.Rows L2
def excB (K : PySem.W.Frag) (D : Addr) : Bool := He.eqO (PySem.W.findIn K (.ref D) "__getattribute__") (some (some (.builtin "BaseException.__getattribute__"))) && (He.eqO (PySem.W.findIn K (.ref D) "__getattr__") (some none) && (decide (PySem.W.subIn K (.ref D) (.type "BaseException") = some true) && (PySem.W.hasDictIn K D &&
  (He.eqO (PySem.W.findIn K (.ref D) "__class__") (some (some (.builtin "object.__class__"))) && (He.eqO (PySem.W.specialIn K (.builtin "object.__class__") "__get__") (some (some (.builtin "getset_descriptor.__get__"))) && (decide (PySem.W.takesIn K (.builtin "object.__class__") = some true) && decide (PySem.W.mroIn K D (.type "object") = some true)))))))
def xcB (K : PySem.W.Frag) (file x f : Str) : Bool := (ExI.exwB false K file (He.ga K x) (He.ma K (He.ga K x) "__init__") f || ExI.exwB true K file (He.ga K x) (He.ma K (He.ga K x) "__init__") f) && excB K (He.ga K x)
def emB (K : PySem.W.Frag) (cn : Nat → Str) (cs : List Nat) : Bool := cs.all fun c => cs.all fun k => decide (PySem.W.exmOne K (.ref (He.ga K (cn c))) (.ref (He.ga K (cn k))) = some (decide (c = k)))
def ktB (K : PySem.W.Frag) (x : Str) (c : Value) (b : Bool) : Bool := decide (PySem.W.kitOne K (.ref (He.ga K x)) c = some b)
end Py
namespace Law
open PySem PySem.Spec PyProof.Rows L2 Py
def TBf : Nat → List Str := fun c => match c with
    | 0 => []
    | 1 => ["word"]
    | 2 => ["word"]
    | 3 => ["word"]
    | 4 => ["at"]
    | 5 => ["at"]
    | 6 => []
    | 7 => []
    | 8 => ["at"]
    | 9 => ["at"]
    | 10 => ["length", "meetings"]
    | 11 => ["step", "gap", "least", "private", "hours"]
    | 12 => ["length", "shortest", "most", "private", "known"]
    | 13 => ["given", "home", "is_whole", "first", "ways", "links", "rest", "good", "many"]
    | 14 => ["frame", "looks", "past"]
    | 15 => ["live"]
    | _ => []
end Law
namespace Law
open PySem PySem.Spec PyProof.Rows L2 Py
def topS (i : Nat) : Stmt := PySem.Challenge.pw_dimdays_k01_errors_and_what_they_keep.main.body.getD i (.Pass ⟨0, 0, 0, 0⟩)
def TBg : Nat → Str := fun c => match c with
    | 0 => "DimError"
    | 1 => "InvalidDay"
    | 2 => "InvalidRule"
    | 3 => "InvalidFrame"
    | 4 => "InvalidText"
    | 5 => "InvalidLooks"
    | 6 => "InvalidSlot"
    | 7 => "InvalidCommand"
    | 8 => "Refused"
    | 9 => "NoMeeting"
    | _ => "?"
def TBk : Nat → Str := fun c => match c with
    | 0 => "DimError"
    | 1 => "InvalidDay"
    | 2 => "InvalidRule"
    | 3 => "InvalidFrame"
    | 4 => "InvalidText"
    | 5 => "InvalidLooks"
    | 6 => "InvalidSlot"
    | 7 => "InvalidCommand"
    | 8 => "Refused"
    | 9 => "NoMeeting"
    | 10 => "Day"
    | 11 => "Rule"
    | 12 => "Frame"
    | 13 => "Course"
    | 14 => "Live"
    | 15 => "Desk"
    | _ => "?"
abbrev TB (P : Program) (w : World) : Tb := ⟨TBk, TBf, TBg, P, w, []⟩
abbrev is_x_InvalidDay : List (Nat × Bool) := [(1, true), (2, false), (3, false), (4, false), (5, false), (6, false), (7, false), (8, false), (9, false)]
abbrev is_x_InvalidRule : List (Nat × Bool) := [(1, false), (2, true), (3, false), (4, false), (5, false), (6, false), (7, false), (8, false), (9, false)]
abbrev is_x_InvalidFrame : List (Nat × Bool) := [(1, false), (2, false), (3, true), (4, false), (5, false), (6, false), (7, false), (8, false), (9, false)]
abbrev is_x_InvalidText : List (Nat × Bool) := [(1, false), (2, false), (3, false), (4, true), (5, false), (6, false), (7, false), (8, false), (9, false)]
abbrev is_x_InvalidLooks : List (Nat × Bool) := [(1, false), (2, false), (3, false), (4, false), (5, true), (6, false), (7, false), (8, false), (9, false)]
abbrev is_x_Refused : List (Nat × Bool) := [(1, false), (2, false), (3, false), (4, false), (5, false), (6, false), (7, false), (8, true), (9, false)]
abbrev is_x_NoMeeting : List (Nat × Bool) := [(1, false), (2, false), (3, false), (4, false), (5, false), (6, false), (7, false), (8, false), (9, true)]
abbrev is_x_InvalidSlot : List (Nat × Bool) := [(1, false), (2, false), (3, false), (4, false), (5, false), (6, true), (7, false), (8, false), (9, false)]
abbrev is_x_InvalidCommand : List (Nat × Bool) := [(1, false), (2, false), (3, false), (4, false), (5, false), (6, false), (7, true), (8, false), (9, false)]
abbrev is_x_ValueError : List (Nat × Bool) := [(1, true), (2, true), (3, true), (4, true), (5, true), (6, true), (7, true), (8, true), (9, false)]
abbrev is_x_DimError : List (Nat × Bool) := [(1, true), (2, true), (3, true), (4, true), (5, true), (6, true), (7, true), (8, true), (9, false)]
abbrev is_x_IndexError : List (Nat × Bool) := [(1, false), (2, false), (3, false), (4, false), (5, false), (6, false), (7, false), (8, false), (9, true)]
abbrev s_Lseed : Stmt := topS 12
abbrev s_Lchoose : Stmt := topS 13
abbrev s_Lone_of : Stmt := topS 14
abbrev s_Lleaf : Stmt := topS 15
abbrev s_Lany : Stmt := topS 16
abbrev s_Lmade : Stmt := topS 17
abbrev s_Lkept : Stmt := topS 18
abbrev s_Lsorts : Stmt := topS 19
abbrev s_law : Stmt := topS 20
def names0 : List PySem.Str := [("DimError" : PySem.Str), ("InvalidDay" : PySem.Str), ("InvalidRule" : PySem.Str), ("InvalidFrame" : PySem.Str), ("InvalidText" : PySem.Str), ("InvalidLooks" : PySem.Str), ("InvalidSlot" : PySem.Str), ("InvalidCommand" : PySem.Str), ("Refused" : PySem.Str), ("NoMeeting" : PySem.Str), ("_law_seed" : PySem.Str), ("_law_choose" : PySem.Str), ("_law_one_of" : PySem.Str), ("_law_leaf" : PySem.Str), ("_law_any" : PySem.Str), ("_law_made" : PySem.Str), ("_law_kept" : PySem.Str), ("_law_sorts" : PySem.Str)]
def names : List PySem.Str := names0
def D_Lseed : DefP := ⟨fun K => He.ga K "_law_seed", ⟨("_law_seed", none), "_law_seed", "_law_seed", defArgs s_Lseed, defBody s_Lseed, defScope s_Lseed, [], []⟩⟩
def D_Lchoose : DefP := ⟨fun K => He.ga K "_law_choose", ⟨("_law_choose", none), "_law_choose", "_law_choose", defArgs s_Lchoose, defBody s_Lchoose, defScope s_Lchoose, [], []⟩⟩
def D_Lone_of : DefP := ⟨fun K => He.ga K "_law_one_of", ⟨("_law_one_of", none), "_law_one_of", "_law_one_of", defArgs s_Lone_of, defBody s_Lone_of, defScope s_Lone_of, [], []⟩⟩
def D_Lleaf : DefP := ⟨fun K => He.ga K "_law_leaf", ⟨("_law_leaf", none), "_law_leaf", "_law_leaf", defArgs s_Lleaf, defBody s_Lleaf, defScope s_Lleaf, [], []⟩⟩
def D_Lany : DefP := ⟨fun K => He.ga K "_law_any", ⟨("_law_any", none), "_law_any", "_law_any", defArgs s_Lany, defBody s_Lany, defScope s_Lany, [], []⟩⟩
def D_Lmade : DefP := ⟨fun K => He.ga K "_law_made", ⟨("_law_made", none), "_law_made", "_law_made", defArgs s_Lmade, defBody s_Lmade, defScope s_Lmade, [], []⟩⟩
def D_Lkept : DefP := ⟨fun K => He.ga K "_law_kept", ⟨("_law_kept", none), "_law_kept", "_law_kept", defArgs s_Lkept, defBody s_Lkept, defScope s_Lkept, [], []⟩⟩
def D_Lsorts : DefP := ⟨fun K => He.ga K "_law_sorts", ⟨("_law_sorts", none), "_law_sorts", "_law_sorts", defArgs s_Lsorts, defBody s_Lsorts, defScope s_Lsorts, [], []⟩⟩
def D_law : DefP := ⟨fun K => He.ga K "law", ⟨("law", none), "law", "law", defArgs s_law, defBody s_law, defScope s_law, [], []⟩⟩
def fn0 : List DefP := [D_Lseed, D_Lchoose, D_Lone_of, D_Lleaf, D_Lany, D_Lmade, D_Lkept, D_Lsorts, D_law]
def fn : List DefP := fn0
def fa0 : List He.Fa := [.free "IndexError", .free "ValueError", .free "abs", .free "enumerate", .free "int", .free "isinstance", .free "len", .free "max", .free "min", .free "range", .free "repr", .free "tuple", .glo "_law_seed", .glo "_law_choose", .glo "_law_one_of", .glo "_law_leaf", .glo "_law_any", .glo "InvalidDay", .glo "InvalidRule", .glo "InvalidFrame", .glo "InvalidText", .glo "InvalidLooks", .glo "Refused", .glo "NoMeeting", .glo "_law_made", .glo "_law_kept", .glo "InvalidSlot", .glo "InvalidCommand", .glo "_law_sorts", .glo "DimError"]
def fa1 : List He.Fa := [.glo "law"]
def fa : List He.Fa := fa0 ++ fa1
def tps : List (Str × List He.Dv) := []
def ccs : List Nat := []
def prs : List (Str × Str) := []
def cms : List (Str × Str) := []
def sbs : List Str := []
def fis : List (PySem.W.Frag → Addr) := []
def t0s : List (PySem.W.Frag → Addr) := []
def tis : List Str := []
def cts : List Str := []
def iss : List (Str × List (Nat × Bool)) := []
def xfile : Str := PySem.Challenge.pw_dimdays_k01_errors_and_what_they_keep.main.file
def xcs : List (Str × Str) := [("InvalidDay", "word"), ("InvalidRule", "word"), ("InvalidFrame", "word"), ("InvalidText", "at"), ("InvalidLooks", "at"), ("Refused", "at"), ("NoMeeting", "at")]
def ems : List Nat := []
def kts : List (Str × (PySem.W.Frag → Value) × Bool) := []
def kos : List Nat := [10, 11, 12, 13, 14, 15, 16]
def xns : List Str := ["InvalidSlot", "InvalidCommand"]
def xnC (K : PySem.W.Frag) (x : Str) : Bool := excB K (He.ga K x) && (PySem.W.excIn K (He.ga K x) [.type "ValueError", .type "Exception", .type "BaseException", .type "object"] "ValueError.__new__" && (PySem.W.keepIn K (.ref (He.ga K x)) && decide (PySem.W.typeIn K (.ref (He.ga K x)) = some (.type "type"))))
def isxC (K : PySem.W.Frag) (cv : Value) (l : List (Nat × Bool)) : Bool := l.all fun p => decide (PySem.W.kitOne K (.ref (He.ga K (TBk p.1))) cv = some p.2) && excB K (He.ga K (TBk p.1))
def isxs : List ((PySem.W.Frag → Value) × List (Nat × Bool)) := [((fun K => .ref (He.ga K "InvalidDay")), is_x_InvalidDay), ((fun K => .ref (He.ga K "InvalidRule")), is_x_InvalidRule), ((fun K => .ref (He.ga K "InvalidFrame")), is_x_InvalidFrame), ((fun K => .ref (He.ga K "InvalidText")), is_x_InvalidText), ((fun K => .ref (He.ga K "InvalidLooks")), is_x_InvalidLooks), ((fun K => .ref (He.ga K "Refused")), is_x_Refused), ((fun K => .ref (He.ga K "NoMeeting")), is_x_NoMeeting), ((fun K => .ref (He.ga K "InvalidSlot")), is_x_InvalidSlot), ((fun K => .ref (He.ga K "InvalidCommand")), is_x_InvalidCommand), ((fun K => .type "ValueError"), is_x_ValueError), ((fun K => .ref (He.ga K "DimError")), is_x_DimError), ((fun K => .type "IndexError"), is_x_IndexError)]
def chX (K : PySem.W.Frag) : Bool := (xns.all fun x => xnC K x) && (isxs.all fun t => isxC K (t.1 K) t.2)
def chk (K : PySem.W.Frag) : Bool := chX K && ((fa.all fun f => f.ok K) && ((tps.all fun t => He.tupB K t.1 t.2) && ((ccs.all fun c => cfB K (TBk c) (TBf c)) && ((prs.all fun t => propB K t.1 t.2) && ((cts.all fun c => ctyB K c) && ((iss.all fun t => isB TBk K t.1 t.2) && ((cms.all fun t => cmB K t.1 t.2) && ((sbs.all fun c => decide (PySem.W.subIn K (.type "str") (.ref (He.ga K c)) = some false)) && ((fis.all fun a => PySem.W.fnIn K (a K)) && ((t0s.all fun a => tup0B K (a K)) && ((tis.all fun x => tidxB K x) && ((kos.all fun c => koB K (TBk c)) && ((xcs.all fun t => xcB K xfile t.1 t.2) && (emB K TBk ems && (kts.all fun t => ktB K t.1 (t.2.1 K) t.2.2)))))))))))))))
abbrev R : PySem.W.OpenRow := PySem.W.OpenLaw.row PySem.Challenge.rw_dimdays_k01_errors_and_what_they_keep
abbrev als : List Addr := List.range 1400
abbrev hk : PySem.W.Hook := hookL als chk fn
def ob (s : PySem.W.SharedT) : He.AlD := obsPL als chk fn (HandSHeadRun.getT s)
theorem ob_eq (s : PySem.W.SharedT) : ob s = hk.obs s.abs := obsPL_eq (HandSHeadRun.getT_eq s)
theorem run (w : World) : HandSHeadRun.RunEq R (PySem.W.view R.prog [20]) hk ob 60000 names w := by
  intro os
  kernel_rfl
end Law
namespace Py
open PySem PySem.Spec PyProof.Rows L2
theorem nbeq (a b : Nat) : Nat.beq a b = decide (a = b) := by
  by_cases h : a = b
  · subst h; simp
  · rw [decide_eq_false h]; exact Bool.eq_false_iff.mpr fun z => h (Nat.eq_of_beq_eq_true z)
def iEq : Int → Int → Bool
  | .ofNat a, .ofNat b => Nat.beq a b
  | .negSucc a, .negSucc b => Nat.beq a b
  | _, _ => false
theorem iEq_ok (i j : Int) : iEq i j = decide (i = j) := by
  cases i with
  | ofNat a => cases j with
    | ofNat b => rw [iEq, nbeq]; exact decide_eq_decide.mpr ⟨fun z => congrArg _ z, fun z => Int.ofNat.inj z⟩
    | negSucc b => simp [iEq]
  | negSucc a => cases j with
    | ofNat b => simp [iEq]
    | negSucc b => rw [iEq, nbeq]; exact decide_eq_decide.mpr ⟨fun z => congrArg _ z, fun z => Int.negSucc.inj z⟩
def lEq : List Nat → List Nat → Bool
  | [], [] => true
  | a :: as, b :: bs => Nat.beq a b && lEq as bs
  | _, _ => false
theorem lEq_ok : ∀ a b : List Nat, lEq a b = decide (a = b)
  | [], [] => rfl
  | [], _ :: _ => rfl
  | _ :: _, [] => rfl
  | a :: as, b :: bs => by
    unfold lEq
    rw [lEq_ok as bs, nbeq]
    by_cases h : a = b
    · subst h; simp
    · simp [h]
theorem str_eq_iff (a b : List Nat) : ((⟨a.toArray⟩ : Str) = ⟨b.toArray⟩) ↔ a = b := by
  constructor
  · intro h
    have := congrArg (fun s : Str => s.cps.toList) h
    simpa using this
  · intro h; rw [h]
mutual
def kEq : Val → Val → Bool
  | .int i, .int j => iEq i j
  | .tup a, .tup b => kEqs a b
  | .str a, .str b => lEq a b
  | .non, .non => true
  | .bl a, .bl b => a == b
  | .bl a, .int j => iEq (if a = true then 1 else 0) j
  | .int i, .bl b => iEq i (if b = true then 1 else 0)
  | _, _ => false
def kEqs : List Val → List Val → Bool
  | [], [] => true
  | a :: as, b :: bs => kEq a b && kEqs as bs
  | _, _ => false
end
mutual
theorem kEq_beq : ∀ (a b : Val) (m k : NestedKey), nkV a = some m → nkV b = some k → kEq a b = NestedKey.beq m k
  | a, b, m, k, ha, hb => by
    cases a <;> cases b <;> simp only [nkV, Option.some.injEq, reduceCtorEq, Option.map_eq_some_iff] at ha hb
    all_goals first
      | (subst ha; subst hb; simp [kEq, NestedKey.beq, iEq_ok, lEq_ok, str_eq_iff]; done)
      | (subst ha; obtain ⟨l, e, rfl⟩ := hb; simp [kEq, NestedKey.beq]; done)
      | (subst hb; obtain ⟨l, e, rfl⟩ := ha; simp [kEq, NestedKey.beq]; done)
      | skip
    · rename_i x y
      subst ha hb
      cases x <;> cases y <;> simp [kEq, NestedKey.beq]
    · rename_i xs ys
      obtain ⟨l, e, rfl⟩ := ha
      obtain ⟨l2, e2, rfl⟩ := hb
      rw [kEq, NestedKey.beq]
      exact kEqs_beq xs ys l l2 e e2
theorem kEqs_beq : ∀ (a b : List Val) (m k : List NestedKey), nkVs a = some m → nkVs b = some k → kEqs a b = NestedKey.beqAll m k
  | [], [], m, k, ha, hb => by simp [nkVs] at ha hb; subst ha hb; rfl
  | [], b :: bs, m, k, ha, hb => by
    simp [nkVs] at ha; subst ha
    cases k with
    | nil =>
      unfold nkVs at hb
      split at hb <;> simp at hb
    | cons x xs => rfl
  | a :: as, [], m, k, ha, hb => by
    simp [nkVs] at hb; subst hb
    cases m with
    | nil =>
      unfold nkVs at ha
      split at ha <;> simp at ha
    | cons x xs => rfl
  | a :: as, b :: bs, m, k, ha, hb => by
    unfold nkVs at ha hb
    cases qa : nkV a with
    | none => rw [qa] at ha; cases ha
    | some x =>
      cases qas : nkVs as with
      | none => rw [qa, qas] at ha; cases ha
      | some xs =>
        cases qb : nkV b with
        | none => rw [qb] at hb; cases hb
        | some y =>
          cases qbs : nkVs bs with
          | none => rw [qb, qbs] at hb; cases hb
          | some ys =>
            rw [qa, qas] at ha
            rw [qb, qbs] at hb
            cases ha; cases hb
            rw [kEqs, NestedKey.beqAll, kEq_beq a b x y qa qb, kEqs_beq as bs xs ys qas qbs]
end
theorem kEq_ok {a b : Val} {m k : NestedKey} (ha : nkV a = some m) (hb : nkV b = some k) : kEq a b = decide (m = k) := by rw [kEq_beq a b m k ha hb, NestedKey.decide_eq]
def okK : Nat → Val → Bool
  | 0, v => match v with
    | .non => true
    | .bl _ => true
    | .int _ => true
    | .str _ => true
    | _ => false
  | n + 1, v => match v with
    | .non => true
    | .bl _ => true
    | .int _ => true
    | .str _ => true
    | .tup vs => vs.all (okK n)
    | _ => false
theorem okK_all {n : Nat} (ih : ∀ v, okK n v = true → ∃ k, nkV v = some k ∧ k.depth ≤ n) : ∀ vs : List Val, vs.all (okK n) = true → ∃ l, nkVs vs = some l ∧ NestedKey.depthAll l ≤ n
  | [], _ => ⟨[], rfl, by simp [NestedKey.depthAll]⟩
  | v :: vs, h => by
    rw [List.all_cons, Bool.and_eq_true] at h
    obtain ⟨k, e1, d1⟩ := ih v h.1
    obtain ⟨l, e2, d2⟩ := okK_all ih vs h.2
    refine ⟨k :: l, by unfold nkVs; rw [e1, e2], ?_⟩
    unfold NestedKey.depthAll
    omega
theorem okK_ok : ∀ (n : Nat) (v : Val), okK n v = true → ∃ k, nkV v = some k ∧ k.depth ≤ n
  | 0, v, h => by
    cases v <;> first | (exact ⟨_, rfl, Nat.le_refl _⟩) | (simp [okK] at h)
  | n + 1, v, h => by
    cases v with
    | tup vs =>
      obtain ⟨l, e, d⟩ := okK_all (okK_ok n) vs h
      refine ⟨.tup l, by unfold nkV; rw [e]; rfl, ?_⟩
      unfold NestedKey.depth
      omega
    | non => exact ⟨_, rfl, Nat.zero_le _⟩
    | bl b => exact ⟨_, rfl, Nat.zero_le _⟩
    | int i => exact ⟨_, rfl, Nat.zero_le _⟩
    | str s => exact ⟨_, rfl, Nat.zero_le _⟩
    | _ => simp [okK] at h
def isTupV : Val → Bool
  | .tup _ => true
  | _ => false
def isLeafV : Val → Bool
  | .int _ => true
  | .str _ => true
  | _ => false
def hdIs (p : Val → Bool) : List Val → Bool
  | [] => true
  | k :: _ => p k
def fitK (ks : List Val) (q : Val) : Bool := match q with
  | .tup _ => okK 8 q && hdIs isTupV ks
  | .int _ => hdIs isLeafV ks
  | .str _ => hdIs isLeafV ks
  | _ => false
theorem KeyT.isT {k : Val} (h : KeyT k) : isTupV k = true ∧ isLeafV k = false := by
  obtain ⟨l', e, _⟩ := h
  cases k <;> simp [nkV] at e <;> exact ⟨rfl, rfl⟩
theorem KeyL.isL {k : Val} (h : KeyL k) : isTupV k = false ∧ isLeafV k = true := by
  rcases h with ⟨i, rfl⟩ | ⟨s, rfl⟩ <;> exact ⟨rfl, rfl⟩
theorem fit_ok {ks : List Val} {q : Val} (hk : KeysOk ks) (h : fitK ks q = true) : (KeyT q ∧ ∀ k ∈ ks, KeyT k) ∨ (KeyL q ∧ ∀ k ∈ ks, KeyL k) := by
  have leaf : KeyL q → hdIs isLeafV ks = true → (KeyL q ∧ ∀ k ∈ ks, KeyL k) := fun hq h2 => by
    refine ⟨hq, ?_⟩
    cases ks with
    | nil => exact fun k hk => by cases hk
    | cons k ks =>
      rcases hk.1 with z | z
      · have := (z k (by simp)).isT.2
        rw [hdIs, this] at h2; cases h2
      · exact z
  cases q with
  | tup vs =>
    unfold fitK at h
    rw [Bool.and_eq_true] at h
    obtain ⟨k, e, d⟩ := okK_ok 8 _ h.1
    have e2 := e
    unfold nkV at e2
    obtain ⟨l, e3, rfl⟩ := map_some e2
    refine .inl ⟨⟨l, e, d⟩, ?_⟩
    cases ks with
    | nil => exact fun k hk => by cases hk
    | cons k ks =>
      rcases hk.1 with z | z
      · exact z
      · have := (z k (by simp)).isL.1
        have h2 := h.2
        rw [hdIs, this] at h2; cases h2
  | int i => exact .inr (leaf (.inl ⟨i, rfl⟩) h)
  | str s => exact .inr (leaf (.inr ⟨s, rfl⟩) h)
  | _ => simp [fitK] at h
def dAt {α : Type} : List Val → List α → Val → Option α
  | k :: ks, v :: vs, q => if kEq k q = true then some v else dAt ks vs q
  | _, _, _ => none
def dAny (ks : List Val) (q : Val) : Bool := ks.any fun k => kEq k q
def dRep {α : Type} : List Val → List α → Val → α → List α
  | k :: ks, v :: vs, q, u => (if kEq k q = true then u else v) :: dRep ks vs q u
  | _, _, _, _ => []
def putKs {α : Type} (ks : List Val) (xs : List α) (q : Val) (x : α) : List α := if dAny ks q = true then xs else xs ++ [x]
def putVs {α : Type} (ks : List Val) (vs : List α) (q : Val) (u : α) : List α := if dAny ks q = true then dRep ks vs q u else vs ++ [u]
section
variable {T : Tb} {K : PySem.W.Frag} {io : Nat → Addr} {n : Nat} {F : Hp}
theorem dAt_rel {q : Val} : ∀ {ks vs : List Val} {ys : List V}, VRs T K io n F vs ys → (∀ v, dAt ks vs q = some v → ∃ y, dAt ks ys q = some y ∧ VR T K io n F v y) ∧ (dAt ks vs q = none → dAt ks ys q = none)
  | [], vs, ys, r => ⟨fun v e => by simp [dAt] at e, fun _ => by simp [dAt]⟩
  | k :: ks, _, _, .nil => ⟨fun v e => by simp [dAt] at e, fun _ => by simp [dAt]⟩
  | k :: ks, _, _, .cons a r => by
    have ih := dAt_rel (q := q) (ks := ks) r
    by_cases h : kEq k q = true
    · refine ⟨fun v e => ?_, fun e => ?_⟩
      · simp only [dAt, h, if_true] at e ⊢
        cases e; exact ⟨_, rfl, a⟩
      · simp only [dAt, h, if_true] at e; cases e
    · refine ⟨fun v e => ?_, fun e => ?_⟩
      · simp only [dAt, h] at e ⊢; exact ih.1 v e
      · simp only [dAt, h] at e ⊢; exact ih.2 e
end
end Py
namespace Py
open PySem PySem.Spec PyProof.Rows L2
section
variable {prog : Program} {w : World} {KT : Type} [DecidableEq KT] {A : Around} {E : Value → Shared → Prop} {s : Shared} {d a : Addr} {o : PySem.Obj} {es : Array DictEntry} {ep : Nat}
structure Stored (h h' : Heap) (d : Addr) (es es' : Array DictEntry) (ep : Nat) (l : List DictEntry) : Prop where
  raw : ∃ ep', h'.DictRaw d es' ep' ∧ ep' + es.size = ep + es'.size
  is_ : es'.toList = l
  same : Heap.SameBut d h h'
end
end Py
namespace Py
open PySem PySem.Spec PyProof.Rows L2
section
variable {X : Cx} {pins : List (Addr × PySem.Obj)} {σ : L2.St} {H : Hp} {s : Shared} {T : Tb} {io : Nat → Addr} {n : Nat} {F : Hp}
mutual
theorem nkV_is (I : L2.Inv X pins σ H s) (hF : ∀ b o, F b = some o → H b = some o) : ∀ (v : Val) (k : NestedKey) (x : V) (u : Value), nkV v = some k → VR T X.K io n F v x → RelV x u → NestedIs s.heap k u
  | .non, k, x, u, e, vr, r => by cases e; cases vr; cases (show u = Value.none from r); exact .none
  | .bl b, k, x, u, e, vr, r => by cases e; cases vr; cases (show u = Value.bool b from r); exact .bool rfl
  | .int i, k, x, u, e, vr, r => by cases e; cases vr; obtain ⟨t, rfl⟩ := r; exact .int i t
  | .str z, k, x, u, e, vr, r => by cases e; cases vr; obtain ⟨t, rfl⟩ := r; exact .text _ t
  | .tup vs, k, x, u, e, vr, r => by
    unfold nkV at e
    obtain ⟨l, el, rfl⟩ := map_some e
    cases vr with
    | @tup _ a xs h r' =>
      cases (show u = Value.ref a from r)
      obtain ⟨its, rv, ⟨ob, e1, e2, m, e3⟩, _⟩ := I.tuple (sqT_mono hF h)
      exact .tup e1 e2 e3 (by simpa using nkVs_is I hF vs l xs its el r' rv)
  | .lst _, _, _, _, e, _, _ => by simp [nkV] at e
  | .obj _ _, _, _, _, e, _, _ => by simp [nkV] at e
  | .ref _, _, _, _, e, _, _ => by simp [nkV] at e
  | .glo _, _, _, _, e, _, _ => by simp [nkV] at e
  | .dct _ _, _, _, _, e, _, _ => by simp [nkV] at e
theorem nkVs_is (I : L2.Inv X pins σ H s) (hF : ∀ b o, F b = some o → H b = some o) : ∀ (vs : List Val) (ks : List NestedKey) (xs : List V) (us : List Value), nkVs vs = some ks → VRs T X.K io n F vs xs → Vals xs us → NestedAll s.heap ks us
  | [], ks, xs, us, e, vr, r => by
    simp [nkVs] at e; subst e
    cases vr
    cases r; exact .nil
  | v :: vs, ks, xs, us, e, vr, r => by
    unfold nkVs at e
    cases q : nkV v with
    | none => rw [q] at e; cases e
    | some k =>
      cases q2 : nkVs vs with
      | none => rw [q, q2] at e; cases e
      | some ks =>
        rw [q, q2] at e
        cases e
        cases vr with
        | cons a t =>
          cases r with
          | cons r1 r2 => exact .cons (nkV_is I hF v _ _ _ q a r1) (nkVs_is I hF vs _ _ _ q2 t r2)
end
theorem do_at {a : Addr} {es : Array DictEntry} {ep : Nat} (I : L2.Inv X pins σ H s) (e : H a = some (DO a es ep)) : (a == sysModules) = false ∧ es.size ≤ sizeLine ∧ s.heap.DictRaw a es ep := by
  have z := I.hok a _ e
  obtain ⟨⟨h1, h2, h3⟩, _⟩ := (z : ObjOk X.prog X.w H s.heap a (.ext fun h => (a == sysModules) = false ∧ es.size ≤ sizeLine ∧ ∃ o, h.get? a = some o ∧ o.ExactDict ∧ o.data = .dict es ep))
  exact ⟨h1, h2, h3⟩
end
def ZR : List Val → List V → List V → List (NestedKey × Addr × Value) → Prop
  | [], [], [], [] => True
  | k :: ks, x :: xs, y :: ys, z :: zs => (nkV k = some z.1 ∧ x = .ref z.2.1 ∧ RelV y z.2.2) ∧ ZR ks xs ys zs
  | _, _, _, _ => False
section
variable {T : Tb} {K : PySem.W.Frag} {io : Nat → Addr} {n : Nat} {F : Hp} {P : Program} {w : World}
theorem KeyT.tupV {k : Val} {x : V} (h : KeyT k) (r : VR T K io n F k x) : ∃ a, x = .ref a := by
  obtain ⟨l, e, _⟩ := h
  cases r <;> first | (exact ⟨_, rfl⟩) | (simp [nkV] at e)
theorem zr_of : ∀ {es : List DictEntry} {ks : List Val} {xs ys : List V}, (∀ k ∈ ks, KeyT k) → Ents w es ks xs ys → VRs T K io n F ks xs → ∃ zs, ZR ks xs ys zs ∧ es = zs.map (entryOfKey (nestedKind P w))
  | [], [], [], [], _, _, _ => ⟨[], trivial, rfl⟩
  | e :: es, k :: ks, x :: xs, y :: ys, hk, ⟨⟨h1, h2, h3⟩, h4⟩, .cons a r => by
    obtain ⟨zs, z1, z2⟩ := zr_of (fun q hq => hk q (List.mem_cons_of_mem _ hq)) h4 r
    obtain ⟨b, rfl⟩ := (hk k (by simp)).tupV a
    obtain ⟨l, el, _⟩ := hk k (by simp)
    refine ⟨(.tup l, b, e.val) :: zs, ⟨⟨el, rfl, h3⟩, z1⟩, ?_⟩
    rw [List.map_cons, ← z2]
    congr 1
    obtain ⟨eh, ek, ev⟩ := e
    cases (show ek = Value.ref b from h2)
    have : eh = (NestedKey.tup l).hash w := by
      have h1' : eh = hashV w k := h1
      rw [h1', hashV, el]
    rw [this]; rfl
  | [], [], [], _ :: _, _, h, _ => False.elim h
  | [], [], _ :: _, _, _, h, _ => False.elim h
  | [], _ :: _, _, _, _, h, _ => False.elim h
  | _ :: _, [], _, _, _, h, _ => False.elim h
  | _ :: _, _ :: _, [], _, _, h, _ => False.elim h
  | _ :: _, _ :: _, _ :: _, [], _, h, _ => False.elim h
theorem zr_keys : ∀ {ks : List Val} {xs ys : List V} {zs : List (NestedKey × Addr × Value)}, ZR ks xs ys zs → ks.map nkV = zs.map fun z => some z.1
  | [], [], [], [], _ => rfl
  | k :: ks, x :: xs, y :: ys, z :: zs, ⟨⟨h1, _, _⟩, h4⟩ => by rw [List.map_cons, List.map_cons, h1, zr_keys h4]
  | [], [], [], _ :: _, h => False.elim h
  | [], [], _ :: _, _, h => False.elim h
  | [], _ :: _, _, _, h => False.elim h
  | _ :: _, [], _, _, h => False.elim h
  | _ :: _, _ :: _, [], _, h => False.elim h
  | _ :: _, _ :: _, _ :: _, [], h => False.elim h
theorem zr_nodup {ks : List Val} {xs ys : List V} {zs : List (NestedKey × Addr × Value)} (z : ZR ks xs ys zs) (h : (ks.map nkV).Nodup) : (zs.map (·.1)).Nodup := by
  rw [zr_keys z] at h
  have : (zs.map fun z => some z.1) = (zs.map (·.1)).map some := by rw [List.map_map]; rfl
  rw [this] at h
  rw [List.Nodup, List.pairwise_map] at h
  exact h.imp fun hne e => hne (congrArg some e)
theorem zr_at {q : Val} {m : NestedKey} (hq : nkV q = some m) : ∀ {ks : List Val} {xs ys : List V} {zs : List (NestedKey × Addr × Value)}, ZR ks xs ys zs → RelO (dAt ks ys q) ((atKey zs m).map (·.2))
  | [], [], [], [], _ => trivial
  | k :: ks, x :: xs, y :: ys, z :: zs, ⟨⟨h1, h2, h3⟩, h4⟩ => by
    have ih := zr_at hq h4
    have e := kEq_ok h1 hq
    by_cases hz : z.1 = m
    · have : kEq k q = true := by rw [e]; exact decide_eq_true hz
      simp only [dAt, this, if_true, atKey, List.find?_cons, hz, decide_true, Option.map_some]
      exact h3
    · have : kEq k q = false := by rw [e]; exact decide_eq_false hz
      simp only [dAt, this, Bool.false_eq_true, if_false, atKey, List.find?_cons, hz, decide_false]
      exact ih
  | [], [], [], _ :: _, h => False.elim h
  | [], [], _ :: _, _, h => False.elim h
  | [], _ :: _, _, _, h => False.elim h
  | _ :: _, [], _, _, h => False.elim h
  | _ :: _, _ :: _, [], _, h => False.elim h
  | _ :: _, _ :: _, _ :: _, [], h => False.elim h
end
def lk : Val → Option Key
  | .int i => some (.inl i)
  | .str s => some (.inr ⟨s.toArray⟩)
  | _ => none
def nkK : Key → NestedKey
  | .inl i => .num i
  | .inr x => .text x
theorem nkK_inj {a b : Key} (h : nkK a = nkK b) : a = b := by
  cases a <;> cases b <;> simp [nkK] at h <;> rw [h]
theorem lk_nk {v : Val} {k : Key} (h : lk v = some k) : nkV v = some (nkK k) := by
  cases v <;> simp [lk] at h <;> subst h <;> rfl
theorem KeyL.lk {v : Val} (h : KeyL v) : ∃ k, Py.lk v = some k := by rcases h with ⟨i, rfl⟩ | ⟨s, rfl⟩ <;> exact ⟨_, rfl⟩
theorem lk_eq {a b : Val} {m k : Key} (ha : lk a = some m) (hb : lk b = some k) : kEq a b = decide (m = k) := by
  rw [kEq_ok (lk_nk ha) (lk_nk hb)]
  exact decide_eq_decide.mpr ⟨nkK_inj, fun e => congrArg _ e⟩
def ZL : List Val → List V → List V → List DictEntry → List (Key × Value) → Prop
  | [], [], [], [], [] => True
  | k :: ks, x :: xs, y :: ys, e :: es, z :: zs => (lk k = some z.1 ∧ RelV x e.key ∧ keyIs z.1 e.key = true ∧ e.val = z.2 ∧ RelV y z.2) ∧ ZL ks xs ys es zs
  | _, _, _, _, _ => False
section
variable {T : Tb} {K : PySem.W.Frag} {io : Nat → Addr} {n : Nat} {F : Hp} {P : Program} {w : World}
theorem lk_is {v : Val} {k : Key} {x : V} {u : Value} (h : lk v = some k) (r : VR T K io n F v x) (q : RelV x u) : keyIs k u = true := by
  cases r <;> simp [lk] at h
  · subst h; obtain ⟨t, rfl⟩ := q; exact keyIs_int _ _
  · subst h; obtain ⟨t, rfl⟩ := q; exact keyIs_str _ _
theorem hash_lk {v : Val} {k : Key} (h : lk v = some k) : hashV w v = (mixKind P w).hash k := by
  unfold hashV
  rw [lk_nk h]
  cases k <;> rfl
theorem zl_of (P : Program) : ∀ {es : List DictEntry} {ks : List Val} {xs ys : List V}, (∀ k ∈ ks, KeyL k) → Ents w es ks xs ys → VRs T K io n F ks xs → ∃ zs, ZL ks xs ys es zs ∧ ∀ e ∈ es, ∃ k, (mixKind P w).is k e.key = true ∧ e.hash = (mixKind P w).hash k
  | [], [], [], [], _, _, _ => ⟨[], trivial, fun e h => by cases h⟩
  | e :: es, k :: ks, x :: xs, y :: ys, hk, ⟨⟨h1, h2, h3⟩, h4⟩, .cons a r => by
    obtain ⟨zs, z1, z2⟩ := zl_of P (fun q hq => hk q (List.mem_cons_of_mem _ hq)) h4 r
    obtain ⟨m, em⟩ := (hk k (by simp)).lk
    refine ⟨(m, e.val) :: zs, ⟨⟨em, h2, lk_is em a h2, rfl, h3⟩, z1⟩, fun e' h' => ?_⟩
    rcases List.mem_cons.mp h' with rfl | h'
    · exact ⟨m, lk_is em a h2, by rw [h1, hash_lk em]⟩
    · exact z2 e' h'
  | [], [], [], _ :: _, _, h, _ => False.elim h
  | [], [], _ :: _, _, _, h, _ => False.elim h
  | [], _ :: _, _, _, _, h, _ => False.elim h
  | _ :: _, [], _, _, _, h, _ => False.elim h
  | _ :: _, _ :: _, [], _, _, h, _ => False.elim h
  | _ :: _, _ :: _, _ :: _, [], _, h, _ => False.elim h
end
end Py
namespace Py
open PySem PySem.Spec PyProof.Rows L2
def LK : List Val → List V → List (Key × Value) → Prop
  | [], [], [] => True
  | k :: ks, y :: ys, z :: zs => (lk k = some z.1 ∧ RelV y z.2) ∧ LK ks ys zs
  | _, _, _ => False
section
variable {T : Tb} {K : PySem.W.Frag} {io : Nat → Addr} {n : Nat} {F : Hp} {P : Program} {w : World}
theorem zl_lk (P : Program) (w : World) : ∀ {ks : List Val} {xs ys : List V} {es : List DictEntry} {zs : List (Key × Value)}, ZL ks xs ys es zs → LK ks ys zs ∧ Pairs (mixKind P w) es zs
  | [], [], [], [], [], _ => ⟨trivial, .nil⟩
  | k :: ks, x :: xs, y :: ys, e :: es, z :: zs, ⟨⟨h1, h2, h3, h4, h5⟩, h6⟩ => by
    obtain ⟨a, b⟩ := zl_lk P w h6
    exact ⟨⟨⟨h1, h5⟩, a⟩, .cons h3 h4 b⟩
  | [], [], [], [], _ :: _, h => False.elim h
  | [], [], [], _ :: _, _, h => False.elim h
  | [], [], _ :: _, _, _, h => False.elim h
  | [], _ :: _, _, _, _, h => False.elim h
  | _ :: _, [], _, _, _, h => False.elim h
  | _ :: _, _ :: _, [], _, _, h => False.elim h
  | _ :: _, _ :: _, _ :: _, [], _, h => False.elim h
  | _ :: _, _ :: _, _ :: _, _ :: _, [], h => False.elim h
theorem lk_keys : ∀ {ks : List Val} {ys : List V} {zs : List (Key × Value)}, LK ks ys zs → ks.map nkV = zs.map fun z => some (nkK z.1)
  | [], [], [], _ => rfl
  | k :: ks, y :: ys, z :: zs, ⟨⟨h1, _⟩, h4⟩ => by rw [List.map_cons, List.map_cons, lk_nk h1, lk_keys h4]
  | [], [], _ :: _, h => False.elim h
  | [], _ :: _, _, h => False.elim h
  | _ :: _, [], _, h => False.elim h
  | _ :: _, _ :: _, [], h => False.elim h
theorem lk_nodup {ks : List Val} {ys : List V} {zs : List (Key × Value)} (z : LK ks ys zs) (h : (ks.map nkV).Nodup) : (zs.map (·.1)).Nodup := by
  rw [lk_keys z] at h
  have : (zs.map fun z => some (nkK z.1)) = (zs.map (·.1)).map (fun k => some (nkK k)) := by rw [List.map_map]; rfl
  rw [this] at h
  rw [List.Nodup, List.pairwise_map] at h
  exact h.imp fun hne e => hne (congrArg (fun k => some (nkK k)) e)
theorem lk_at {q : Val} {m : Key} (hq : lk q = some m) : ∀ {ks : List Val} {ys : List V} {zs : List (Key × Value)}, LK ks ys zs → RelO (dAt ks ys q) (valueAt zs m)
  | [], [], [], _ => trivial
  | k :: ks, y :: ys, z :: zs, ⟨⟨h1, h3⟩, h4⟩ => by
    have ih := lk_at hq h4
    have e := lk_eq h1 hq
    by_cases hz : z.1 = m
    · have : kEq k q = true := by rw [e]; exact decide_eq_true hz
      simp only [dAt, this, if_true, valueAt, List.find?_cons, hz, decide_true, Option.map_some]
      exact h3
    · have : kEq k q = false := by rw [e]; exact decide_eq_false hz
      simp only [dAt, this, Bool.false_eq_true, if_false, valueAt, List.find?_cons, hz, decide_false]
      exact ih
  | [], [], _ :: _, h => False.elim h
  | [], _ :: _, _, h => False.elim h
  | _ :: _, [], _, h => False.elim h
  | _ :: _, _ :: _, [], h => False.elim h
end
structure DGx (T : Tb) (K : PySem.W.Frag) (io : Nat → Addr) (n : Nat) (F H : Hp) (a : Addr) (ks : List Val) (xs ys : List V) (es : Array DictEntry) (ep : Nat) : Prop where
  at_ : H a = some (DO a es ep)
  ok : KeysOk ks
  en : Ents T.w es.toList ks xs ys
  rk : VRs T K io n F ks xs
theorem Ents.len {w : World} : ∀ {es : List DictEntry} {ks : List Val} {xs ys : List V}, Ents w es ks xs ys → ks.length = es.length ∧ xs.length = es.length ∧ ys.length = es.length
  | [], [], [], [], _ => ⟨rfl, rfl, rfl⟩
  | e :: es, k :: ks, x :: xs, y :: ys, ⟨_, h⟩ => by simp [Ents.len h]
  | [], [], [], _ :: _, h => False.elim h
  | [], [], _ :: _, _, h => False.elim h
  | [], _ :: _, _, _, h => False.elim h
  | _ :: _, [], _, _, h => False.elim h
  | _ :: _, _ :: _, [], _, h => False.elim h
  | _ :: _, _ :: _, _ :: _, [], h => False.elim h
section
variable {X : Cx} {pins : List (Addr × PySem.Obj)} {σ : L2.St} {H : Hp} {s : Shared} {T : Tb} {io : Nat → Addr} {n : Nat} {F : Hp} {a : Addr} {ks : List Val} {xs ys : List V} {es : Array DictEntry} {ep : Nat} {q : Val} {y : V} {u : Value} {A : Around} {E : Value → Shared → Prop}
theorem dgx_T (I : L2.Inv X pins σ H s) (hw : T.w = X.w) (hF : ∀ b o, F b = some o → H b = some o) (g : DGx T X.K io n F H a ks xs ys es ep) (hk : ∀ k ∈ ks, KeyT k) : ∃ zs, ZR ks xs ys zs ∧ s.heap.DictOfH (nestedKind X.prog X.w) a zs ∧ (a == sysModules) = false ∧ zs.length ≤ sizeLine := by
  obtain ⟨h1, h2, o, e1, e2, e3⟩ := do_at I g.at_
  obtain ⟨zs, z1, z2⟩ := zr_of (P := X.prog) hk (hw ▸ g.en) g.rk
  have hz : zs.length = es.size := by
    have := congrArg List.length z2
    simpa using this.symm
  refine ⟨zs, z1, ⟨o, es, ep, e1, e2, e3, z2, ?_, zr_nodup z1 g.ok.2⟩, h1, by rw [hz]; exact h2⟩
  have : ∀ {ks : List Val} {xs ys : List V} {zs : List (NestedKey × Addr × Value)}, (∀ k ∈ ks, KeyT k) → VRs T X.K io n F ks xs → ZR ks xs ys zs → ∀ x ∈ zs, (nestedKind X.prog X.w).is s.heap x.1 x.2.1 := by
    intro ks
    induction ks with
    | nil =>
      intro xs ys zs _ r z x hx
      cases r
      cases ys <;> cases zs <;> first | (exact False.elim z) | (cases hx)
    | cons k ks ih =>
      intro xs ys zs hk r z x hx
      cases r with
      | cons r1 r2 =>
        cases ys with
        | nil => exact False.elim z
        | cons y ys =>
          cases zs with
          | nil => exact False.elim z
          | cons z' zs =>
            obtain ⟨⟨a1, a2, a3⟩, a4⟩ := z
            rcases List.mem_cons.mp hx with rfl | hx
            · obtain ⟨l, el, dl⟩ := hk k (by simp)
              have : x.1 = NestedKey.tup l := by rw [el] at a1; exact (Option.some.inj a1).symm
              subst a2
              exact ⟨nkV_is I hF k _ _ _ a1 r1 rfl, by rw [this]; exact dl⟩
            · exact ih (fun k hk' => hk k (List.mem_cons_of_mem _ hk')) r2 a4 x hx
  exact this hk g.rk z1
theorem dgx_L (I : L2.Inv X pins σ H s) (hw : T.w = X.w) (g : DGx T X.K io n F H a ks xs ys es ep) (hk : ∀ k ∈ ks, KeyL k) : ∃ zs, LK ks ys zs ∧ s.heap.DictOf (mixKind X.prog X.w) a zs ∧ (a == sysModules) = false ∧ zs.length ≤ sizeLine := by
  obtain ⟨h1, h2, o, e1, e2, e3⟩ := do_at I g.at_
  obtain ⟨zs, z1, z2⟩ := zl_of X.prog hk (hw ▸ g.en) g.rk
  obtain ⟨l1, l2⟩ := zl_lk X.prog X.w z1
  refine ⟨zs, l1, ⟨o, es, ep, e1, e2, e3, fun e he => z2 e (by simpa using he), l2, lk_nodup l1 g.ok.2⟩, h1, ?_⟩
  rw [← l2.length]; simpa using h2
theorem keyT_is (I : L2.Inv X pins σ H s) (hF : ∀ b o, F b = some o → H b = some o) (hq : KeyT q) (rq : VR T X.K io n F q y) (ry : RelV y u) : ∃ m b, nkV q = some m ∧ y = .ref b ∧ u = .ref b ∧ (nestedKind X.prog X.w).is s.heap m b := by
  obtain ⟨b, rfl⟩ := hq.tupV rq
  obtain ⟨l, el, dl⟩ := hq
  cases (show u = Value.ref b from ry)
  exact ⟨_, b, el, rfl, rfl, nkV_is I hF q _ _ _ el rq rfl, dl⟩
theorem room8 (hu : A.units + 64 < cLine) : (nestedKind X.prog X.w).room A.in1 := by show A.units + 1 + 8 < cLine; omega
theorem x_get {z : V} {Q : Value → Shared → Prop} (hu : A.units + 64 < cLine) (I : L2.Inv X pins σ H s) (hw : T.w = X.w) (hF : ∀ b o, F b = some o → H b = some o) (g : DGx T X.K io n F H a ks xs ys es ep) (rq : VR T X.K io n F q y) (ry : RelV y u) (fit : fitK ks q = true) (hz : dAt ks ys q = some z)
    (h : ∀ w' s', L2.Inv X pins σ H s' → RelV z w' → Q w' s') : wpAny (model X.prog X.w) A (getItem (.ref a) u) Q E s := by
  rcases fit_ok g.ok fit with ⟨h1, h2⟩ | ⟨h1, h2⟩
  · obtain ⟨zs, z1, dd, hd, _⟩ := dgx_T I hw hF g h2
    obtain ⟨m, b, em, rfl, rfl, hk⟩ := keyT_is I hF h1 rq ry
    have r := zr_at em z1
    rw [hz] at r
    obtain ⟨w', hw', rw'⟩ := RelO.some_of (v := z) r
    obtain ⟨p, hp, hp2⟩ := Option.map_eq_some_iff.mp hw'
    refine wpAny_getItem_heap (room8 hu) hk dd hp ?_
    rw [hp2]
    exact h w' _ (I.tok _) rw'
  · obtain ⟨zs, z1, dd, hd, _⟩ := dgx_L I hw g h2
    obtain ⟨m, em⟩ := h1.lk
    have r := lk_at em z1
    rw [hz] at r
    obtain ⟨w', hw', rw'⟩ := RelO.some_of (v := z) r
    exact wpAny_getItem_of (knd := mixKind X.prog X.w) (lk_is em rq ry) dd.mapOf hw' (h w' _ (I.tok _) rw')
structure PutOk (X : Cx) (pins : List (Addr × PySem.Obj)) (σ : L2.St) (H : Hp) (T : Tb) (a : Addr) (es : Array DictEntry) (ep : Nat) (ks : List Val) (xs ys : List V) (q : Val) (y z : V) (s' : Shared) : Prop where
  ex : ∃ es' ep', Ents T.w es'.toList (putKs ks ks q q) (putKs ks xs q y) (putVs ks ys q z) ∧ (ep = es.size → ep' = es'.size) ∧ L2.Inv X pins σ (upd H a (DO a es' ep')) s'
end
end Py
namespace Py
open PySem PySem.Spec PyProof.Rows L2
def dctOf (h : Hh) : Val → Option (List Val × List Val)
  | .dct ks vs => some (ks, vs)
  | .ref k => (match h[k]? with
    | some (.dct ks vs) => some (ks, vs)
    | _ => none)
  | _ => none
theorem dctOf_ok {T : Tb} {K : PySem.W.Frag} {io : Nat → Addr} {F H : Hp} {h : Hh} {v : Val} {x : V} {ks vs : List Val} (sr : SR T K io h F H) (r : VR T K io h.length F v x) (e : dctOf h v = some (ks, vs)) :
    ∃ a xs ys es ep, x = .ref a ∧ DGx T K io h.length F H a ks xs ys es ep ∧ VRs T K io h.length F vs ys := by
  unfold dctOf at e
  cases r with
  | @dct ks' vs' a es ep xs ys q hk he r1 r2 =>
    cases e
    exact ⟨a, xs, ys, es, ep, rfl, ⟨sr.sub _ _ q, hk, he, r1⟩, r2⟩
  | ref k hk =>
    dsimp only at e
    cases ek : h[k]? with
    | none => rw [ek] at e; cases e
    | some ob =>
      rw [ek] at e
      cases ob with
      | dct ks' vs' =>
        cases e
        obtain ⟨es, ep, xs, ys, ea, hkk, he, r1, r2⟩ := sr.obj k _ ek
        exact ⟨io k, xs, ys, es, ep, rfl, ⟨ea, hkk.2, he, r1⟩, r2⟩
      | _ => cases e
  | _ => cases e
def DHas (K : PySem.W.Frag) (w : World) (H : Hp) (y : V) (a : Addr) (o : Option V) : Prop := ∃ (T : Tb) (io : Nat → Addr) (n : Nat) (F : Hp) (ks : List Val) (xs ys : List V) (es : Array DictEntry) (ep : Nat) (q : Val),
  T.w = w ∧ (∀ b u, F b = some u → H b = some u) ∧ DGx T K io n F H a ks xs ys es ep ∧ VR T K io n F q y ∧ fitK ks q = true ∧ o = dAt ks ys q
section
variable {X : Cx}
end
section
variable {T : Tb} {K : PySem.W.Frag} {w : World}
end
theorem pe_or {X : Cx} {e : Expr} {t u : TE} (h1 : PE X e t) (h2 : PE X e u) : PE X e (fun σ H Q => t σ H Q ∨ u σ H Q) := ⟨fun pins s σ H Q I q => q.elim (h1.run pins s σ H Q I) (h2.run pins s σ H Q I)⟩
def gIxX : G2 := fun h v u => match dctOf h v with
  | some (ks, vs) => if fitK ks u = true then dAt ks vs u else none
  | none => gIx h v u
section
variable {T : Tb} {X : Cx} {W : WX} {a b c e o i : Expr} {fa fb fc fe fo fi : Ex} {pos : Pos}
def tDGetX (K : PySem.W.Frag) (w : World) (td ty : TE) : TE := fun σ H Q => td σ H fun x H1 => ty σ H1 fun y H2 => ∃ a v, x = .ref a ∧ DHas K w H2 y a (some v) ∧ Q v H2
theorem dhas_type {pins : List (Addr × PySem.Obj)} {σ : L2.St} {H : Hp} {s : Shared} {y : V} {ad : Addr} {ov : Option V} (I : L2.Inv X pins σ H s) (g : DHas X.K X.w H y ad ov) : s.TypeIs (.ref ad) "dict" := by
  obtain ⟨T, io, n, F, ks, xs, ys, es, ep, q, hw, hF, g, rq, fit, rfl⟩ := g
  exact (do_at I g.at_).2.2.typeIs
theorem pe_dgetX {td ty : TE} (hu : X.A.units + 64 < cLine) (ho : PE X o td) (hi : PE X i ty) (hs : NoSl i) : PE X (.Subscript o i pos) (tDGetX X.K X.w td ty) := by
  refine ⟨fun pins s σ H Q I h => subD_of PySem.F.slot_dict_getitem.lookup hs (thn (ho.run pins s σ H _ I h) ?_)⟩
  rintro u s1 ⟨x, H1, I1, rx, q1⟩
  refine thn (hi.run pins s1 σ H1 _ I1 q1) ?_
  rintro iv s2 ⟨y, H2, I2, ry, ad, v, rfl, g, q2⟩
  obtain rfl : u = Value.ref ad := rx
  refine ⟨dhas_type I2 g, ?_⟩
  obtain ⟨T, io, n, F, ks, xs, ys, es, ep, q, hw, hF, g, rq, fit, e⟩ := g
  exact x_get hu I2 hw hF g rq ry fit e.symm fun w' s3 I3 rw' => ⟨v, H2, I3, rw', q2⟩
theorem xOp_ix (sg : Sg) (h : Hh) : (∃ v h1 u h2 p, fa sg h = .ok v h1 ∧ fb sg h1 = .ok u h2 ∧ dctOf h2 v = some p) ∨ xOp gIxX fa fb sg h = xOp gIx fa fb sg h := by
  unfold xOp
  cases e1 : fa sg h with
  | bad => exact .inr rfl
  | exc c fs h1 => exact .inr rfl
  | ok v h1 =>
    cases e2 : fb sg h1 with
    | bad => right; simp [Res.bind, e2]
    | exc c fs h2 => right; simp [Res.bind, e2]
    | ok u h2 =>
      cases ed : dctOf h2 v with
      | some p => exact .inl ⟨v, h1, u, h2, p, rfl, e2, ed⟩
      | none => right; simp [Res.bind, e2, gIxX, ed]
theorem je_ixX (hw : T.w = X.w) (hu : X.A.units + 64 < cLine) (ha : JE T X W a fa) (hb : JE T X W b fb) (hs : PlainIx b := by exact fun _ _ => rfl) (hs2 : NoSl b := by exact fun _ _ => rfl) : JE T X W (.Subscript a b pos) (xOp gIxX fa fb) := by
  refine pe_imp (pe_or (je_ix ha hb hs) (pe_dgetX hu ha hb hs2)) fun σ H Q ⟨io, h, F, sg, sr, rs, w⟩ => ?_
  rcases xOp_ix (fa := fa) (fb := fb) sg h with ⟨v, h1, u, h2, ⟨ks, vs⟩, e1, e2, ed⟩ | q
  · refine .inr ⟨io, h, F, sg, sr, rs, ?_⟩
    unfold xOp at w
    rw [e1] at w ⊢
    intro io1 F1 H1 x st1 sr1 vr
    have w1 := Wants.rebase w st1 sr1
    refine ⟨io1, h1, F1, sg, sr1, rs.step st1, ?_⟩
    simp only [Res.bind, e2] at w1
    rw [e2]
    intro io2 F2 H2 y st2 sr2 vu
    have w2 := Wants.rebase w1 st2 sr2
    simp only [gIxX, ed] at w2
    obtain ⟨z, ez, w3⟩ := wants_ofO w2
    split at ez
    · rename_i fit
      obtain ⟨ad, xs, ys, es, ep, rfl, g, r2⟩ := dctOf_ok sr2 (vr.step st2) ed
      obtain ⟨zz, ezz, rz⟩ := (dAt_rel (q := u) (ks := ks) r2).1 z ez
      exact ⟨ad, zz, rfl, ⟨T, io2, h2.length, F2, ks, xs, ys, es, ep, u, hw, sr2.sub, g, vu, fit, ezz.symm⟩, w3 io2 F2 H2 zz .refl sr2 rz⟩
    · cases ez
  · rw [q] at w
    exact .inl ⟨io, h, F, sg, sr, rs, w⟩
end
section
variable {T : Tb} {X : Cx} {W : WX} {pos : Pos}
theorem keys0 : KeysOk [] := ⟨.inl fun k hk => (by cases hk), List.nodup_nil⟩
end
end Py
namespace Py
open PySem PySem.Spec PyProof.Rows L2
def ItX (d : Addr) (ep n0 : Nat) (pick : DictEntry → Value) : It where
  go := fun i H => ∃ es e x, H d = some (DO d es ep) ∧ es.size = n0 ∧ es[i]? = some e ∧ RelV x (pick e)
  yld := fun i H x H' => H' = H ∧ ∀ es e, H d = some (DO d es ep) → es[i]? = some e → RelV x (pick e)
  stop := fun i H => ∃ es, H d = some (DO d es ep) ∧ es.size = n0 ∧ n0 ≤ i
def ItXi (d : Addr) (ep n0 : Nat) : It where
  go := fun i H => ∃ es e x y, H d = some (DO d es ep) ∧ es.size = n0 ∧ es[i]? = some e ∧ RelV x e.key ∧ RelV y e.val
  yld := fun i H z H' => ∃ p x y, z = .ref p ∧ H p = none ∧ H' = upd H p (.tup [x, y]) ∧ ∀ es e, H d = some (DO d es ep) → es[i]? = some e → RelV x e.key ∧ RelV y e.val
  stop := fun i H => ∃ es, H d = some (DO d es ep) ∧ es.size = n0 ∧ n0 ≤ i
theorem raw_same {h : Heap} {d : Addr} {es es' : Array DictEntry} {ep ep' : Nat} (a : h.DictRaw d es ep) (b : h.DictRaw d es' ep') : es = es' := by
  obtain ⟨o, h1, _, h3⟩ := a
  obtain ⟨o', k1, _, k3⟩ := b
  rw [h1] at k1; cases k1
  rw [h3] at k3; injection k3
section
variable {P : Program} {w : World} {K : PySem.W.Frag} {tg : Expr} {d : Addr} {ep n0 : Nat}
theorem turn_kx (it : Addr) : Turn P w K tg (ItX d ep n0 (·.key)) [it] it (fun i h => h.IsKeyIter it d i n0 ep) where
  mem := List.mem_singleton.mpr rfl
  obj := fun i h st b hb => by
    obtain rfl := List.mem_singleton.mp hb
    obtain ⟨oi, z, _, dd⟩ := st
    exact ⟨oi, z, fun v q => by rw [dd] at q; cases q⟩
  keep := fun i h h' st k => st.at fun oi z => k it (List.mem_singleton.mpr rfl) oi z
  item := by
    intro X eP ew eK hc i pins s σ H E I hf st ⟨es, e, x, hd, hz, he, rx⟩
    subst eP ew eK hz
    obtain ⟨f0, f1, _, f3, f4, f5⟩ := hf it (List.mem_singleton.mpr rfl)
    obtain ⟨_, _, hm⟩ := do_at I hd
    obtain ⟨hi, ee⟩ := Array.getElem?_eq_some_iff.mp he
    refine wpAny_pyNext_keys_item_raw st hm hi fun h' st' sb => ⟨_, rfl, ?_⟩
    obtain ⟨oi, z, c, dd⟩ := id st'
    refine go_of (s := { s with heap := h' }) z c dd (by decide) ⟨x, H, I.turned (t' := s.toks) (fun b ob hb q => (sb.2 b hb).trans q) f0 f1 f3 f4 f5, by rw [ee]; exact rx, ⟨rfl, fun es' e' hd' he' => ?_⟩, st', fun b hb => (hf b hb).1⟩
    obtain rfl := raw_same hm (do_at I hd').2.2
    rw [he] at he'; cases he'; exact rx
  done := by
    intro X eP ew eK hc i pins s σ H E I hf st ⟨es, hd, hz, hi⟩
    subst eP ew eK hz
    obtain ⟨f0, f1, _, f3, f4, f5⟩ := hf it (List.mem_singleton.mpr rfl)
    exact wpAny_pyNext_keys_end_raw (I.ok.hd hc) st (do_at I hd).2.2 hi fun h' eb => ⟨rfl, I.turned (t' := s.toks) (fun b ob hb q => eb b ob hb q) f0 f1 f3 f4 f5⟩
  self := fun A i s Q E st h => wpAny_pyIter_keyiter st h
end
def iKX (td : TE) : TI := fun σ H R => td σ H fun x H1 => ∃ d es ep, x = .ref d ∧ H1 d = some (DO d es ep) ∧ R (ItX d ep es.size (·.key)) H1
section
variable {X : Cx} {tg e : Expr} {td : TE} {apos cpos : Pos}
theorem pi_kx (he : PE X e td) : PI X tg e (iKX td) := by
  refine ⟨fun pins s σ H R I h => thn (he.run pins s σ H _ I h) ?_⟩
  rintro u s1 ⟨x, H1, I1, rx, d, es, ep, rfl, hd, q⟩
  obtain rfl : u = Value.ref d := rx
  obtain ⟨h1, h2, h3⟩ := do_at I1 hd
  exact wpAny_pyIter_dict_raw h1 h3 (pi_one (tk := s1.toks) I1 _ (turn_kx _) ⟨_, Heap.get?_push_size _ rfl, rfl, rfl⟩ q)
end
theorem ents_get {w : World} : ∀ {es : List DictEntry} {ks : List Val} {xs ys : List V} {i : Nat} {e : DictEntry}, Ents w es ks xs ys → es[i]? = some e → ∃ k x y, ks[i]? = some k ∧ xs[i]? = some x ∧ ys[i]? = some y ∧ RelV x e.key ∧ RelV y e.val
  | e :: es, k :: ks, x :: xs, y :: ys, 0, e', ⟨⟨_, h2, h3⟩, h4⟩, q => by
    simp at q; subst q
    exact ⟨k, x, y, rfl, rfl, rfl, h2, h3⟩
  | e :: es, k :: ks, x :: xs, y :: ys, i + 1, e', ⟨_, h4⟩, q => by
    obtain ⟨k', x', y', a, b, c, d⟩ := ents_get (i := i) h4 (by simpa using q)
    exact ⟨k', x', y', by simpa using a, by simpa using b, by simpa using c, d⟩
  | [], [], [], [], _, _, _, q => by simp at q
  | [], [], [], _ :: _, _, _, h, _ => False.elim h
  | [], [], _ :: _, _, _, _, h, _ => False.elim h
  | [], _ :: _, _, _, _, _, h, _ => False.elim h
  | _ :: _, [], _, _, _, _, h, _ => False.elim h
  | _ :: _, _ :: _, [], _, _, _, h, _ => False.elim h
  | _ :: _, _ :: _, _ :: _, [], _, _, h, _ => False.elim h
def prs (ks vs : List Val) : List Val := List.zipWith (fun k v => Val.tup [k, v]) ks vs
def dsel : Nat → List Val → List Val → List Val
  | 0, ks, _ => ks
  | 1, _, vs => vs
  | _, ks, vs => prs ks vs
def ItM (d : Addr) (ep n0 : Nat) : Nat → It
  | 0 => ItX d ep n0 (·.key)
  | 1 => ItX d ep n0 (·.val)
  | _ => ItXi d ep n0
section
variable {T : Tb} {K : PySem.W.Frag} {io : Nat → Addr} {F H : Hp} {h : Hh} {d : Addr} {ep : Nat} {ks vs : List Val} {xs ys : List V} {es : Array DictEntry}
theorem yld_m (sr : SR T K io h F H) (hd : H d = some (DO d es ep)) (he : Ents T.w es.toList ks xs ys) (r1 : VRs T K io h.length F ks xs) (r2 : VRs T K io h.length F vs ys) (m i : Nat) : YldOk T K (ItM d ep es.size m) i (dsel m ks vs)[i]? io h F H := by
  have hl := Ents.len he
  have l2 := r2.length
  have ll : es.toList.length = es.size := by simp
  by_cases hi : i < es.size
  · have ee : es.toList[i]? = some es[i] := by simp [hi]
    obtain ⟨k, x, y, ek, ex, ey, rx, ry⟩ := ents_get he ee
    have e2 : es[i]? = some es[i] := by simp [hi]
    obtain ⟨v, ev⟩ : ∃ v, vs[i]? = some v := ⟨vs[i]'(by omega), List.getElem?_eq_getElem _⟩
    have vk : VR T K io h.length F k x := by
      obtain ⟨x', e', q'⟩ := r1.get ek
      rw [ex] at e'; cases e'; exact q'
    have vv : VR T K io h.length F v y := by
      obtain ⟨y', e', q'⟩ := r2.get ev
      rw [ey] at e'; cases e'; exact q'
    match m with
    | 0 =>
      show YldOk T K (ItX d ep es.size (·.key)) i ks[i]? io h F H
      rw [ek]
      refine ⟨⟨es, es[i], x, hd, rfl, e2, rx⟩, fun x' H' ⟨e', z⟩ => ?_⟩
      subst e'
      have := (z es _ hd e2).inj rx
      subst this
      exact ⟨F, .refl, sr, vk⟩
    | 1 =>
      show YldOk T K (ItX d ep es.size (·.val)) i vs[i]? io h F H
      rw [ev]
      refine ⟨⟨es, es[i], y, hd, rfl, e2, ry⟩, fun x' H' ⟨e', z⟩ => ?_⟩
      subst e'
      have := (z es _ hd e2).inj ry
      subst this
      exact ⟨F, .refl, sr, vv⟩
    | m + 2 =>
      show YldOk T K (ItXi d ep es.size) i (prs ks vs)[i]? io h F H
      have ep2 : (prs ks vs)[i]? = some (.tup [k, v]) := by unfold prs; rw [List.getElem?_zipWith, ek, ev]
      rw [ep2]
      refine ⟨⟨es, es[i], x, y, hd, rfl, e2, rx, ry⟩, fun z' H' ⟨p, x', y', e1, hp, e', z⟩ => ?_⟩
      subst e1 e'
      obtain ⟨z1, z2⟩ := z es _ hd e2
      have q1 := z1.inj rx
      have q2 := z2.inj ry
      subst q1 q2
      exact ⟨_, sr.allocStep hp _, sr.alloc hp _, .tup (.inl (.inl upd_same)) ((VRs.cons vk (.cons vv .nil)).step (sr.allocStep hp (.tup [x', y'])))⟩
  · have hn : (dsel m ks vs)[i]? = none := by
      match m with
      | 0 => exact List.getElem?_eq_none (by show ks.length ≤ i; omega)
      | 1 => exact List.getElem?_eq_none (by show vs.length ≤ i; omega)
      | m + 2 => exact List.getElem?_eq_none (by show (prs ks vs).length ≤ i; unfold prs; rw [List.length_zipWith]; omega)
    rw [hn]
    match m with
    | 0 => exact ⟨es, hd, rfl, by omega⟩
    | 1 => exact ⟨es, hd, rfl, by omega⟩
    | m + 2 => exact ⟨es, hd, rfl, by omega⟩
end
def curD (k n0 m : Nat) : Hh → Option (List Val) := fun h => match h[k]? with
  | some (.dct ks vs) => if ks.length = n0 then some (dsel m ks vs) else none
  | _ => none
def srcD (m : Nat) (h : Hh) : Val → Option Src
  | .dct ks vs => some (.items (dsel m ks vs))
  | .ref k => (match h[k]? with
    | some (.dct ks _) => some (.ref (curD k ks.length m))
    | _ => none)
  | _ => none
theorem srcD_ok {T : Tb} {K : PySem.W.Frag} {io : Nat → Addr} {F H : Hp} {h : Hh} {v : Val} {x : V} {m : Nat} {s : Src} (sr : SR T K io h F H) (r : VR T K io h.length F v x) (e : srcD m h v = some s) :
    ∃ d es ep, x = .ref d ∧ H d = some (DO d es ep) ∧ SrcOk T K io h.length F (ItM d ep es.size m) s := by
  unfold srcD at e
  cases r with
  | @dct ks vs a es ep xs ys q hk he r1 r2 =>
    cases e
    refine ⟨a, es, ep, rfl, sr.sub _ _ q, fun i io2 h2 F2 H2 sr2 hn he2 hF hi => ?_⟩
    exact yld_m sr2 (sr2.sub _ _ (hF _ _ q)) he (r1.mono hn he2 hF) (r2.mono hn he2 hF) m i
  | ref k hk =>
    dsimp only at e
    cases ek : h[k]? with
    | none => rw [ek] at e; cases e
    | some ob =>
      rw [ek] at e
      cases ob with
      | dct ks vs =>
        cases e
        obtain ⟨es, ep, xs, ys, ea, hkk, he, r1, r2⟩ := sr.obj k _ ek
        refine ⟨io k, es, ep, rfl, ea, fun i io2 h2 F2 H2 zs sr2 hn he2 hF ec => ?_⟩
        unfold curD at ec
        split at ec
        · rename_i ks2 vs2 ek2
          split at ec
          · rename_i hlen
            cases ec
            obtain ⟨es2, ep2, xs2, ys2, ea2, hkk2, hee2, r12, r22⟩ := sr2.obj k _ ek2
            have l1 := Ents.len he
            have l2 := Ents.len hee2
            simp at l1 l2
            have z1 : es2.size = es.size := by omega
            have z2 : ep2 = ep := by rw [hkk2.1, hkk.1, z1]
            rw [he2 k hk, z2] at ea2
            have := yld_m sr2 ea2 hee2 r12 r22 m i
            rw [z1] at this
            exact this
          · cases ec
        · cases ec
      | _ => cases e
  | _ => cases e
def xID (m : Nat) (e : Ex) : Ix := fun sg h => match e sg h with
  | .ok v h1 => (match srcD m h1 v with
    | some s => .ok s h1
    | none => .bad)
  | .exc c fs h1 => .exc c fs h1
  | .bad => .bad
section
variable {T : Tb} {X : Cx} {W : WX} {tg iter : Expr} {fe : Ex} {apos cpos : Pos}
theorem tI_d {m : Nat} {td : TI} (hd : ∀ σ H R, (tE T X.K W fe σ H fun x H1 => ∃ d es ep, x = .ref d ∧ H1 d = some (DO d es ep) ∧ R (ItM d ep es.size m) H1) → td σ H R) : ∀ σ H R, tI T X.K W (xID m fe) σ H R → td σ H R := by
  rintro σ H R ⟨io, h, F, sg, sr, rs, w⟩
  refine hd σ H R ⟨io, h, F, sg, sr, rs, ?_⟩
  unfold xID at w
  cases e : fe sg h with
  | bad => rw [e] at w; exact w
  | exc c fs h1 => rw [e] at w; exact w
  | ok v h1 =>
    rw [e] at w
    intro io1 F1 H1 x st1 sr1 vr
    dsimp only at w
    cases es : srcD m h1 v with
    | none => rw [es] at w; exact w.elim
    | some s =>
      rw [es] at w
      obtain ⟨d, es, ep, ex, hd, so⟩ := srcD_ok sr1 vr es
      exact ⟨d, es, ep, ex, hd, w io1 F1 H1 _ st1 sr1 so⟩
theorem ji_dkeys (he : JE T X W iter fe) : JI T X W tg iter (xID 0 fe) := pi_imp (pi_kx he) (tI_d fun _ _ _ q => q)
def xISX (e : Ex) : Ix := fun sg h => match e sg h with
  | .ok v h1 => (match srcD 0 h1 v with
    | some s => .ok s h1
    | none => xISq e sg h)
  | _ => xISq e sg h
theorem ji_any (he : JE T X W iter fe) : JI T X W tg iter (xISX fe) := by
  refine pi_imp (pi_or (ji_seq (tg := tg) he) (ji_dkeys (tg := tg) he)) fun σ H R ⟨io, h, F, sg, sr, rs, w⟩ => ?_
  unfold xISX at w
  cases e : fe sg h with
  | bad => rw [e] at w; exact .inl ⟨io, h, F, sg, sr, rs, w⟩
  | exc c fs h1 => rw [e] at w; exact .inl ⟨io, h, F, sg, sr, rs, w⟩
  | ok v h1 =>
    rw [e] at w
    dsimp only at w
    cases es : srcD 0 h1 v with
    | none => rw [es] at w; exact .inl ⟨io, h, F, sg, sr, rs, w⟩
    | some s =>
      rw [es] at w
      refine .inr ⟨io, h, F, sg, sr, rs, ?_⟩
      unfold xID
      rw [e]
      dsimp only
      rw [es]
      exact w
end
end Py
namespace Py
open PySem PySem.Spec PyProof.Rows L2
section
variable {T : Tb} {X : Cx} {W : WX} {o e f : Expr} {fo fe ff : Ex} {apos cpos pos : Pos}
end
theorem call_lenD {X : Cx} : CallR X (.builtin "len") (fun xs H Q => ∃ a es ep, xs = [.ref a] ∧ H a = some (DO a es ep) ∧ Q (.int es.size) H) := by
  intro pins s σ H xs us Q I r h
  obtain ⟨a, es, ep, rfl, hd, q⟩ := h
  match us, r with
  | [u], .cons r1 .nil =>
    cases (show u = Value.ref a from r1)
    obtain ⟨h1, h2, h3⟩ := do_at I hd
    rw [sizeLine_eq] at h2
    exact PyProof.Rows.call_len_slot (n := es.size) h3.typeIs PySem.F.slot_dict_len (fun Q' hq => call_len_raw h1 h3 hq) (by omega) (by omega) ⟨.int es.size, H, I.tok _, ⟨_, rfl⟩, q⟩
def gLenX : GC := fun h vs => match vs with
  | [v] => (match dctOf h v with
    | some (ks, _) => some (.int ks.length, h)
    | none => gLen h [v])
  | _ => none
theorem lift_lenX {T : Tb} {K : PySem.W.Frag} : LiftC T K (fun xs H Q => (fun xs H Q => ∃ x n, xs = [x] ∧ LenV K x H n ∧ Q (.int n) H) xs H Q ∨ (∃ a es ep, xs = [.ref a] ∧ H a = some (DO a es ep) ∧ Q (.int es.size) H)) gLenX := by
  intro io h F H vs xs z h' Q sr r e q
  unfold gLenX at e
  match vs, r, e with
  | [v], .cons r1 .nil, e =>
    dsimp only at e
    cases ed : dctOf h v with
    | none => rw [ed] at e; exact .inl (lift_len io h F H [v] _ z h' Q sr (.cons r1 .nil) e q)
    | some p =>
      obtain ⟨ks, vs⟩ := p
      rw [ed] at e
      cases e
      obtain ⟨a, xs, ys, es, ep, rfl, g, r2⟩ := dctOf_ok sr r1 ed
      have hl := Ents.len g.en
      refine .inr ⟨a, es, ep, rfl, g.at_, ?_⟩
      have z : ks.length = es.size := by simpa using hl.1
      rw [← z]
      exact q io F H _ .refl sr (.int _)
theorem call_lenX {X : Cx} : CallR X (.builtin "len") (fun xs H Q => (fun xs H Q => ∃ x n, xs = [x] ∧ LenV X.K x H n ∧ Q (.int n) H) xs H Q ∨ (∃ a es ep, xs = [.ref a] ∧ H a = some (DO a es ep) ∧ Q (.int es.size) H)) := CallR.or call_len call_lenD
inductive PR (T : Tb) (K : PySem.W.Frag) (io : Nat → Addr) (n : Nat) (F : Hp) : List (Val × Val) → List (V × V) → Prop where
  | nil : PR T K io n F [] []
  | cons {k v : Val} {x y : V} {qs : List (Val × Val)} {ps : List (V × V)} (a : VR T K io n F k x) (b : VR T K io n F v y) (r : PR T K io n F qs ps) : PR T K io n F ((k, v) :: qs) ((x, y) :: ps)
section
variable {T : Tb} {X : Cx} {W : WX} {pins : List (Addr × PySem.Obj)} {σ : L2.St} {io : Nat → Addr} {n : Nat} {F : Hp} {d : Addr} {A : Around} {E : Value → Shared → Prop}
end
end Py
namespace Py
open PySem PySem.Spec PyProof.Rows L2
section
variable {X : Cx} {kx vx tg iter : Expr} {ifs : List Expr} {scope : Scope} {own : List (Str × Nat)} {pos : Pos} {wi : TI} {g : TG} {tt : TT} {tk tv : TE}
end
def Src.le : Src → Nat → Prop
  | .items vs, i => i ≤ vs.length
  | .ref _, _ => True
structure DInv (T : Tb) (K : PySem.W.Frag) (io1 : Nat → Addr) (n1 : Nat) (F1 H1 : Hp) (D : Addr) (io : Nat → Addr) (h : Hh) (F H : Hp) (ks vs : List Val) : Prop where
  sr : SR T K io h F H
  st : Step io1 n1 F1 H1 io h.length F H
  fd : F D = none
  nd : ∀ k, k < h.length → io k ≠ D
  ex : ∃ es ep xs ys, DGx T K io h.length F H D ks xs ys es ep ∧ VRs T K io h.length F vs ys
section
variable {T : Tb} {K : PySem.W.Frag} {io1 io io' : Nat → Addr} {n1 : Nat} {F1 H1 F H F' H' : Hp} {D : Addr} {h h' : Hh} {ks vs : List Val}
theorem DInv.go (c : DInv T K io1 n1 F1 H1 D io h F H ks vs) (st : Step io h.length F H io' h'.length F' H') (sr : SR T K io' h' F' H') : DInv T K io1 n1 F1 H1 D io' h' F' H' ks vs := by
  obtain ⟨es, ep, xs, ys, g, ru⟩ := c.ex
  have e := st.frame D _ g.at_ c.nd
  refine ⟨sr, c.st.trans c.sr st, ?_, fun k hk z => ?_, es, ep, xs, ys, ⟨e, g.ok, g.en, g.rk.step st⟩, ru.step st⟩
  · cases q : F' D with
    | none => rfl
    | some o =>
      exfalso
      rcases st.fresh D o q with z | z | ⟨y, z⟩
      · rw [c.fd] at z; cases z
      · rw [g.at_] at z; cases z
      · subst z
        have := sr.sub D _ q
        rw [e] at this; unfold DO at this; cases this
  · by_cases hk' : k < h.length
    · exact c.nd k hk' ((st.eq k hk').symm.trans z)
    · have := st.new k (by omega) hk
      rw [z, g.at_] at this; cases this
end
section
variable {T : Tb} {X : Cx} {W : WX} {kx vx tg iter : Expr} {ifs : List Expr} {scope : Scope} {pos : Pos} {fi : Ix} {g : Gx} {t fk fv : Ex} {ws : List Nat}
end
end Py
namespace Py
open PySem PySem.Spec PyProof.Rows L2
def SqK (K : PySem.W.Frag) (b : Bool) (H : Hp) (l : Addr) (xs : List V) : Prop := match b with
  | true => SqT K H l xs
  | false => SqL K H l xs
def ItK (b : Bool) (h : Heap) (it l : Addr) (i : Nat) : Prop := match b with
  | true => h.IsTupleIter it l i
  | false => h.IsListIter it l i
def CtK (b : Bool) (h : Heap) (l : Addr) (items : Array Value) : Prop := match b with
  | true => h.IsTuple l items
  | false => h.IsList l items
def obK (b : Bool) (l : Addr) : PySem.Obj := match b with
  | true => { cls := .type "tuple_iterator", data := .fields #[.ref l, .int 0 0] }
  | false => { cls := .type "list_iterator", data := .fields #[.ref l, .int 0 0] }
theorem drK {prog : Program} {w : World} {A : Around} (hh : A.handled = none) (b : Bool) (it l : Addr) (hne : l ≠ it) (items : Array Value) :
    Draws prog w A it [it, l] items.size (fun i v => items[i]? = some v) (fun i h => ItK b h it l i ∧ CtK b h l items) := by
  cases b with
  | true => exact Draws.tuple hh it l hne items
  | false => exact Draws.list hh it l hne items
theorem beK (b : Bool) (l : Addr) (items : Array Value) : Begins (.ref l) (obK b l) (fun h => CtK b h l items) := by
  cases b with
  | true => exact begins_tuple l items
  | false => exact begins_list l items
theorem itK_at {b : Bool} {h h' : Heap} {it l : Addr} {i : Nat} (x : ItK b h it l i) (k : ∀ o, h.get? it = some o → h'.get? it = some o) : ItK b h' it l i := by
  cases b with
  | true => exact Heap.IsTupleIter.at x k
  | false => exact Heap.IsListIter.at x k
theorem itK_obj {b : Bool} {h : Heap} {it l : Addr} {i : Nat} (x : ItK b h it l i) : ∃ o, h.get? it = some o ∧ ∀ v, o.data ≠ .cell v := by
  cases b with
  | true => obtain ⟨o, e, _, d⟩ := x; exact ⟨o, e, fun v q => by rw [d] at q; cases q⟩
  | false => obtain ⟨o, e, _, d⟩ := x; exact ⟨o, e, fun v q => by rw [d] at q; cases q⟩
theorem itK_0 {b : Bool} {h : Heap} {it l : Addr} (e : h.get? it = some (obK b l)) : ItK b h it l 0 := by
  cases b with
  | true => exact ⟨_, e, rfl, rfl⟩
  | false => exact ⟨_, e, rfl, rfl⟩
section
variable {X : Cx} {pins : List (Addr × PySem.Obj)} {σ : L2.St} {H : Hp} {s : Shared} {b : Bool} {l : Addr} {xs ys : List V}
theorem sqK_ct (I : L2.Inv X pins σ H s) (h : SqK X.K b H l xs) : ∃ its : List Value, Vals xs its ∧ CtK b s.heap l its.toArray ∧ l < s.heap.objs.size := by
  cases b with
  | true =>
    obtain ⟨its, r, p, _⟩ := I.tuple h
    exact ⟨its, r, p, p.lt⟩
  | false =>
    obtain ⟨its, r, p, _⟩ := I.list h
    exact ⟨its, r, p.isList, p.lt⟩
theorem sqK_inj (I : L2.Inv X pins σ H s) (h : SqK X.K b H l xs) (h' : SqK X.K b H l ys) : xs = ys := by
  cases b with
  | true => exact I.tuple_inj h h'
  | false => exact I.list_inj h h'
end
theorem neK {b : Bool} {h : Heap} {it l : Addr} {i : Nat} {items : Array Value} (x : ItK b h it l i) (c : CtK b h l items) : l ≠ it := fun e => by
  cases b with
  | true =>
    obtain ⟨o1, e1, k1, _⟩ := x
    obtain ⟨o2, e2, k2, _⟩ := (c : h.IsTuple l items)
    rw [e, e1] at e2; cases e2; rw [k1] at k2
    injection k2 with k; exact absurd k (by decide)
  | false =>
    obtain ⟨o1, e1, k1, _⟩ := x
    obtain ⟨o2, e2, k2, _⟩ := (c : h.IsList l items)
    rw [e, e1] at e2; cases e2; rw [k1] at k2
    injection k2 with k; exact absurd k (by decide)
theorem vget {xs : List V} {its : List Value} {i : Nat} {x : Value} (r : Vals xs its) (e : its.toArray[i]? = some x) : ∃ y, xs[i]? = some y ∧ RelV y x := by
  have e' : its[i]? = some x := by simpa using e
  have hi : i < xs.length := by rw [r.length]; exact (List.getElem?_eq_some_iff.mp e').1
  obtain ⟨u, hu, ru⟩ := r.get (List.getElem?_eq_getElem hi)
  rw [e'] at hu; cases hu
  exact ⟨_, List.getElem?_eq_getElem hi, ru⟩
section
variable {P : Program} {w : World} {K : PySem.W.Frag} {elts : List Expr} {kk : Nat} {tpos : Pos}
end
def ItN (K : PySem.W.Frag) (b : Bool) (l : Addr) : It where
  go := fun i H => ∃ xs, SqK K b H l xs ∧ i < xs.length
  yld := fun i H v H' => ∃ T x, v = .ref T ∧ H T = none ∧ H' = upd H T (.tup [.int (i : Nat), x]) ∧ ∀ xs, SqK K b H l xs → xs[i]? = some x
  stop := fun i H => ∃ xs, SqK K b H l xs ∧ i = xs.length
section
variable {P : Program} {w : World} {K : PySem.W.Frag} {elts : List Expr} {kk : Nat} {tpos : Pos}
theorem turn_n {b : Bool} {l e it : Addr} (hei : e ≠ it) (hel : e ≠ l) :
    Turn P w K (.Tuple elts kk tpos) (ItN K b l) [e, it] e (fun i h => (∃ old, IsEnum h e it i old) ∧ ItK b h it l i) where
  mem := by simp
  obj := fun i h ⟨⟨old, he⟩, h1⟩ c hc => by
    simp only [List.mem_cons, List.not_mem_nil, or_false] at hc
    rcases hc with rfl | rfl
    · exact ⟨_, he, fun v q => nomatch q⟩
    · exact itK_obj h1
  keep := fun i h h' ⟨⟨old, he⟩, h1⟩ k => ⟨⟨old, k e (by simp) _ he⟩, itK_at h1 fun o q => k it (by simp) o q⟩
  item := by
    intro X eP ew eK hc i pins s σ H E I hf ⟨⟨old, he⟩, h1⟩ ⟨xs, q1, g1⟩
    subst eP ew eK
    have hh : X.A.in1.handled = none := I.ok.hd hc
    obtain ⟨its1, r1, c1, _⟩ := sqK_ct I q1
    have elt : e < s.heap.objs.size := Heap.lt_size he
    refine wpAny_pyNext_enum_itemD (drK hh b it l (neK h1 c1) its1.toArray) he ⟨h1, c1⟩ (by rw [List.size_toArray, ← r1.length]; exact g1) hei (by simp [hei, hel]) fun x h' tk p1 eo st1 hT hsz hk => ?_
    refine ⟨_, rfl, wpAny_letOwnedTupleGo_enum (s := { s with heap := h', toks := tk + 1 }) eo fun h'' he'' sb => ?_⟩
    obtain ⟨y, e1, ry⟩ := vget r1 p1
    have hT2 : h''.get? s.heap.objs.size = some { cls := .type "tuple", data := .seq #[.int i tk, x] } := (sb.2 _ (Nat.ne_of_gt elt)).trans hT
    have new : ObjOk X.prog X.w (upd H s.heap.objs.size (.tup [.int (i : Nat), y])) h'' s.heap.objs.size (.tup [.int (i : Nat), y]) := ⟨by show 2 ≤ sizeLine; decide, [.int i tk, x], .cons ⟨_, rfl⟩ (.cons ry .nil), ⟨_, hT2, rfl, _, rfl⟩⟩
    have I1 : L2.Inv X pins σ (upd H s.heap.objs.size (.tup [.int (i : Nat), y])) { s with heap := h'', toks := tk + 1 } :=
      I.turnedNew (t' := tk + 1) (ch := [e, it]) (fun c o hb q => (sb.2 c (fun q' => hb (by simp [q']))).trans (hk c o (fun q' => hb (by simp [q'])) (fun q' => hb (by simp [q'])) q)) hf (Nat.le_refl _) new
    refine ⟨.ref s.heap.objs.size, _, I1, rfl, ⟨_, y, rfl, I.hok.fresh (Nat.le_refl _), rfl, fun l hl => by rw [sqK_inj I hl q1]; exact e1⟩, ⟨⟨x, by simpa using he''⟩, itK_at st1.1 fun o q => (sb.2 _ hei.symm).trans q⟩, fun c hcm => ?_⟩
    rw [upd_ne (Nat.ne_of_lt ?_)]
    · exact (hf c hcm).1
    · simp only [List.mem_cons, List.not_mem_nil, or_false] at hcm
      rcases hcm with rfl | rfl
      · exact elt
      · obtain ⟨o, eo, _⟩ := itK_obj h1; exact Heap.lt_size eo
  done := by
    intro X eP ew eK hc i pins s σ H E I hf ⟨⟨old, he⟩, h1⟩ ⟨xs, q1, g1⟩
    subst eP ew eK
    have hh : X.A.in1.handled = none := I.ok.hd hc
    obtain ⟨its1, r1, c1, _⟩ := sqK_ct I q1
    obtain ⟨f0, f1, _, f3, f4, f5⟩ := hf it (by simp)
    have sz : its1.toArray.size = i := by rw [List.size_toArray, ← r1.length, g1]
    refine wpAny_pyNext_enum_endD (drK hh b it l (neK h1 c1) its1.toArray) he (by rw [sz]; exact ⟨h1, c1⟩) fun h' eb => ⟨rfl, I.turned (t' := s.toks) (fun c o hb q => eb c o hb q) f0 f1 f3 f4 f5⟩
  self := fun A i s Q E ⟨⟨_, he⟩, _⟩ h => wpAny_pyIter_enum he h
end
end Py
namespace Py
open PySem PySem.Spec PyProof.Rows L2
def iN1 (K : PySem.W.Frag) (ta : TA) : TI := fun σ H R => ta σ H fun vs H1 => ∃ b l xs, vs = [.ref l] ∧ SqK K b H1 l xs ∧ R (ItN K b l) H1
theorem meets_enumB {v : Value} {o : PySem.Obj} {Hh : Heap → Prop} (B : Begins v o Hh) :
    Meets (Builtin.«enumerate.__new__» ⟨[.type "enumerate", v], []⟩) (fun _ R s => Hh s.heap ∧
      R (.ok (.ret (.ref (s.heap.push o).objs.size))) { s with heap := (s.heap.push o).push { cls := .type "enumerate", data := .fields #[.none, .bool false, .ref s.heap.objs.size, rawInt 0, .none, .none] } }) :=
  .of_wp fun prog w A R s h => by
    obtain ⟨hp, g, d, tk, os⟩ := s
    obtain ⟨h1, h⟩ := h
    have hsub := sub_enumerate
    have q1 : ∀ {A' : Around} {E : Value → Shared → Prop} {Q : Value → Shared → Prop}, Q (.ref hp.objs.size) ⟨hp.push o, g, d, tk, os⟩ → wpAny (model prog w) A' (pyIter v) Q E ⟨hp, g, d, tk, os⟩ := fun q => B.iter prog w _ _ ⟨hp, g, d, tk, os⟩ _ h1 q
    wp_walk using q1
    refine wpAny_stack_any fun st => wpAny_pure ?_
    split
    · rename_i c _ _ _ _ _
      cases (c == Value.type "enumerate") <;> (wp_walk using q1; exact ⟨_, rfl, h⟩)
    · wp_walk using q1
      exact ⟨_, rfl, h⟩
theorem enumB {prog : Program} {w : World} {A : Around} {E : Value → Shared → Prop} {s : Shared} {v : Value} {o : PySem.Obj} {Hh : Heap → Prop} {Q : Value → Shared → Prop} (B : Begins v o Hh) (h1 : Hh s.heap)
    (h : ∀ h', IsEnum h' (s.heap.objs.size + 1) s.heap.objs.size 0 .none → h'.get? s.heap.objs.size = some o → (∀ b o, s.heap.get? b = some o → h'.get? b = some o) → Q (.ref (s.heap.objs.size + 1)) { s with heap := h' }) :
    wpAny (model prog w) A (call (.type "enumerate") [v]) Q E s := by
  refine callType_new PySem.F.called_enumerate (by decide) (PySem.F.typeCall_enumerate_1 _) (PySem.F.newCall_enumerate_1 _) (fun obj => PySem.F.args_object_init_2 obj _) PySem.F.entry_enumerate_new (meets_enumB B) ⟨h1, ?_⟩
  have hz : (s.heap.push o).objs.size = s.heap.objs.size + 1 := Heap.size_push ..
  show _ ∧ _
  rw [hz]
  have he := Heap.get?_push_size (s.heap.push o) (o := { cls := .type "enumerate", data := .fields #[.none, .bool false, .ref s.heap.objs.size, rawInt 0, .none, .none] }) rfl
  rw [hz] at he
  exact ⟨⟨_, he, rfl⟩, h _ he (Heap.get?_push_of_some _ (Heap.get?_push_size _ B.free)) fun b o x => Heap.get?_push_of_some _ (Heap.get?_push_of_some _ x)⟩
section
variable {X : Cx} {e e2 e3 : Expr} {ta : TA} {p pos tpos : Pos} {elts : List Expr} {kk : Nat}
theorem fresh_fp {pins : List (Addr × PySem.Obj)} {σ : L2.St} {H : Hp} {s : Shared} {N : Nat} (I : L2.Inv X pins σ H s) (hN : N = s.heap.objs.size) {l : List Addr} (hl : ∀ b ∈ l, N ≤ b) : ∀ b ∈ l, FpOk X pins H b := fun b hb => I.fpOk (hN ▸ hl b hb) (I.hok.fresh (hN ▸ hl b hb))
theorem pi_n1 (hg : Gl X "enumerate") (hm : X.mg "enumerate" = none) (ha : PA X [e] ta) (hs : starEach [e] X.env = [(false, eval e X.env)] := by rfl) : PI X (.Tuple elts kk tpos) (.Call (.Name "enumerate" p) [e] [] pos) (iN1 X.K ta) := by
  refine ⟨fun pins s σ H R I h => Call_ (ld_blt I hg hm boot_enumerate (PyProof.Rows.callWith_type1 (thn (ha.run pos pins s σ H _ I h) ?_) hs rfl))⟩
  rintro us s1 ⟨vs, H1, I1, r1, b, l, xs, rfl, q1, q⟩
  match us, r1 with
  | [u1], .cons ra .nil =>
    cases (show u1 = Value.ref l from ra)
    obtain ⟨its1, v1, c1, lt1⟩ := sqK_ct I1 q1
    refine enumB (beK b l its1.toArray) c1 fun h' he h1 hk => wpAny_pyIter_enum he ?_
    refine ⟨_, [s1.heap.objs.size + 1, s1.heap.objs.size], _, _, H1, rfl, I1.kept (t' := s1.toks) hk, turn_n (Nat.succ_ne_self _) (Nat.ne_of_gt (Nat.lt_succ_of_lt lt1)), ⟨⟨_, he⟩, itK_0 h1⟩, fresh_fp I1 rfl fun b hb => ?_, q⟩
    simp only [List.mem_cons, List.not_mem_nil, or_false] at hb
    rcases hb with rfl | rfl <;> omega
end
def seqF : Val → Option (Bool × List Val)
  | .tup vs => some (true, vs)
  | .lst vs => some (false, vs)
  | _ => none
theorem sqK_mono {K : PySem.W.Frag} {b : Bool} {F F' : Hp} {l : Addr} {xs : List V} (hF : ∀ c o, F c = some o → F' c = some o) (h : SqK K b F l xs) : SqK K b F' l xs := by
  cases b with
  | true => exact sqT_mono hF h
  | false => exact sqL_mono hF h
theorem seqF_ok {T : Tb} {K : PySem.W.Frag} {io : Nat → Addr} {n : Nat} {F : Hp} {v : Val} {x : V} {b : Bool} {vs : List Val} (r : VR T K io n F v x) (e : seqF v = some (b, vs)) : ∃ l xs, x = .ref l ∧ SqK K b F l xs ∧ VRs T K io n F vs xs := by
  cases r with
  | tup q r => cases e; exact ⟨_, _, rfl, q, r⟩
  | lst q r => cases e; exact ⟨_, _, rfl, q, r⟩
  | _ => cases e
def enumF : Nat → List Val → List Val
  | _, [] => []
  | i, v :: vs => .tup [.int i, v] :: enumF (i + 1) vs
theorem enumF_get : ∀ {vs : List Val} {k i : Nat}, (enumF k vs)[i]? = (vs[i]?).map fun v => .tup [.int ((k + i : Nat) : Int), v]
  | [], k, i => by simp [enumF]
  | v :: vs, k, 0 => by simp [enumF]
  | v :: vs, k, i + 1 => by
    have := enumF_get (vs := vs) (k := k + 1) (i := i)
    simp only [enumF, List.getElem?_cons_succ, this]
    rw [show k + 1 + i = k + (i + 1) by omega]
theorem enumF_len : ∀ {vs : List Val} {k : Nat}, (enumF k vs).length = vs.length
  | [], _ => rfl
  | v :: vs, k => by simp [enumF, enumF_len (vs := vs)]
section
variable {T : Tb} {X : Cx} {W : WX} {e e2 e3 : Expr} {fl : Lx} {p pos tpos : Pos} {elts : List Expr} {kk : Nat}
def xIN (l : Lx) : Ix := fun sg h => match l sg h with
  | .ok [u] h1 => (match seqF u with
    | some (_, xs) => .ok (.items (enumF 0 xs)) h1
    | _ => .bad)
  | .ok _ _ => .bad
  | .exc c fs h1 => .exc c fs h1
  | .bad => .bad
theorem get_some {α : Type} {l : List α} {i : Nat} (h : i < l.length) : ∃ a, l[i]? = some a := ⟨l[i], List.getElem?_eq_getElem h⟩
theorem VRs.at {K : PySem.W.Frag} {io : Nat → Addr} {n : Nat} {F : Hp} {vs : List Val} {xs : List V} {i : Nat} {v : Val} {x : V} (r : VRs T K io n F vs xs) (ev : vs[i]? = some v) (ex : xs[i]? = some x) : VR T K io n F v x := by
  obtain ⟨y, e, q⟩ := r.get ev
  rw [ex] at e; cases e; exact q
theorem ji_enum (hm : X.mg "enumerate" = none) (ha : JA T X W [e] fl) (hg : Gl X "enumerate" := by rfl) (hs : starEach [e] X.env = [(false, eval e X.env)] := by rfl) : JI T X W (.Tuple elts kk tpos) (.Call (.Name "enumerate" p) [e] [] pos) (xIN fl) := by
  refine pi_imp (pi_n1 hg hm ha hs) fun σ H R ⟨io, h, F, sg, sr, rs, w⟩ => ⟨io, h, F, sg, sr, rs, ?_⟩
  unfold xIN at w
  cases ef : fl sg h with
  | bad => rw [ef] at w; exact w
  | exc c fs h1 => rw [ef] at w; exact w
  | ok vs h1 =>
    rw [ef] at w
    intro io1 F1 H1 zs st1 sr1 vr
    match vs, vr, w with
    | [u], .cons ru .nil, w =>
      dsimp only at w
      cases eu : seqF u with
      | none => rw [eu] at w; exact w.elim
      | some pu =>
        obtain ⟨b1, xs⟩ := pu
        rw [eu] at w
        obtain ⟨l1, x1, rfl, s1, r1⟩ := seqF_ok ru eu
        refine ⟨b1, l1, x1, rfl, sqK_mono sr1.sub s1, w io1 F1 H1 _ st1 sr1 fun i io2 h2 F2 H2 sr2 hn he hF hi => ?_⟩
        have t1 : SqK X.K b1 H2 l1 x1 := sqK_mono sr2.sub (sqK_mono hF s1)
        have e1 := r1.length
        rw [enumF_len] at hi
        by_cases hlt : i < xs.length
        · obtain ⟨a, ea⟩ := get_some hlt
          have ep : (enumF 0 xs)[i]? = some (.tup [.int (i : Int), a]) := by rw [enumF_get, ea]; simp
          rw [ep]
          refine ⟨⟨x1, t1, by omega⟩, fun z H' ⟨A, x, ez, hA, eH, f1⟩ => ?_⟩
          subst ez eH
          have va := (r1.mono hn he hF).at ea (f1 _ t1)
          exact ⟨_, sr2.allocStep hA _, sr2.alloc hA _, .tup (.inl (.inl upd_same)) ((VRs.cons (.int _) (.cons va .nil)).step (sr2.allocStep hA (.tup [.int (i : Nat), x])))⟩
        · rw [List.getElem?_eq_none (by rw [enumF_len]; omega)]
          exact ⟨x1, t1, by omega⟩
    | [], _, w => exact w.elim
    | _ :: _ :: _, _, w => exact w.elim
end
end Py
namespace Py
open PySem PySem.Spec PyProof.Rows L2
def atL {α : Type} : List α → Nat → List α
  | [], _ => []
  | a :: _, 0 => [a]
  | _ :: l, n + 1 => atL l n
def pickL {α : Type} : List Nat → List α → List α
  | [], _ => []
  | i :: is, l => atL l i ++ pickL is l
section
variable {T : Tb} {K : PySem.W.Frag} {io : Nat → Addr} {n : Nat} {F : Hp}
end
def KB (K : PySem.W.Frag) (fd : FuncData) (ps : List Str) (np : Nat) (ks : List Str) (pk : List Nat) (ds : List Value) : Prop :=
  ∀ (s : Shared) (us ws : List Value), K.In s.heap → us.length = np → ws.length = ks.length → BindsTo s fd ⟨us, ks.zip ws⟩ (ps.zip (pickL pk (us ++ (ws ++ ds))))
section
variable {K : PySem.W.Frag} {x qual : Str} {params : Arguments} {body : List Stmt} {scope : Scope} {dvs : List V} {kws : List (Str × V)} {f : Addr} {fd : FuncData} {ps : List Str}
end
section
variable {T : Tb} {X : Cx} {W : WX} {e : Expr} {fe : Ex} {fr : Lx} {kws : List Keyword} {nm : Option Str} {kpos : Pos}
end
section
variable {T : Tb} {X : Cx} {W : WX} {k np : Nat} {a : Addr} {fd : FuncData} {ps ks : List Str} {sp : Sp} {pk : List Nat} {dvs : List V} {ds : List Value} {x : Str} {p pos : Pos} {e : Expr} {es : List Expr} {kws : List Keyword} {f : Fx} {l lk : Lx} {t tk : TA} {E : L2.St → XK} {CXq : CXT}
end
end Py
namespace Py
open PySem PySem.Spec PyProof.Rows L2
section
variable {T : Tb} {X : Cx} {W : WX} {e o : Expr} {es : List Expr} {fo : Ex} {fl : Lx} {pos apos : Pos} {ps : List Str} {k : Nat} {f : Fx} {m : Str} {c : Nat} {a : Addr} {dvs : List V} {dfl : List Val}
end
section
variable {T : Tb} {K : PySem.W.Frag} {X : Cx} {W : WX} {e : Expr} {fe : Ex} {pos : Pos}
end
end Py
namespace Py
open PySem PySem.Spec PyProof.Rows L2
section
variable {T : Tb} {K : PySem.W.Frag} {io : Nat → Addr} {n : Nat} {F : Hp}
end
section
variable {T : Tb} {K : PySem.W.Frag}
end
end Py
namespace Py
open PySem PySem.Spec PyProof.Rows L2
end Py
namespace Py
open PySem PySem.Spec PyProof.Rows L2
end Py
namespace Py
open PySem PySem.Spec PyProof.Rows L2
section
variable {prog : Program} {w : World} {A : Around} {E : Value → Shared → Prop} {s : Shared} {d : Addr} {xs : List (NestedKey × Addr × Value)}
end
end Py
namespace Py
open PySem PySem.Spec PyProof.Rows L2
def tC (a c : Int) : Int := if 0 < a then c else c + 1
end Py
namespace Py
open PySem PySem.Spec PyProof.Rows L2
section
variable {T : Tb} {X : Cx} {W : WX} {pos : Pos}
end
end Py
namespace Py
open PySem PySem.Spec PyProof.Rows L2
section
variable {X : Cx} {t t' : TS} {te te' : TE} {st : Stmt} {ss : List Stmt} {e : Expr}
end
section
variable {T : Tb} {X : Cx} {W : WX} {st : Stmt} {rest : List Stmt} {e : Expr} {fe : Ex} {f g : Sx} {pos : Pos}
end
section
variable {T : Tb} {X : Cx} {W : WX} {e o : Expr} {es : List Expr} {fe fo : Ex} {fl : Lx} {apos cpos pos : Pos}
end
section
variable {P : Program} {w : World} {K : PySem.W.Frag} {mg : Str → Option Value} {base : Heap} {C : CXT} {k : Nat} {f : Addr} {x qual : Str} {params : Arguments} {body : List Stmt} {scope : Scope} {dvs : List V} {kws : List (Str × V)} {fd : FuncData} {N ps : List Str} {sp : Sp}
end
end Py
namespace Py
open PySem PySem.Spec PyProof.Rows L2
end Py
namespace Py
open PySem PySem.Spec PyProof.Rows L2
section
variable {T : Tb} {X : Cx} {W : WX} {pos : Pos}
end
end Py
namespace Py
open PySem PySem.Spec PyProof.Rows L2
section
variable {X : Cx} {e : Expr} {td : TE} {p pos apos cpos : Pos}
end
end Py
namespace Py
open PySem PySem.Spec PyProof.Rows L2
section
variable {T : Tb} {K : PySem.W.Frag} {io : Nat → Addr} {F H : Hp} {h : Hh}
end
end Py
namespace Py
open PySem PySem.Spec PyProof.Rows L2
theorem ext_tup (a : Addr) (xs : Array Value) (m : Nat) (c : Addr) (ys : Array Value) (k : Nat) (dd : Option Addr) (sl : Array (Option Value)) (h0 : ¬(!xs.isEmpty && Builtin.List.listTooLong (xs.size + ys.size)) = true) (h1 : xs.size ≤ sizeLine) (h2 : xs.size + ys.size ≤ sizeLine + 1) :
    Meets (Builtin.«list.extend» ⟨[.ref a, .ref c], []⟩) (fun _ R t => t.heap.get? a = some ⟨.type "list", none, .seq xs m, #[]⟩ ∧ t.heap.get? c = some ⟨.type "tuple", dd, .seq ys k, sl⟩ ∧ R (.ok (.ret Value.none)) { t with heap := t.heap.update a (Obj.mapSeq fun x => x ++ ys), toks := t.toks }) :=
  .of_wp fun prog w A R t hh => by
    obtain ⟨hp, g, d, tk, os⟩ := t
    obtain ⟨ha, hc, hr⟩ := hh
    have g1 := AutoSeq1.idx_int
    have g2 := AutoSeq1.sub_tuple_tuple
    have g3 := AutoSeq1.sub_list_list
    have g4 := AutoSeq1.sub_tuple_list
    have g5 := AutoSeq1.sub_list_tuple
    have g6 : (xs ++ ys).size ≤ sizeLine + 1 := by rw [Array.size_append]; exact h2
    wp_walk using (wpAny_updateSeq ha rfl (hz := h1) (_hz' := g6)), wpAny_loadPart' ha, wpAny_loadPart' hc
    exact ⟨_, rfl, hr⟩
def rExtT (K : PySem.W.Frag) : V → List V → Hp → VK → Prop := fun x vs H Q => ∃ l b xs zs, x = .ref l ∧ vs = [.ref b] ∧ H l = some (.lst xs) ∧ SqT K H b zs ∧ xs.length + zs.length ≤ sizeLine ∧ Q .non (upd H l (.lst (xs ++ zs)))
theorem mt_extT {X : Cx} : MtM X "list.extend" (rExtT X.K) := by
  intro pins s σ H x vs v us Q I rx rv h
  obtain ⟨l, b, xs, zs, rfl, rfl, hH, hB, hz, q⟩ := h
  cases rx
  obtain ⟨u, rfl, ru⟩ := vals1 rv
  cases ru
  obtain ⟨z, its, n, r, hl, e⟩ := I.lstM hH
  obtain ⟨its2, r2, ⟨⟨cl, dd, dt, sl⟩, e2, hc, n2, hd⟩, z2⟩ := I.tuple hB
  simp only at hc hd
  subst hc hd
  have l1 : its.length = xs.length := r.length.symm
  have l2 : its2.length = zs.length := r2.length.symm
  have small : its.toArray.size + its2.toArray.size ≤ sizeLine := by rw [List.size_toArray, List.size_toArray]; omega
  have short : ¬ (!its.toArray.isEmpty && Builtin.List.listTooLong (its.toArray.size + its2.toArray.size)) = true := by
    rw [notLongL small, Bool.and_false]
    exact Bool.false_ne_true
  refine call_meets F.slot_list_extend ⟨_, e, rfl⟩ F.entry_list_extend (F.args_list_extend_2 _ _) (ext_tup l its.toArray n b its2.toArray n2 dd sl short (by rw [List.size_toArray]; omega) (by omega)) ⟨e, e2, ?_⟩
  refine ⟨.non, _, I.lset (its' := its ++ its2) hH e (by simp) (r.append r2) ?_, rfl, q⟩
  rw [List.length_append]
  omega
theorem MtR.or {X : Cx} {id : String} {r r' : V → List V → Hp → VK → Prop} (h : MtR X id r) (h' : MtR X id r') : MtR X id fun x xs H Q => r x xs H Q ∨ r' x xs H Q :=
  fun pins s σ H x xs v us Q I rx rxs hq => hq.elim (h pins s σ H x xs v us Q I rx rxs) (h' pins s σ H x xs v us Q I rx rxs)
def gExtendX : GM := fun h v vs => match vs with
  | [.tup ws] => (match mutOf h v with
    | some (k, us) => if us.length + ws.length ≤ 1000000 then some (.non, h.set k (.lst (us ++ ws))) else none
    | none => none)
  | vs => gExtend h v vs
theorem lift_extendX {T : Tb} {K : PySem.W.Frag} : LiftM T K (fun x xs H Q => rExtend x xs H Q ∨ rExtT K x xs H Q) gExtendX := by
  intro io h F H v x vs xs z h' Q sr vr rr e q
  unfold gExtendX at e
  split at e
  · rename_i ws
    split at e
    · rename_i k us em
      split at e
      · rename_i hz
        cases e
        obtain ⟨y, rfl, ur⟩ := one_of rr
        cases ur with
        | tup sq r2 =>
          obtain ⟨xs, rfl, hk, ea, ra, go⟩ := mutOf_ok sr vr em
          obtain ⟨s1, s2⟩ := go (us ++ ws) (xs ++ _) (ra.append r2)
          exact .inr ⟨io k, _, xs, _, rfl, rfl, ea, sqT_mono sr.sub sq, by rw [← ra.length, ← r2.length]; exact sizeOk hz, q io F _ _ s1 s2 .non⟩
      · cases e
    · cases e
  · exact .inl (lift_extend io h F H v x vs xs z h' Q sr vr rr e q)
end Py
namespace Py
open PySem PySem.Spec PyProof.Rows L2
section
variable {T : Tb} {K : PySem.W.Frag} {io : Nat → Addr} {n : Nat} {F : Hp}
theorem VRs.rep {us : List Val} {xs : List V} (r : VRs T K io n F us xs) : ∀ k : Nat, VRs T K io n F (List.replicate k us).flatten (List.replicate k xs).flatten
  | 0 => .nil
  | k + 1 => by rw [List.replicate_succ, List.replicate_succ, List.flatten_cons, List.flatten_cons]; exact r.append (VRs.rep r k)
end
section
variable {T : Tb} {K : PySem.W.Frag}
end
end Py
namespace Py
open PySem PySem.Spec PyProof.Rows L2
section
variable {X : Cx} {i : Nat} {y : Str} {py pos spos : Pos} {kx vx tg iter : Expr} {ifs : List Expr} {scope : Scope} {own : List (Str × Nat)} {wi : TI} {g : TG} {tt : TT} {tk tv : TE}
end
section
variable {T : Tb} {X : Cx} {W : WX} {kx vx tg iter : Expr} {ifs : List Expr} {scope : Scope} {pos py spos : Pos} {fi : Ix} {g : Gx} {t fk fv : Ex} {ws : List Nat} {y : Str}
end
end Py
namespace Py
open PySem PySem.Spec PyProof.Rows L2
end Py
namespace Py
open PySem PySem.Spec PyProof.Rows L2
variable {T : Tb}
end Py
namespace Py
open PySem PySem.Spec PyProof.Rows L2
section
variable {T : Tb} {K : PySem.W.Frag} {io : Nat → Addr} {F H : Hp} {h : Hh}
end
theorem CallR.or {X : Cx} {f : Value} {r r' : List V → Hp → VK → Prop} (h : CallR X f r) (h' : CallR X f r') : CallR X f fun xs H Q => r xs H Q ∨ r' xs H Q :=
  fun pins s σ H xs us Q I rx hq => hq.elim (h pins s σ H xs us Q I rx) (h' pins s σ H xs us Q I rx)
end Py
namespace Py
open PySem PySem.Spec PyProof.Rows L2
theorem for_all3 {body : Val → Sg → Hh → ResS} {P : Sg → Prop} : ∀ (vs : List Val), (∀ v ∈ vs, ∀ sg h, P sg → ∃ sg1 o t, body v sg h = .next sg1 (o :: t) ∧ P sg1) → ∀ sg o t, P sg → ∃ sg1 o1 t1, forItems body vs sg (o :: t) = .next sg1 (o1 :: t1) ∧ P sg1
  | [], _, sg, o, t, p => ⟨sg, o, t, rfl, p⟩
  | v :: r, hb, sg, o, t, p => by
    obtain ⟨sg1, o1, t1, e, p1⟩ := hb v List.mem_cons_self sg (o :: t) p
    obtain ⟨sg2, o2, t2, e2, p2⟩ := for_all3 r (fun u hu => hb u (List.mem_cons_of_mem _ hu)) sg1 o1 t1 p1
    refine ⟨sg2, o2, t2, ?_, p2⟩
    unfold forItems
    rw [e]
    exact e2
theorem law_loop3 {m : Nat} {cnt : Lx} {body rest : Sx} {ns : List Int} (hc : ∀ sg, ∃ j : Int, cnt (some (.lst (ns.map Val.int)) :: sg) [] = .ok [.int j] [] ∧ small62 j = true ∧ 1 ≤ j)
    (hb : ∀ (k : Nat) r h, r.length = m → ∃ r' o t, body (some (.lst (ns.map Val.int)) :: some (.int k) :: r) h = .next (some (.lst (ns.map Val.int)) :: some (.int k) :: r') (o :: t) ∧ r'.length = m)
    (hr : ∀ x r o t, r.length = m → ∃ h', rest (some (.lst (ns.map Val.int)) :: x :: r) (o :: t) = .ret (.bl true) h') :
    ∃ h', fnOf 1 (m + 2) (xSeq (xFor (xIRng1 cnt) (gN 1) body) rest) [] [.lst (ns.map Val.int)] = .ok (.bl true) h' := by
  obtain ⟨j, e, hs, hj⟩ := hc (List.replicate (m + 1) none)
  have step : ∀ v ∈ rng 0 j.toNat, ∀ sg h, (∃ x r, sg = some (.lst (ns.map Val.int)) :: x :: r ∧ r.length = m) → ∃ sg1 o t, bodyOf (gN 1) body v sg h = .next sg1 (o :: t) ∧ ∃ x r, sg1 = some (.lst (ns.map Val.int)) :: x :: r ∧ r.length = m := by
    intro v hv sg h ⟨x, r, es, hr⟩
    obtain ⟨i, hi, ei⟩ := rng_mem _ _ _ hv
    obtain ⟨r', o, t, e, hr'⟩ := hb i r h hr
    refine ⟨_, o, t, ?_, some (.int i), r', rfl, hr'⟩
    subst es ei
    simpa [bodyOf, gN, ResG.bindS] using e
  have start : ∃ sg1 o t, forItems (bodyOf (gN 1) body) (rng 0 j.toNat) (some (.lst (ns.map Val.int)) :: List.replicate (m + 1) none) [] = .next sg1 (o :: t) ∧ ∃ x r, sg1 = some (.lst (ns.map Val.int)) :: x :: r ∧ r.length = m := by
    cases el : rng 0 j.toNat with
    | nil =>
      cases en : j.toNat with
      | zero => omega
      | succ n => rw [en] at el; cases el
    | cons v vs =>
      rw [el] at step
      obtain ⟨sg1, o, t, e1, p1⟩ := step v List.mem_cons_self (some (.lst (ns.map Val.int)) :: List.replicate (m + 1) none) [] ⟨none, List.replicate m none, rfl, by simp⟩
      obtain ⟨sg2, o2, t2, e2, p2⟩ := for_all3 vs (fun u hu => step u (List.mem_cons_of_mem _ hu)) sg1 o t p1
      refine ⟨sg2, o2, t2, ?_, p2⟩
      unfold forItems
      rw [e1]
      exact e2
  obtain ⟨sg', o', t', e2, y, r2, es2, hl2⟩ := start
  subst es2
  obtain ⟨h'', e3⟩ := hr y r2 o' t' hl2
  refine ⟨h'', fnOf_r rfl ((xSeq_n (sg1 := some (.lst (ns.map Val.int)) :: y :: r2) (h1 := o' :: t') ?_).trans e3)⟩
  show xFor (xIRng1 cnt) (gN 1) body (some (.lst (ns.map Val.int)) :: List.replicate (m + 1) none) [] = _
  unfold xFor xIRng1
  rw [e]
  simp only [hs, if_true]
  exact e2
end Py
namespace Py
open PySem PySem.Spec PyProof.Rows L2
section
variable {prog : Program} {w : World} {KT : Type} [DecidableEq KT] {A : Around} {E : Value → Shared → Prop} {s : Shared} {d a : Addr} {o : PySem.Obj} {es : Array DictEntry} {ep : Nat}
end
section
variable {X : Cx} {A : Around} {E : Value → Shared → Prop} {s : Shared} {pins : List (Addr × PySem.Obj)} {σ : L2.St} {H F : Hp} {T : Tb} {io : Nat → Addr} {n : Nat} {a : Addr} {ks : List Val} {xs ys : List V} {es : Array DictEntry} {ep : Nat} {q : Val} {y : V} {u : Value}
end
section
variable {T : Tb} {X : Cx} {W : WX} {o e f : Expr} {fo fe ff : Ex} {apos cpos pos : Pos}
end
end Py
namespace Py
open PySem PySem.Spec PyProof.Rows L2
end Py
namespace Py
open PySem PySem.Spec PyProof.Rows L2
def rCatS (K : PySem.W.Frag) : R2 := fun x y H Q => ∃ l b xs zs, x = .ref l ∧ y = .ref b ∧ SqL K H l xs ∧ SqL K H b zs ∧ xs.length + zs.length ≤ sizeLine ∧ ∀ p, H p = none → Q (.ref p) (upd H p (.lst (xs ++ zs)))
theorem op_catS {X : Cx} : OpR X (binaryOp .Add) (rCatS X.K) := by
  intro pins s σ H x y v u Q I rx ry h
  obtain ⟨l, b, xs, zs, rfl, rfl, hH, hB, hz, q⟩ := h
  cases rx
  cases ry
  obtain ⟨its, r, p1, hl⟩ := I.list hH
  obtain ⟨its2, r2, p2, hl2⟩ := I.list hB
  obtain ⟨⟨cls, dd, data, sl⟩, n, ho, hc, hd0, hd⟩ := p1
  obtain ⟨⟨cls2, dd2, data2, sl2⟩, n2, ho2, hc2, hd02, hd2⟩ := p2
  simp only at hc hd hd0 hc2 hd2 hd02
  subst hc hd hd0 hc2 hd2 hd02
  have e : its.toArray ++ its2.toArray = (its ++ its2).toArray := by simp
  have hsz : its.length + its2.length ≤ sizeLine := by rw [← r.length, ← r2.length]; exact hz
  refine concat_meets ⟨_, ho, rfl⟩ ⟨_, ho2, rfl⟩ noFill_list_add seq_list_add PySem.F.slot_list_add PySem.F.entry_list_add (PySem.F.args_list_add_2 _ _) (list_addW l b its.toArray its2.toArray n n2 none none sl sl2 (by simpa using hsz)) ⟨ho, ho2, ?_⟩
  rw [e]
  exact ⟨.ref _, _, I.lnew (t' := s.toks) (r.append r2) (by rw [List.length_append]; omega), rfl, q _ I.fresh⟩
def gPlusA : G2 := fun h v u => match lstOf h v, lstOf h u with
  | some us, some ws => if us.length + ws.length ≤ 1000000 then some (.lst (us ++ ws)) else none
  | _, _ => gPlus h v u
theorem op_plusA {X : Cx} : OpR X (binaryOp .Add) (fun x y H Q => rPlus X.K x y H Q ∨ rCatS X.K x y H Q) := OpR.or op_plus op_catS
theorem lift_plusA {T : Tb} {K : PySem.W.Frag} : Lift2 T K (fun x y H Q => rPlus K x y H Q ∨ rCatS K x y H Q) gPlusA := by
  intro io h F H v u x y z Q sr vr ur e q
  unfold gPlusA at e
  split at e
  · rename_i us ws em en
    split at e
    · rename_i hz
      cases e
      obtain ⟨a, xs, rfl, ea, ra⟩ := lstOf_ok sr vr em
      obtain ⟨b, ys, rfl, eb, rb⟩ := lstOf_ok sr ur en
      refine .inr ⟨a, b, xs, ys, rfl, rfl, ea, eb, by rw [← ra.length, ← rb.length]; exact sizeOk hz, fun p hp => ?_⟩
      exact q _ _ _ (sr.allocStep hp _) (sr.alloc hp _) (.lst (.inl (.inl upd_same)) ((ra.append rb).step (sr.allocStep hp (.lst (xs ++ ys)))))
    · cases e
  · exact .inl (lift_plus io h F H v u x y z Q sr vr ur e q)
end Py
namespace Py
open PySem PySem.Spec PyProof.Rows L2
section
variable {T : Tb} {X : Cx} {W : WX} {a b c : Expr} {pos : Pos}
end
end Py
namespace Py
open PySem PySem.Spec PyProof.Rows L2
end Py
namespace Py
open PySem PySem.Spec PyProof.Rows L2
variable {T : Tb}
end Py
namespace Py
open PySem PySem.Spec PyProof.Rows L2
theorem jss_never {T : Tb} {X : Cx} {W : WX} {ss : List Stmt} : JSs T X W ss (fun _ _ => .bad) := pss_imp pss_never fun D σ H ⟨io, h, F, sg, sr, rs, w⟩ => w
theorem ko_all {T : Tb} {K : PySem.W.Frag} (hd : ∀ n, T.cn (n + 16) = T.cn 16) (h : ([10, 11, 12, 13, 14, 15, 16] : List Nat).all (fun c => koB K (T.cn c)) = true) : KdO T K := by
  intro c hc
  have h := List.all_eq_true.mp h
  by_cases h6 : 16 ≤ c
  · obtain ⟨n, rfl⟩ : ∃ n, c = n + 16 := ⟨c - 16, by omega⟩
    rw [hd n]; exact fun hm => ko_of (h 16 (by decide)) hm
  · have : c = 10 ∨ c = 11 ∨ c = 12 ∨ c = 13 ∨ c = 14 ∨ c = 15 := by omega
    exact fun hm => ko_of (h c (by rcases this with rfl | rfl | rfl | rfl | rfl | rfl <;> decide)) hm
end Py
namespace PySem
namespace ExI
open PySem.W PySem.Calls PyProof.Rows PySem.HandSPX
structure ExW (i : Bool) (P : Program) (K : Frag) (f : Str) (C fI : Addr) : Prop where
  ff : f = "word" ∨ f = "at"
  cls : ∃ nm q N bs bm sn sub ab col dd k0 k1 k2 k3 k5, K.lookup C = some (excClassObj nm q C N bs bm true sn sub ab col dd k0 k1 k2 k3 k5 (bNew i)) ∧ excTail (bTl i) bm = true
  sa : findIn K (.ref C) "__setattr__" = some (some (.builtin "object.__setattr__"))
  ga : findIn K (.ref C) "__getattribute__" = some (some (.builtin "BaseException.__getattribute__"))
  gg : findIn K (.ref C) "__getattr__" = some none
  noN : findIn K (.ref C) f = some none
  iC : findIn K (.ref C) "__init__" = some (some (.ref fI))
  tC : typeIn K (.ref fI) = some (.type "function")
  kC : keepIn K (.ref C) = true
  exC : subIn K (.ref C) (.type "BaseException") = some true
  tyC : typeIn K (.ref C) = some (.type "type")
  hdC : hasDictIn K C = true
  ho : nsIn K cStatics "thirdparty.any" = some none
  su : nsIn K mainGlobals "super" = some none
  si : ks_superIn K C C "__init__" = some (some (.builtin (bIni i)))
  sv : subIn K (.ref C) (.type (bNm i)) = some true
  sc : mroIn K C (.ref C) = some true
  top : (P.main.scope.names.lookup ("super" : Str)).isSome = false
  fn : ∃ (oc : Value) (od : Option Addr) (doc pm : Value) (an : Option Addr) (cda : Addr) (ct : Value) (osl : Array (Option Value)) (cc : Addr) (qual : Str) (p1 p2 a1 a2 a3 a4 a5 a6 q1 q2 q3 q4 : Pos), a3.endLine = a5.line ∧
    K.lookup fI = some ⟨oc, od, .func (ksFn "__init__" qual (iA f p1 p2) (iB f a1 a2 a3 a4 a5 a6 q1 q2 q3 q4) (iS f) .none .none doc pm an (.ref cda) ct cc), osl⟩ ∧ codeIn K (.ref cda) qual = true ∧
    (∃ (ccl : Value) (cdd : Option Addr) (vs : Array Value) (ccs : Array (Option Value)) (file : Str) (tf : Tok), K.lookup cda = some ⟨ccl, cdd, .fields vs, ccs⟩ ∧ vs[2]? = some (.str file tf) ∧ ((P.main.file : Str) == file) = true) ∧
    ∃ (cl : Value) (cld : Option Addr) (csl : Array (Option Value)), K.lookup cc = some ⟨cl, cld, .cell (some (.ref C)), csl⟩
structure InitEnd (f : Str) (h h' : Heap) (x C dx : Addr) (v : Value) : Prop where
  keep : ∀ b o, b ≠ x → h.get? b = some o → h'.get? b = some o
  obj : ∃ t1 : Addr, h'.get? x = some { cls := .ref C, dict := some dx, data := .fields #[.ref t1, .none, .none, .none, .bool false, .none] }
  dbig : h.objs.size ≤ dx
  dne : dx ≠ x
  ns : h'.Ns1 dx (fun y => if y = f then some v else none)
structure OwnMade (f : Str) (h h' : Heap) (e C d : Addr) (v : Value) : Prop where
  keep : ∀ b o, h.get? b = some o → h'.get? b = some o
  new : h.objs.size ≤ e
  obj : ∃ oe vs, h'.get? e = some oe ∧ oe.cls = .ref C ∧ oe.dict = some d ∧ oe.data = .fields vs ∧ vs[1]? = some .none
  dbig : h.objs.size ≤ d
  dne : d ≠ e
  ns : h'.Ns1 d (fun y => if y = f then some v else none)
section
variable {prog : Program} {w : World} {A : Around} {E : Value → Shared → Prop} {h : Heap} {g : Array GenState} {d : Drawn} {t : Nat} {os : OsState}
theorem mc_eq {o : Expr} {name fl : Str} {apos pos a4 : Pos} {env : Env} (hl : apos.endLine = pos.line) : eval (.Call (.Attribute o name apos) [.Name fl a4] [] pos) env = (do
      let ov ← attributeBase o name env (eval o env)
      standAt apos.atName
      let (f, first) ← holding [ov] (getMethod ov name (do return (← importBound o env).getD true))
      callWith pos f first (backTo pos (starEach [.Name fl a4] env)) []) := by
  have few : methodCallForm ([Expr.Name fl a4].length + ([] : List Keyword).length) (backTo pos (starEach [.Name fl a4] env)) (backToKw pos (keywordEach [] env)) = true := by rfl
  show (do
    let ov ← attributeBase o name env (eval o env)
    standAt apos.atName
    methodCall o name apos pos env ov ([Expr.Name fl a4].length + ([] : List Keyword).length) (backTo pos (starEach [.Name fl a4] env)) (backToKw pos (keywordEach [] env))) = _
  unfold methodCall
  rw [few]
  have hp : methodCallPos true o env apos pos = pure pos := by
    unfold methodCallPos
    simp [hl]
  rw [hp]
  simp only [pure_bind]
  rfl
theorem call_mw {nm q : Str} {C N : Addr} {bs bm : List Value} {hdct : Bool} {sn : List Str} {sub : List Value} {ab : Bool} {col : Option Bool} {dd : Option Addr} {k0 k1 k2 k3 k5 : Option Value} {B newId initId : String} {bmB : List Value} (FB : ExcBaseFacts B newId initId bmB) {u e t0 : Addr} {rest : List Value} {Q : Value → Shared → Prop}
    (hC : h.get? C = some (excClassObj nm q C N bs bm hdct sn sub ab col dd k0 k1 k2 k3 k5 newId)) (he : h.get? e = some (HandSPX.excO C t0)) (hu : h.get? u = some (kxs_mw initId e)) (hrest : rest.length ≤ sizeLine)
    (hq : ∀ h' t1, (∀ b o, b ≠ e → h.get? b = some o → h'.get? b = some o) → h'.get? e = some (HandSPX.excO C t1) → Q .none ⟨h', g, d, t, os⟩) :
    wpAny (model prog w) A (call (.ref u) rest) Q E ⟨h, g, d, t, os⟩ := by
  refine wpAny_call (codeAny_of_tree ?_)
  show wpAny _ A.in1 (callAny (.ref u) ⟨rest, []⟩) _ _ _
  simp only [callAny]
  refine wpAny_bind (wpAny_load hu ?_)
  simp only [kxs_mw, show (Value.type "method-wrapper" == Value.type "method" || Value.type "method-wrapper" == Value.type "builtin_function_or_method" || Value.type "method-wrapper" == Value.type "method-wrapper") = true by decide, if_true]
  refine KFB.if_so (by decide) ?_
  refine wpAny_bind (check_bound_init FB.toExcCallFacts hC he rfl ?_)
  refine wpAny_bind (wpAny_pure (wpAny_pure ?_))
  refine ⟨plainId_quiet FB.init.plain _, codeAny_builtin FB.initEntry ?_⟩
  exact exc_init_tree (cls := .ref C) (t0 := t0) (dv := none) (c2 := .none) (c3 := .none) (b4 := .bool false) he hrest fun h' k e' t' => hq h' _ k e'
end
section
variable {prog : Program} {w : World} {A : Around} {E : Value → Shared → Prop} {R : Result → Shared → Prop} {s : Shared} {K : Frag} {mg mb : Str → Option Value} {C fI : Addr} {f : Str} {i : Bool}
theorem ns_to {h h4 : Heap} {L : Addr} {m : Str → Option Value} (hn : h.Ns L m) (k : ∀ o, h.get? L = some o → h4.get? L = some o) : h4.Ns L m := by
  obtain ⟨oL, es, ep, e, r⟩ := hn
  exact ⟨oL, es, ep, k _ e, r⟩
theorem one_size (v : Value) : [v].length ≤ sizeLine := by
  rw [sizeLine_eq]
  exact (by decide : 1 ≤ 16777216)
theorem kxs_b : ∀ i : Bool, KxsFacts (bNm i) (bIni i)
  | true => kxs_IndexError
  | false => kxs_ValueError
theorem exb_b : ∀ i : Bool, ExcBaseFacts (bNm i) (bNew i) (bIni i) (bTl i)
  | true => F.excBase_IndexError
  | false => F.excBase_ValueError
theorem sto_b : ∀ i : Bool, StoreFacts (bNm i) (bTl i) "object.__setattr__" "object"
  | true => F.store_IndexError
  | false => F.store_ValueError
theorem osa_b (i : Bool) {hp : Heap} {g : Array GenState} {d : Drawn} {t : Nat} {os : OsState} {name : Str} {tk : Tok} {v : Value} {x : Addr} {fv : Array Value} {cd : ClassData} {bm : List Value}
    (X : K.In hp) (hx : hp.get? x = some { cls := .ref C, data := .fields fv }) (hcd : clsIn K C = some cd) (hm : cd.mro = .ref C :: bm) (ht : excTail (bTl i) bm = true) (hh : cd.hasDict = true) (ha : findIn K (.ref C) name = some none)
    (hq : ∀ h' tk' dx, (∀ b o, b ≠ x → hp.get? b = some o → h'.get? b = some o) → hp.objs.size ≤ dx → dx ≠ x → h'.get? x = some { cls := .ref C, dict := some dx, data := .fields fv } → h'.Ns1 dx (fun y => if y = name then some v else none) → R (.ok (.ret .none)) ⟨h', g, d, tk', os⟩) :
    codeAny (model prog w) A (.call (.builtin "object.__setattr__") ⟨[.ref x, .str name tk, v], []⟩) R ⟨hp, g, d, t, os⟩ := by
  have over : excOver K C (bTl i) = true := by unfold excOver; rw [hcd]; simp [hm, ht]
  have free : takerIn K C name = some none := by unfold takerIn; rw [ha]; rfl
  refine osa_openX (od := none) (s := ⟨hp, g, d, t, os⟩) (sto_b i) X ⟨hx, rfl, rfl, trivial⟩ over free fun b => ?_
  have off : x ≠ hp.objs.size := Nat.ne_of_lt (Heap.lt_size hx)
  have known : W.Looks (model prog w) hp (classData C) cd := W.looks_clsIn X hcd
  obtain ⟨n0, bs0, mro0, ns0, q0, hd0, sn0, sb0, ab0, co0, de0⟩ := cd
  dsimp only at hh
  subst hh
  dsimp only
  unfold Builtin.ObjectAttr.storeInOwnDict Builtin.ObjectAttr.ownDictForStores
  repeat (first | with_reducible refine store_in_new ?_ ?_ | with_reducible refine wpAny_loadPart_at hx ?_ | with_reducible refine known.at ?_ | wp_step)
  · exact ⟨_, #[], _, (Heap.get?_update_ne _ _ _ _ off.symm).trans (Heap.get?_push_at rfl rfl), rfl, fun e he => absurd he (by simp), fun _ => rfl⟩
  · intro h2 tk2 hns rest
    have there : (hp.push { cls := .type "dict", data := .dict #[] }).get? x = some { cls := .ref C, data := .fields fv } := Heap.get?_push_of_some _ hx
    refine hq h2 tk2 hp.objs.size (fun b o hb ho => (rest.2 b (Nat.ne_of_lt (Heap.lt_size ho))).trans ((Heap.get?_update_ne _ _ _ _ hb).trans (Heap.get?_push_of_some _ ho))) (Nat.le_refl _) off.symm ?_ hns
    exact (rest.2 x off).trans (Heap.get?_update_self _ there rfl)
theorem ex_init (T : ExW i prog K f C fI) {x t0 : Addr} {v : Value} (X : K.In s.heap) (hg : s.heap.Ns mainGlobals mg) (hbn : s.heap.Ns builtinsNs mb) (hb : ∀ x : Str, x ≠ "__name__" → mb x = bootBuiltins x) (hlim : s.heap.NoLimit) (hx : s.heap.get? x = some (excO C t0)) (hnx : K.lookup x = none) (hroom : A.depth < recursionLimit)
    (hq : ∀ h' tk dx, InitEnd f s.heap h' x C dx v → R (.ok (.ret .none)) { s with heap := h', toks := tk }) :
    codeAny (model prog w) A (.call (.ref fI) ⟨[.ref x, v], []⟩) R s := by
  obtain ⟨oc, od, doc, pm, an, cda, ct, osl, cc, qual, p1, p2, a1, a2, a3, a4, a5, a6, q1, q2, q3, q4, hln, ho, hcd, ⟨ccl, cdd, vs, ccs, file, tf, hco, hvs, hfile⟩, cl, cld, csl, hcell⟩ := T.fn
  obtain ⟨nm, q, N, bs, bm, sn, sub, ab, col, dd, k0, k1, k2, k3, k5, hC, hbm⟩ := T.cls
  have hcl : clsIn K C = some { name := nm, bases := bs, mro := .ref C :: bm, ns := N, qualname := q, hasDict := true, slotNames := sn, subclasses := sub, abstract := ab, collection := col, hasDel := false } := by unfold clsIn; rw [hC] <;> rfl
  have hsi : alongIn K "__init__" (((.ref C :: bm : List Value).dropWhile (· != .ref C)).drop 1) = some (some (.builtin (bIni i))) := by
    have e := T.si
    unfold ks_superIn at e
    rw [hcl] at e
    exact e
  have hxC : x ≠ C := fun z => by rw [z, hC] at hnx; cases hnx
  obtain ⟨hp, g, d, t, os⟩ := s
  have mgs : mg "super" = none := mg_none_of X hg T.su
  rcases T.ff with e | e <;> subst e
  all_goals (
    refine ks_codeAny_call_defAt (fd := ksFn "__init__" qual (iA _ p1 p2) (iB _ a1 a2 a3 a4 a5 a6 q1 q2 q3 q4) (iS _) .none .none doc pm an (.ref cda) ct cc) (body := iB _ a1 a2 a3 a4 a5 a6 q1 q2 q3 q4) (binds := [("self", .ref x), (_, v)]) hroom (X _ _ ho) rfl hlim (codeRec_of X hcd) rfl (BindsTo.of_eq (by first | rfl | with_unfolding_all rfl)) (by intro y hy; simp [iS] at hy; rcases hy with rfl | rfl | rfl | rfl <;> simp) (by intro y hy; simp at hy; rcases hy with rfl | rfl <;> rfl) (fun h₁ hns hk => ?_) rfl rfl rfl
    have X₁ : K.In h₁ := X.keeps hk
    have hx₁ := hk _ _ hx
    have hL : hp.objs.size ≠ x := Nat.ne_of_gt (Heap.lt_size hx)
    change _root_.PySem.wpAt _ (A.deeper (ksEnv qual (iS _) hp.objs.size fI (.ref cda) cc)) (.func _ (ksEnv qual (iS _) hp.objs.size fI (.ref cda) cc)) (execs _ (ksEnv qual (iS _) hp.objs.size fI (.ref cda) cc)) _ _ _
    refine ks_wpAt_execs_cons (ks_wpAt_Expr_any ?_)
    refine ks_wpAt_MethodCall ?_ (mc_eq hln)
    refine ks_wpAt_super_base (file := file) (tf := tf) (by rfl) (by rfl) (by decide) rfl (X₁ _ _ ho) rfl rfl rfl (X₁ _ _ hco) rfl hvs hfile T.top ?_
    refine ks_loadName_global (by rfl) (by rfl) (loadGlobal_builtin (hg.keeps hk) mgs (hbn.keeps hk) ((hb _ (by decide +kernel)).trans (by first | rfl | decide +kernel)) ⟨rfl, ?_⟩)
    refine wpAny_loadName_free (c := cc) (v := .ref C) (by rfl) (by rfl) (by rfl) ⟨_, X₁ _ _ hcell, rfl⟩ ?_
    refine wpAny_loadName_local (v := .ref x) (by rfl) (by rfl) hns (by first | rfl | with_unfolding_all rfl | kernel_rfl) ?_
    refine ks_wpAny_isType_cls (X₁ _ _ hC) rfl ⟨rfl, ?_⟩
    refine ks_wpAny_call_super (X₁ _ _ hC) rfl hx₁ rfl (fun c e => by cases e) (looks_mroIn X₁ T.sc) (fun h2 e2 k2' => ?_)
    have X₂ : K.In h2 := X₁.keeps k2'
    have hx₂ := k2' _ _ hx₁
    have I2 : InstAt h2 x (excO C t0) C none := ⟨hx₂, rfl, rfl, trivial⟩
    refine kxs_getMethod (kxs_b i) e2 (looks_opaque X₂ T.ho) (l₀ := .ref C :: bm) ((looks_clsIn X₂ hcl).andThen .now) rfl X₂ hsi (I2.type.andThen (looks_subIn X₂ T.sv)) hxC (by decide) ?_
    have k3' : ∀ b o, h2.get? b = some o → (h2.push (kxs_mw (bIni i) x)).get? b = some o := fun b o e => Heap.get?_push_of_some _ e
    have hu : (h2.push (kxs_mw (bIni i) x)).get? h2.objs.size = some (kxs_mw (bIni i) x) := Heap.get?_push_at rfl rfl
    have hns3 := hns.keeps fun b o e => k3' b o (k2' b o e)
    refine kxs_callWith (i := bIni i) (x := x) (by rfl) (evalArgs_plain (spliced_cons ?_))
    refine ESX.ldL (v := v) hns3 (by first | rfl | with_unfolding_all rfl | kernel_rfl) (spliced_nil ⟨hu, ?_⟩) (by rfl) (by rfl) (by decide)
    refine call_mw (exb_b i) ((X₂.keeps k3') _ _ hC) (k3' _ _ hx₂) hu (one_size v) fun h4 t1 k4 hx₄ => ?_
    have k14 : ∀ b o, b ≠ x → h₁.get? b = some o → h4.get? b = some o := fun b o hbx e => k4 b o hbx (k3' b o (k2' b o e))
    have X₄ : K.In h4 := fun a o e => k14 a o (fun z => by rw [z, hnx] at e; cases e) (X₁ a o e)
    have hns4 := ns_to (h4 := h4) hns fun o e => k14 _ _ hL e
    refine wpAt_of_wpAny ?_
    refine wpAny_execs_cons (plainObj_wpAny_Assign_Attribute ?_)
    refine ESX.ldL (v := v) hns4 (by first | rfl | with_unfolding_all rfl | kernel_rfl) (ESX.ldL (v := .ref x) hns4 (by first | rfl | with_unfolding_all rfl | kernel_rfl) ?_ (by rfl) (by rfl) (by decide)) (by rfl) (by rfl) (by decide)
    refine set_plain X₄ (ox := excO C t1) (od := none) ⟨hx₄, rfl, rfl, trivial⟩ T.sa ?_
    refine osa_b i X₄ hx₄ hcl rfl hbm rfl T.noN (fun h₅ tk₅ dx k₅ dn dne hx₅ hn₅ => ?_)
    have big : hp.objs.size ≤ h4.objs.size := Nat.le_of_lt hns4.lt
    exact wpAny_execs_nil (hq h₅ _ dx ⟨fun b o hbx e => k₅ b o hbx (k14 b o hbx (hk b o e)), ⟨t1, hx₅⟩, Nat.le_trans big dn, dne, hn₅⟩))
theorem ex_made (T : ExW i prog K f C fI) {v : Value} (X : K.In s.heap) (hg : s.heap.Ns mainGlobals mg) (hbn : s.heap.Ns builtinsNs mb) (hb : ∀ x : Str, x ≠ "__name__" → mb x = bootBuiltins x) (hlim : s.heap.NoLimit) (hroom : A.depth + 1 < recursionLimit)
    (hq : ∀ h' tk e d, OwnMade f s.heap h' e C d v → R (.ok (.ret (.ref e))) { s with heap := h', toks := tk }) :
    codeAny (model prog w) A (.call (.ref C) ⟨[v], []⟩) R s := by
  obtain ⟨nm, q, N, bs, bm, sn, sub, ab, col, dd, k0, k1, k2, k3, k5, hC, hbm⟩ := T.cls
  obtain ⟨hp, g, dr, tk, os⟩ := s
  have k : ∀ b o, hp.get? b = some o → ((hp.push (kdv_tup [v])).push (excO C hp.objs.size)).get? b = some o := fun b o e => Heap.get?_push_of_some _ (Heap.get?_push_of_some _ e)
  have hget : ((hp.push (kdv_tup [v])).push (excO C hp.objs.size)).get? (hp.objs.size + 1) = some (excO C hp.objs.size) := by heap_get
  have hnx : K.lookup (hp.objs.size + 1) = none := by
    cases e : K.lookup (hp.objs.size + 1) with
    | none => rfl
    | some o =>
      have z : hp.get? (hp.objs.size + 1) = some o := X _ _ e
      exact absurd (Nat.lt_of_succ_lt (Heap.lt_size z)) (Nat.lt_irrefl _)
  refine call_own (exb_b i) (fun X => excTail_contains X bm hbm) (X _ _ hC) (looks_findIn X T.iC) (fun self => bind_fn X self T.tC) (one_size v) ?_
  refine ex_init (s := ⟨(hp.push (kdv_tup [v])).push (excO C hp.objs.size), g, dr, tk, os⟩) T (X.keeps k) (hg.keeps k) (hbn.keeps k) hb (hlim.keeps k) hget hnx ?_ fun h' tk' dx ⟨k', ⟨t1, hx⟩, dn, dne, hns⟩ => ?_
  · show A.depth + 1 < recursionLimit
    exact hroom
  · have old : ∀ b o, hp.get? b = some o → h'.get? b = some o := fun b o e => k' b o (Nat.ne_of_lt (Nat.lt_succ_of_lt (Heap.lt_size e))) (k b o e)
    have z : hp.objs.size + 1 + 1 ≤ dx := by
      first
        | (simpa only [Heap.size_push] using dn)
        | exact dn
        | (have q := dn; rw [Heap.size_push, Heap.size_push] at q; exact q)
    exact ⟨rfl, hq h' tk' (hp.objs.size + 1) dx ⟨old, Nat.le_succ _, ⟨_, _, hx, rfl, rfl, rfl, rfl⟩, Nat.le_trans (Nat.le_trans (Nat.le_succ _) (Nat.le_succ _)) z, dne, hns⟩⟩
end
end ExI
end PySem
namespace Py
open PySem PySem.Spec PyProof.Rows L2
theorem relO_ex {f : Str} {v : V} {v' : Value} (r : RelV v v') (g : Str) : RelO (List.lookup g [(f, v)]) (if g = f then some v' else none) := by
  by_cases hw : g = f
  · subst hw
    rw [if_pos rfl]
    have q : List.lookup g [(g, v)] = some v := by simp [List.lookup]
    rw [q]
    exact r
  · rw [if_neg hw]
    have qw : (g == f) = false := by simpa using hw
    have q2 : List.lookup g [(f, v)] = none := by simp [List.lookup, qw]
    rw [q2]
    trivial
section
variable {X : Cx} {C fI : Addr} {f : Str} {i : Bool}
end
end Py
namespace L2
open PySem PySem.Spec PyProof.Rows
inductive HdsA (X : Cx) (n : Str) : List ExceptHandler → List (Value × (Addr → Value → Option Addr → TS)) → Prop
  | nil : HdsA X n [] []
  | cons {x : Str} {c : Value} {ts : Addr → Value → Option Addr → TS} {b₀ : Stmt} {suite : List Stmt} {np pos' : Pos} {hds : List ExceptHandler} {l : List (Value × (Addr → Value → Option Addr → TS))} (hc : Names X x c)
      (hsu : ∀ (a : Addr) (oe : Obj) (cls : Value) (d : Option Addr) (pn : List (Addr × Obj)), Zc cls d oe → (∃ vs, oe.data = .fields vs) → PSs (X.suite a ((a, oe) :: pn)) (b₀ :: suite) (ts a cls d)) (r : HdsA X n hds l) :
      HdsA X n (.ExceptHandler (some (.Name x np)) (some n) (b₀ :: suite) pos' :: hds) ((c, ts) :: l)
section
variable {X : Cx} {n : Str} {i : Nat} {body : List Stmt} {h₀ : ExceptHandler} {hds : List ExceptHandler} {l : List (Value × (Addr → Value → Option Addr → TS))} {pos : Pos} {tb : WX → TS} {Wout : WX}
end
end L2
namespace Py
open PySem PySem.Spec PyProof.Rows L2
def xRaise (c : Nat) (e : Ex) : Sx := fun sg h => (e sg h).bindS sg fun v h1 => .exc c [v] sg h1
structure XcOk (T : Tb) (P : Program) (K : PySem.W.Frag) (c : Nat) (f : Str) : Prop where
  fn : T.fn c = [f]
  ec : ExcC K (He.ga K (T.cn c))
  ex : ∃ ib fI, ExI.ExW ib P K f (He.ga K (T.cn c)) fI
section
variable {T : Tb} {X : Cx} {W : WX} {e : Expr} {fe : Ex} {pos p pos2 : Pos} {c k : Nat} {f x : Str}
end
def unset (i : Nat) : ResS → ResS
  | .next sg h => .next (sg.set i none) h
  | .brk sg h => .brk (sg.set i none) h
  | .cont sg h => .cont (sg.set i none) h
  | .exc _ _ _ _ => .bad
  | r => r
def tryH (i : Nat) (c : Nat) (fs : List Val) (sg : Sg) (h : Hh) : List (Nat × (List Val → Sx)) → ResS
  | [] => .exc c fs sg h
  | (k, f) :: r => if c = k then unset i (f fs (sg.set i none) h) else tryH i c fs sg h r
def xTry (i : Nat) (cs : List Nat) (body : Sx) (hs : List (Nat × (List Val → Sx))) : Sx := fun sg h => match body sg h with
  | .exc c fs sg1 h1 => if c ∈ cs ∧ i < sg1.length then tryH i c fs sg1 h1 hs else .bad
  | r => r
structure HX (T : Tb) (K : PySem.W.Frag) (io : Nat → Addr) (n : Nat) (F H : Hp) (i k : Nat) (a : Addr) (cls : Value) (d : Option Addr) (fs : List Val) (σ : L2.St) : Prop where
  at_ : σ[i]? = some (some (.ref a))
  cl : cls = .ref (He.ga K (T.cn k))
  xr : XR T K io n F H k fs d
def tHS (T : Tb) (K : PySem.W.Frag) (i k : Nat) (f : List Val → Sx) (a : Addr) (cls : Value) (d : Option Addr) : TS := fun D σ H => ∃ io h F sg fs, SR T K io h F H ∧ RSt T K io h.length F sg σ ∧ HX T K io h.length F H i k a cls d fs σ ∧ WantsS T K io h.length F H (fun _ _ _ _ => False) D (f fs sg h)
section
variable {T : Tb} {K : PySem.W.Frag} {io io1 : Nat → Addr} {h h1 : Hh} {F F1 H H1 : Hp} {i k : Nat} {a : Addr} {cls : Value} {d : Option Addr} {fs : List Val} {σ : L2.St}
theorem XR.step {c : Nat} (sr : SR T K io h F H) (x : XR T K io h.length F H c fs d) (st : Step io h.length F H io1 h1.length F1 H1) : XR T K io1 h1.length F1 H1 c fs d := by
  unfold XR at x ⊢
  cases hfn : T.fn c with
  | nil => rw [hfn] at x; exact x
  | cons f r =>
    rw [hfn] at x
    obtain ⟨dd, xs, e1, e2, r, l⟩ := x
    refine ⟨dd, xs, e1, st.frame dd _ e2 fun j hj z => ?_, r.step st, l⟩
    subst z
    have ej : h[j]? = some h[j] := by simp [hj]
    have o := sr.obj j _ ej
    cases hq : h[j] with
    | lst vs => rw [hq] at o; obtain ⟨xs, q, _⟩ := o; rw [q] at e2; cases e2
    | exn c vs => rw [hq] at o; obtain ⟨dx, xs, q, _⟩ := o; rw [q] at e2; unfold ExV at e2; cases e2
    | ins c vs => rw [hq] at o; obtain ⟨dx, xs, q, _⟩ := o; rw [q] at e2; cases e2
    | dct ks vs => rw [hq] at o; obtain ⟨es, ep, xs, ys, q, _⟩ := o; rw [q] at e2; unfold DO at e2; cases e2
theorem HX.step (sr : SR T K io h F H) (x : HX T K io h.length F H i k a cls d fs σ) (st : Step io h.length F H io1 h1.length F1 H1) : HX T K io1 h1.length F1 H1 i k a cls d fs σ := ⟨x.at_, x.cl, x.xr.step sr st⟩
end
section
variable {T : Tb} {X : Cx} {W : WX} {n : Str} {i : Nat} {cs : List Nat} {body : List Stmt} {h₀ : ExceptHandler} {hds : List ExceptHandler} {pos : Pos} {fb : Sx}
inductive HdJ (T : Tb) (X : Cx) (n : Str) (i : Nat) : List ExceptHandler → List (Nat × (List Val → Sx)) → Prop
  | nil : HdJ T X n i [] []
  | cons {x : Str} {k : Nat} {f : List Val → Sx} {b₀ : Stmt} {suite : List Stmt} {np pos' : Pos} {hds : List ExceptHandler} {l : List (Nat × (List Val → Sx))} (hm : X.mg x = some (.ref (He.ga X.K (T.cn k)))) (hg : Gl X x) (hdb : (x == ("__debug__" : Str)) = false)
      (hsu : ∀ (a : Addr) (oe : PySem.Obj) (cls : Value) (d : Option Addr) (pn : List (Addr × PySem.Obj)), Zc cls d oe → (∃ vs, oe.data = .fields vs) → PSs (X.suite a ((a, oe) :: pn)) (b₀ :: suite) (tHS T X.K i k f a cls d)) (r : HdJ T X n i hds l) :
      HdJ T X n i (.ExceptHandler (some (.Name x np)) (some n) (b₀ :: suite) pos' :: hds) ((k, f) :: l)
end
section
variable {T : Tb} {X : Cx} {i k : Nat} {a : Addr} {oe : PySem.Obj} {cls : Value} {d : Option Addr} {pn : List (Addr × PySem.Obj)} {pos p p1 p2 : Pos}
abbrev Wf : WX := fun _ _ _ _ => False
def xXfld : List Val → Ex := fun fs _ h => match fs with
  | [v] => .ok v h
  | _ => .bad
variable {X : Cx} {ea eb ec : Expr} {fa fb fc : List Val → Ex} {rest : List Expr}
end
end Py
namespace PySem
namespace ExI
open PySem.W PySem.Calls PyProof.Rows PySem.HandSPX
theorem argsB_ok {f : Str} {a : Arguments} (h : argsB f a = true) : ∃ p1 p2, a = iA f p1 p2 := by
  unfold argsB at h
  split at h
  · simp only [Bool.and_eq_true, decide_eq_true_eq] at h
    obtain ⟨rfl, rfl⟩ := h
    exact ⟨_, _, rfl⟩
  · cases h
theorem bodyB_ok {f : Str} {b : FuncBody} (h : bodyB f b = true) : ∃ a1 a2 a3 a4 a5 a6 q1 q2 q3 q4, a3.endLine = a5.line ∧ b = .stmts (iB f a1 a2 a3 a4 a5 a6 q1 q2 q3 q4) := by
  unfold bodyB at h
  split at h
  · simp only [Bool.and_eq_true, decide_eq_true_eq] at h
    obtain ⟨hl, rfl, rfl, rfl, rfl, rfl, rfl⟩ := h
    exact ⟨_, _, _, _, _, _, _, _, _, _, hl, rfl⟩
  · cases h
theorem initB_ok {P : Program} {K : Frag} {file f : Str} {C fI : Addr} (hP : P.main.file = file) (h : initB K file f C fI = true) :
  ∃ (oc : Value) (od : Option Addr) (doc pm : Value) (an : Option Addr) (cda : Addr) (ct : Value) (osl : Array (Option Value)) (cc : Addr) (qual : Str) (p1 p2 a1 a2 a3 a4 a5 a6 q1 q2 q3 q4 : Pos), a3.endLine = a5.line ∧
    K.lookup fI = some ⟨oc, od, .func (ksFn "__init__" qual (iA f p1 p2) (iB f a1 a2 a3 a4 a5 a6 q1 q2 q3 q4) (iS f) .none .none doc pm an (.ref cda) ct cc), osl⟩ ∧ codeIn K (.ref cda) qual = true ∧
    (∃ (ccl : Value) (cdd : Option Addr) (vs : Array Value) (ccs : Array (Option Value)) (fl : Str) (tf : Tok), K.lookup cda = some ⟨ccl, cdd, .fields vs, ccs⟩ ∧ vs[2]? = some (.str fl tf) ∧ ((P.main.file : Str) == fl) = true) ∧
    ∃ (cl : Value) (cld : Option Addr) (csl : Array (Option Value)), K.lookup cc = some ⟨cl, cld, .cell (some (.ref C)), csl⟩ := by
  unfold initB at h
  split at h
  · rename_i oc od nm q pr bd sc gl cn cc doc pm an cda ct bt osl ho
    obtain ⟨h1, h⟩ := He.ba h
    obtain ⟨h2, h⟩ := He.ba h
    obtain ⟨h3, h⟩ := He.ba h
    obtain ⟨h4, h⟩ := He.ba h
    obtain ⟨h5, h⟩ := He.ba h
    obtain ⟨h6, h⟩ := He.ba h
    obtain ⟨h7, h⟩ := He.ba h
    obtain ⟨h8, h⟩ := He.ba h
    obtain ⟨h9, h10⟩ := He.ba h
    have e1 := of_decide_eq_true h1
    obtain ⟨p1, p2, e2⟩ := argsB_ok h2
    obtain ⟨a1, a2, a3, a4, a5, a6, q1, q2, q3, q4, hln, e3⟩ := bodyB_ok h3
    have e4 := of_decide_eq_true h4
    have e5 := of_decide_eq_true h5
    have e6 := of_decide_eq_true h6
    have e7 := of_decide_eq_true h7
    subst e1 e2 e3 e4 e5 e6 e7
    refine ⟨oc, od, doc, pm, an, cda, ct, osl, cc, q, p1, p2, a1, a2, a3, a4, a5, a6, q1, q2, q3, q4, hln, ho, h8, ?_, ?_⟩
    · split at h9
      · rename_i ccl cdd vs ccs hc
        split at h9
        · rename_i fl tf hv
          exact ⟨ccl, cdd, vs, ccs, fl, tf, hc, hv, by rw [hP]; exact h9⟩
        · cases h9
      · cases h9
    · split at h10
      · rename_i cl cld D csl hc
        have e := of_decide_eq_true h10
        subst e
        exact ⟨cl, cld, csl, hc⟩
      · cases h10
  · cases h
theorem clsB_ok {i : Bool} {K : Frag} {C : Addr} (q : clsB i K C = true) : ∃ nm q N bs bm sn sub ab col dd k0 k1 k2 k3 k5, K.lookup C = some (excClassObj nm q C N bs bm true sn sub ab col dd k0 k1 k2 k3 k5 (bNew i)) ∧ excTail (bTl i) bm = true := by
  unfold clsB at q
  split at q
  · rename_i dd cd sl ho
    split at q
    · rename_i C' bm k0 k1 k2 k3 n k5 hm hs
      simp only [Bool.and_eq_true, beq_iff_eq, Bool.not_eq_true'] at q
      obtain ⟨⟨⟨⟨rfl, rfl⟩, hdel⟩, hdct⟩, ht⟩ := q
      obtain ⟨nm, bs, mro, ns, qn, hd, sn, sub, ab, col, del⟩ := cd
      dsimp only at hm hdel hdct
      subst hm hdel hdct
      have hsl : sl = #[k0, k1, k2, k3, some (.builtin (bNew i)), k5] := by
        obtain ⟨l⟩ := sl
        simp only at hs
        rw [hs]
      subst hsl
      exact ⟨nm, qn, ns, bs, bm, sn, sub, ab, col, dd, k0, k1, k2, k3, k5, ho, ht⟩
    · cases q
  · cases q
theorem exw_of {i : Bool} {P : Program} {K : Frag} {file f : Str} {C fI : Addr} (hP : P.main.file = file) (hS : (P.main.scope.names.lookup ("super" : Str)).isSome = false) (h : exwB i K file C fI f = true) : ExW i P K f C fI := by
  obtain ⟨h1, h⟩ := He.ba h
  obtain ⟨h2, h⟩ := He.ba h
  obtain ⟨h3, h⟩ := He.ba h
  obtain ⟨h4, h⟩ := He.ba h
  obtain ⟨h5, h⟩ := He.ba h
  obtain ⟨h6, h⟩ := He.ba h
  obtain ⟨h7, h⟩ := He.ba h
  obtain ⟨h8, h⟩ := He.ba h
  obtain ⟨h9, h⟩ := He.ba h
  obtain ⟨h10, h⟩ := He.ba h
  obtain ⟨h11, h⟩ := He.ba h
  obtain ⟨h12, h⟩ := He.ba h
  obtain ⟨h13, h⟩ := He.ba h
  obtain ⟨h14, h⟩ := He.ba h
  obtain ⟨h15, h⟩ := He.ba h
  obtain ⟨h16, h⟩ := He.ba h
  obtain ⟨h17, h18⟩ := He.ba h
  exact {
    ff := by simpa only [Bool.or_eq_true, decide_eq_true_eq] using h1
    cls := clsB_ok h2
    sa := He.eqO_ok h4
    ga := He.eqO_ok h5
    gg := He.eqO_ok h6
    noN := He.eqO_ok h7
    iC := He.eqO_ok h8
    tC := of_decide_eq_true h9
    kC := h10
    exC := of_decide_eq_true h11
    tyC := of_decide_eq_true h12
    hdC := h13
    ho := He.eqO_ok h14
    su := He.eqO_ok h15
    si := He.eqO_ok h16
    sv := of_decide_eq_true h17
    sc := of_decide_eq_true h18
    top := hS
    fn := initB_ok hP h3 }
end ExI
end PySem
namespace Py
open PySem PySem.Spec PyProof.Rows L2
theorem exc_of {K : PySem.W.Frag} {D : Addr} (h : excB K D = true) : ExcC K D := by
  obtain ⟨h1, h⟩ := He.ba h
  obtain ⟨h2, h⟩ := He.ba h
  obtain ⟨h3, h⟩ := He.ba h
  obtain ⟨h4, h⟩ := He.ba h
  obtain ⟨h5, h⟩ := He.ba h
  obtain ⟨h6, h⟩ := He.ba h
  obtain ⟨h7, h8⟩ := He.ba h
  exact ⟨He.eqO_ok h1, He.eqO_ok h2, of_decide_eq_true h3, h4, He.eqO_ok h5, He.eqO_ok h6, of_decide_eq_true h7, of_decide_eq_true h8⟩
theorem xc_of {T : Tb} {P : Program} {K : PySem.W.Frag} {file x f : Str} {c : Nat} (hP : P.main.file = file) (hS : (P.main.scope.names.lookup ("super" : Str)).isSome = false) (hf : T.fn c = [f]) (hx : T.cn c = x) (h : xcB K file x f = true) : XcOk T P K c f := by
  subst hx
  obtain ⟨h1, h2⟩ := He.ba h
  rcases Bool.or_eq_true _ _ ▸ h1 with h1 | h1
  · exact ⟨hf, exc_of h2, _, _, ExI.exw_of hP hS h1⟩
  · exact ⟨hf, exc_of h2, _, _, ExI.exw_of hP hS h1⟩
end Py
namespace Py
open PySem PySem.Spec PyProof.Rows L2
section
variable {X : Cx} {a b c d : Expr} {ta tb tc td : TE} {pos : Pos} {op op' op2 : CmpOp} {r r' r2 : R2}
end
section
variable {T : Tb} {X : Cx} {W : WX} {a b c d : Expr} {fa fb fc fd : Ex} {pos : Pos} {op op' op2 : CmpOp} {r r' r2 : R2} {g g' g2 : G2}
end
end Py
namespace Py
open PySem PySem.Spec PyProof.Rows L2
section
variable {T : Tb} {X : Cx} {o i : Expr} {fo fi : Ex} {pos : Pos}
end
end Py
namespace HT
open PySem PySem.Spec PyProof.Rows
section
variable {prog : Program} {w : World} {A : Around} {E : Value → Shared → Prop} {s : Shared}
end
end HT
namespace L2
open PySem PySem.Spec PyProof.Rows
section
variable {X : Cx}
end
end L2
namespace Py
open L2
open PySem PySem.Spec PyProof.Rows
section
variable {T : Tb} {K : PySem.W.Frag} {X : Cx} {W : WX} {e : Expr} {fe : Ex} {pos : Pos}
end
end Py
namespace Py
open PySem PySem.Spec PyProof.Rows L2
end Py
namespace Py
open PySem PySem.Spec PyProof.Rows L2
section
variable {prog : Program} {w : World} {KT : Type} [DecidableEq KT] {A : Around} {E : Value → Shared → Prop} {s : Shared} {d a : Addr} {o : PySem.Obj} {es : Array DictEntry} {ep : Nat}
end
section
variable {X : Cx} {pins : List (Addr × PySem.Obj)} {σ : L2.St} {H : Hp} {s : Shared} {T : Tb} {io : Nat → Addr} {n : Nat} {F : Hp} {a : Addr} {ks : List Val} {xs ys : List V} {es : Array DictEntry} {ep : Nat} {q : Val} {y : V} {u : Value} {A : Around} {E : Value → Shared → Prop}
end
end Py
namespace Py
open PySem PySem.Spec PyProof.Rows L2
structure MidD (T : Tb) (K : PySem.W.Frag) (io0 : Nat → Addr) (n0 : Nat) (F0 H0 : Hp) (p : Addr) (io : Nat → Addr) (h : Hh) (F H : Hp) (ks us : List Val) : Prop where
  hp : H0 p = none
  st : Step io0 n0 F0 H0 io h.length F H
  sr : SR T K io h F H
  fd : F p = none
  nd : ∀ k, k < h.length → io k ≠ p
  g : ∃ es ep xs ys, DGx T K io h.length F H p ks xs ys es ep ∧ VRs T K io h.length F us ys
  lf : ∀ k ∈ ks, KeyL k
  few : ks.length ≤ 1000
section
variable {T : Tb} {K : PySem.W.Frag} {io0 io io1 : Nat → Addr} {n0 : Nat} {F0 H0 F H F1 H1 : Hp} {h h1 : Hh} {p : Addr} {ks us : List Val}
theorem MidD.start (sr : SR T K io h F H) (hp : H p = none) : MidD T K io h.length F H p io h F (upd H p (DO p #[] 0)) [] [] where
  hp := hp
  st := sr.garbStep hp _
  sr := sr.garb hp _
  fd := sr.none_of hp
  nd := fun k hk z => by obtain ⟨u, hu'⟩ := sr.there hk; rw [z, hp] at hu'; cases hu'
  g := ⟨#[], 0, [], [], ⟨upd_same, keys0, True.intro, .nil⟩, .nil⟩
  lf := fun k hk => by cases hk
  few := by simp
theorem MidD.eval (m : MidD T K io0 n0 F0 H0 p io h F H ks us) (st1 : Step io h.length F H io1 h1.length F1 H1) (sr1 : SR T K io1 h1 F1 H1) : MidD T K io0 n0 F0 H0 p io1 h1 F1 H1 ks us := by
  obtain ⟨es, ep, xs, ys, g, ru⟩ := m.g
  have hd1 : H1 p = some (DO p es ep) := st1.frame p _ g.at_ m.nd
  refine ⟨m.hp, m.st.trans m.sr st1, sr1, ?_, fun k hk z => ?_, ⟨es, ep, xs, ys, ⟨hd1, g.ok, g.en, g.rk.step st1⟩, ru.step st1⟩, m.lf, m.few⟩
  · cases q : F1 p with
    | none => rfl
    | some o =>
      exfalso
      rcases st1.fresh p o q with z | z | ⟨y, z⟩
      · rw [m.fd] at z; cases z
      · rw [g.at_] at z; cases z
      · subst z; have e1 := sr1.sub p _ q; rw [hd1] at e1; unfold DO at e1; cases e1
  · by_cases hk' : k < h.length
    · exact m.nd k hk' ((st1.eq k hk').symm.trans z)
    · have := st1.new k (by omega) hk
      rw [z, g.at_] at this; cases this
theorem MidD.write (m : MidD T K io0 n0 F0 H0 p io h F H ks us) {ks' us' : List Val} {xs' ys' : List V} {es' : Array DictEntry} {ep' : Nat} (g' : DGx T K io h.length F (upd H p (DO p es' ep')) p ks' xs' ys' es' ep') (ru' : VRs T K io h.length F us' ys') (lf' : ∀ k ∈ ks', KeyL k) (few' : ks'.length ≤ 1000) :
    MidD T K io0 n0 F0 H0 p io h F (upd H p (DO p es' ep')) ks' us' := by
  obtain ⟨es, ep, xs, ys, g, ru⟩ := m.g
  refine ⟨m.hp, ⟨m.st.le, m.st.eq, m.st.phi, fun b o eb hb => ?_, m.st.new, m.st.fresh⟩, ⟨fun b u z => ?_, m.sr.dis, m.sr.inj, fun k o ek => ?_, fun pq hq => (m.sr.tabs pq hq).mono (fun _ _ h _ e => by rw [h] at e; cases e) (fun _ _ e _ => e) fun ps e => by rw [upd_ne (fun z => by rw [z, g.at_] at e; unfold DO at e; cases e)]; exact e⟩, m.fd, m.nd, ⟨es', ep', xs', ys', g', ru'⟩, lf', few'⟩
  · rw [upd_ne (ne_of_none eb m.hp)]; exact m.st.frm b o eb hb
  · rw [upd_ne (fun q => by rw [q, m.fd] at z; cases z)]; exact m.sr.sub b u z
  · have hk : k < h.length := (List.getElem?_eq_some_iff.mp ek).1
    have r := m.sr.obj k o ek
    cases o with
    | lst vs => obtain ⟨xs, e1, r⟩ := r; exact ⟨xs, by rw [upd_ne (m.nd k hk)]; exact e1, r⟩
    | dct ks vs => obtain ⟨es, ep, xs, ys, e1, r⟩ := r; exact ⟨es, ep, xs, ys, by rw [upd_ne (m.nd k hk)]; exact e1, r⟩
    | exn c vs =>
      obtain ⟨dx, xs, e1, d, r, l⟩ := r
      exact ⟨dx, xs, by rw [upd_ne (m.nd k hk)]; exact e1, fun y ey => by rw [upd_ne (fun q => by have t := d y ey; rw [q, g.at_] at t; unfold DO at t; cases t)]; exact d y ey, r, l⟩
    | ins c vs =>
      obtain ⟨dx, xs, e1, d, r, l⟩ := r
      exact ⟨dx, xs, by rw [upd_ne (m.nd k hk)]; exact e1, by rw [upd_ne (fun q => by rw [q, g.at_] at d; unfold DO at d; cases d)]; exact d, r, l⟩
theorem MidD.bind {W : XK} {Q R : VK} {r : Res} {k : Val → Hh → Res} (m : MidD T K io0 n0 F0 H0 p io h F H ks us) (w : Wants T K io0 n0 F0 H0 W Q (r.bind k))
    (hk : ∀ v h1 io1 F1 H1 x, MidD T K io0 n0 F0 H0 p io1 h1 F1 H1 ks us → VR T K io1 h1.length F1 v x → Wants T K io0 n0 F0 H0 W Q (k v h1) → R x H1) : Wants T K io h.length F H W R r := by
  cases r with
  | ok v h1 => exact fun io1 F1 H1 x st sr vr => hk v h1 io1 F1 H1 x (m.eval st sr) vr w
  | exc c fs h' => exact fun io' F' H' d st sr xr => w io' F' H' d (m.st.trans m.sr st) sr xr
  | bad => exact w
end
section
variable {T : Tb} {X : Cx} {W : WX} {pins : List (Addr × PySem.Obj)} {σ : L2.St} {io0 io : Nat → Addr} {n0 : Nat} {F0 H0 F H : Hp} {h : Hh} {p : Addr} {ks us : List Val} {s : Shared} {A : Around} {E : Value → Shared → Prop}
end
section
variable {T : Tb} {X : Cx} {W : WX} {e1 e2 : Expr} {f1 f2 : Ex} {pos : Pos}
end
end Py
namespace Py
open PySem PySem.Spec PyProof.Rows L2
section
variable {M : Model} {A : Around} {E : Value → Shared → Prop} {s : Shared} {f : Value} {first : List Value} {pos : Pos} {Q : Value → Shared → Prop} {P : Heap → Prop}
end
section
variable {T : Tb} {X : Cx} {W : WX} {k : Nat} {a : Addr} {fd : FuncData} {ps ks : List Str} {pk : List Nat} {dvs : List V} {x : Str} {p pos kpos : Pos} {e : Expr} {f : Fx} {fe : Ex}
end
end Py
namespace Py
open PySem PySem.Spec PyProof.Rows L2
section
variable {X : Cx} {pins : List (Addr × PySem.Obj)} {σ : L2.St} {H : Hp} {s : Shared} {T : Tb} {io : Nat → Addr} {n : Nat} {F : Hp} {d : Addr} {A : Around} {E : Value → Shared → Prop}
end
end Py
namespace Py
open PySem PySem.Spec PyProof.Rows L2
structure FnGD (P : Program) (w : World) (K : PySem.W.Frag) (mg : Str → Option Value) (base : Heap) (C : CXT) (k : Nat) (f : Addr) (fd : FuncData) (ps : List Str) (sp : Sp) : Prop where
  run : ∀ (A : Around) (outer : List Env) (s : Shared) (args : Args) (R : Result → Shared → Prop), RoomG k A → K.In s.heap →
    wpAny (model P w) A.in1 (bindArgs fd args) (fun binds s2 => ∃ us vs H2 Q E, binds = ps.zip us ∧ Env0 P w K mg base A outer s2 H2 ∧ Vals vs us ∧ sp vs H2 Q E ∧ ∀ r s', CR C outer P w H2 s2 Q E r s' → R r s') (fun e s' => R (.error e) s') s →
    codeAny (model P w) A (.call (.ref f) args) R s
section
variable {P : Program} {w : World} {K : PySem.W.Frag} {mg : Str → Option Value} {base : Heap} {C : CXT} {k : Nat} {f : Addr} {x qual : Str} {params : Arguments} {body : List Stmt} {scope : Scope} {dvs : List V} {kws : List (Str × V)} {fd : FuncData} {N ps : List Str} {sp : Sp}
end
section
variable {T : Tb} {X : Cx} {W : WX} {k : Nat} {a : Addr} {ps ks : List Str} {m : Str} {c : Nat} {o : Expr} {kws : List Keyword} {apos pos : Pos} {f : Fx} {fo : Ex} {lk : Lx}
end
end Py
namespace Py
open PySem PySem.Spec PyProof.Rows L2
section
variable {T : Tb} {X : Cx} {W : WX} {k : Nat} {a : Addr} {ps ks : List Str} {pk : List Nat} {dvs : List V} {m : Str} {c : Nat} {o : Expr} {kws : List Keyword} {apos pos : Pos} {f : Fx} {fo : Ex} {lk : Lx}
end
end Py
namespace Py
open PySem PySem.Spec PyProof.Rows L2
end Py
namespace Py
open PySem PySem.Spec PyProof.Rows L2
end Py
namespace Py
open PySem PySem.Spec PyProof.Rows L2
abbrev G2H := Hh → Val → Val → Option (Val × Hh)
def Lift2H (T : Tb) (K : PySem.W.Frag) (r : R2) (g : G2H) : Prop :=
  ∀ io h F H v u x y z h' Q, SR T K io h F H → VR T K io h.length F v x → VR T K io h.length F u y → g h v u = some (z, h') →
    (∀ io' F' H' x', Step io h.length F H io' h'.length F' H' → SR T K io' h' F' H' → VR T K io' h'.length F' z x' → Q x' H') → r x y H Q
def xOpH (g : G2H) (a b : Ex) : Ex := fun sg h => (a sg h).bind fun x h1 => (b sg h1).bind fun y h2 => .ofP (g h2 x y)
def gRepA : G2H := fun h v u => match mutOf h v, u with
  | some (_, us), .int k => if -1000000 ≤ k ∧ k ≤ 1000000 ∧ us.length * k.toNat ≤ 1000000 then some (.ref h.length, h ++ [.lst (List.replicate k.toNat us).flatten]) else none
  | _, _ => none
section
variable {T : Tb} {X : Cx} {W : WX} {a b : Expr} {fa fb : Ex} {pos : Pos} {r : R2} {g : G2H}
theorem tOp_ofH (hl : Lift2H T X.K r g) {σ : L2.St} {H : Hp} {Q : VK} : tE T X.K W (xOpH g fa fb) σ H Q → tOp r (tE T X.K W fa) (tE T X.K W fb) σ H Q := by
  rintro ⟨io, h, F, sg, sr, rs, w⟩
  refine ⟨io, h, F, sg, sr, rs, Wants.bind w fun v h1 io1 F1 H1 x st sr1 vr w1 => ⟨io1, h1, F1, sg, sr1, rs.step st, Wants.bind w1 fun u h2 io2 F2 H2 y st2 sr2 vr2 w2 => ?_⟩⟩
  obtain ⟨z, h', e, w3⟩ := wants_ofP w2
  exact hl io2 h2 F2 H2 v u x y z h' Q sr2 (vr.step st2) vr2 e w3
theorem je_opH {op : Operator} (ho : OpR X (binaryOp op) r) (hl : Lift2H T X.K r g) (ha : JE T X W a fa) (hb : JE T X W b fb) : JE T X W (.BinOp a op b pos) (xOpH g fa fb) :=
  pe_imp (pe_op ho ha hb) fun _ _ _ => tOp_ofH hl
theorem lift_repA {K : PySem.W.Frag} : Lift2H T K rRep gRepA := by
  intro io h F H v u x y z h' Q sr vr ur e q
  unfold gRepA at e
  split at e
  · rename_i k us m em
    split at e
    · rename_i hz
      cases e
      obtain ⟨xs, rfl, hk, ea, ra, _⟩ := mutOf_ok sr vr em
      cases ur
      refine ⟨io k, m, xs, rfl, rfl, ea, by omega, by omega, by rw [← ra.length]; exact sizeOk hz.2.2, fun p hp => ?_⟩
      obtain ⟨s1, s2, s3⟩ := push_new sr (ra.rep m.toNat) hp
      exact q _ _ _ _ s1 s2 s3
    · cases e
  · cases e
end
end Py
namespace L2
open PySem PySem.Spec PyProof.Rows
section
variable {X : Cx}
end
end L2
namespace Py
open L2
open PySem PySem.Spec PyProof.Rows
section
variable {T : Tb} {K : PySem.W.Frag} {X : Cx} {W : WX} {e : Expr} {fe : Ex} {pos : Pos}
end
end Py
namespace Py
open PySem PySem.Spec PyProof.Rows L2
end Py
namespace Py
open PySem PySem.Spec PyProof.Rows L2
end Py
namespace Py
open PySem PySem.Spec PyProof.Rows L2
section
variable {P : Program} {w : World} {A : Around} {E : Value → Shared → Prop} {s : Shared}
end
section
variable {T : Tb} {X : Cx} {W : WX} {e : Expr} {fe : Ex} {pos pos2 p p2 : Pos}
end
section
variable {X : Cx} {a b c d : Expr} {ta tb tc td : TE} {pos : Pos} {op op' op2 : CmpOp} {r r' r2 : R2}
end
section
variable {T : Tb} {X : Cx} {W : WX} {a b c d : Expr} {fa fb fc fd : Ex} {pos : Pos} {op op' op2 : CmpOp} {r r' r2 : R2} {g g' g2 : G2}
end
end Py
namespace Py
open PySem PySem.Spec PyProof.Rows L2
end Py
namespace Py
open PySem PySem.Spec PyProof.Rows L2
section
variable {T : Tb} {X : Cx} {W : WX} {e o : Expr} {es : List Expr} {fo : Ex} {fl : Lx} {pos pos' : Pos} {ps : List Str} {k : Nat} {f : Fx} {x : Str} {cc : Nat} {ad : Addr} {dvs : List V} {p : Pos}
end
end Py
namespace Py
open PySem PySem.Spec PyProof.Rows L2
end Py
namespace Py
open PySem PySem.Spec PyProof.Rows L2
section
variable {P : Program} {w : World} {K : PySem.W.Frag} {elts : List Expr} {kk : Nat} {tpos : Pos}
end
section
variable {X : Cx} {e : Expr} {ta : TA} {p pos tpos : Pos} {elts : List Expr} {kk : Nat}
end
section
variable {T : Tb} {X : Cx} {W : WX} {e : Expr} {fl : Lx} {p pos tpos : Pos} {elts : List Expr} {kk : Nat}
end
end Py
namespace NQ
open PySem PySem.SeqAt
open AutoSeq1 (wpAny_loadPart')
open MeetsSeq MeetsSeq2 MeetsSeq3 SeqRoads2
section
variable {prog : Program} {w : World} {A : Around} {R : Result → Shared → Prop}
end
section
variable {prog : Program} {w : World} {A : Around} {E : Value → Shared → Prop} {s : Shared}
end
end NQ
namespace Py
open PySem PySem.Spec PyProof.Rows L2
def EqAtOk (T : Tb) (X : Cx) (n : Nat) (g : Hh → Val → Val → Bool) : Prop := ∀ (A : Around) (pins : List (Addr × PySem.Obj)) (s : Shared) (σ : L2.St) (H : Hp) (io : Nat → Addr) (h : Hh) (F : Hp) (v u : Val) (x y : V) (a b : Value),
  RoomG n A → A.frames = X.A.frames → L2.Inv X pins σ H s → SR T X.K io h F H → VR T X.K io h.length F v x → VR T X.K io h.length F u y → RelV x a → RelV y b → g h v u = true →
    wpAny (model X.prog X.w) A (eqBool a b) (fun r s' => r = true ∧ ∃ F' H', L2.Inv X pins σ H' s' ∧ Step io h.length F H io h.length F' H' ∧ SR T X.K io h F' H') X.xe s
section
variable {T : Tb} {X : Cx} {n m : Nat} {g g' : Hh → Val → Val → Bool}
theorem EqAtOk.mono (e : EqAtOk T X n g) (h : n ≤ m) : EqAtOk T X m g := fun A pins s σ H io hh F v u x y a b r => e A pins s σ H io hh F v u x y a b (r.mono h)
theorem EqAtOk.or (e : EqAtOk T X n g) (e' : EqAtOk T X n g') : EqAtOk T X n (fun h v u => g h v u || g' h v u) := fun A pins s σ H io hh F v u x y a b r f I sr vr ur ra rb q => by
  rcases (Bool.or_eq_true_iff.mp q) with q | q
  · exact e A pins s σ H io hh F v u x y a b r f I sr vr ur ra rb q
  · exact e' A pins s σ H io hh F v u x y a b r f I sr vr ur ra rb q
end
section
variable {T : Tb} {X : Cx} {W : WX} {a b : Expr} {fa fb : Ex} {pos : Pos} {op : CmpOp} {g : G2}
end
end Py
namespace Py
open PySem PySem.Spec PyProof.Rows L2
end Py
namespace L2
open PySem PySem.Spec PyProof.Rows
end L2
namespace Py
open PySem PySem.Spec PyProof.Rows L2
abbrev bmVE : List Value := [.type "ValueError", .type "Exception", .type "BaseException", .type "object"]
structure XnOk (T : Tb) (K : PySem.W.Frag) (c : Nat) : Prop where
  fn : T.fn c = []
  ec : ExcC K (He.ga K (T.cn c))
  ei : PySem.W.excIn K (He.ga K (T.cn c)) bmVE "ValueError.__new__" = true
  kC : PySem.W.keepIn K (.ref (He.ga K (T.cn c))) = true
  tyC : PySem.W.typeIn K (.ref (He.ga K (T.cn c))) = some (.type "type")
def xnB (K : PySem.W.Frag) (x : Str) : Bool := excB K (He.ga K x) && (PySem.W.excIn K (He.ga K x) bmVE "ValueError.__new__" && (PySem.W.keepIn K (.ref (He.ga K x)) && decide (PySem.W.typeIn K (.ref (He.ga K x)) = some (.type "type"))))
theorem xn_of {T : Tb} {K : PySem.W.Frag} {x : Str} {c : Nat} (hf : T.fn c = []) (hx : T.cn c = x) (h : xnB K x = true) : XnOk T K c := by
  subst hx
  obtain ⟨h1, h⟩ := He.ba h
  obtain ⟨h2, h⟩ := He.ba h
  obtain ⟨h3, h4⟩ := He.ba h
  exact ⟨hf, exc_of h1, h2, h3, of_decide_eq_true h4⟩
section
variable {T : Tb} {X : Cx} {W : WX} {pos p pos2 : Pos} {c : Nat} {x : Str}
end
section
variable {T : Tb} {X : Cx} {i k : Nat} {a : Addr} {oe : PySem.Obj} {cls : Value} {d : Option Addr} {pn : List (Addr × PySem.Obj)} {pos p p1 p2 : Pos}
variable {X : Cx} {ea eb ec : Expr} {fa fb fc : List Val → Ex}
end
end Py
namespace Py
open PySem PySem.Spec PyProof.Rows L2
end Py
namespace Py
open PySem PySem.Spec PyProof.Rows L2
section
variable {T : Tb} {i k : Nat} {a : Addr} {cls : Value} {d : Option Addr} {pos : Pos} {X : Cx} {ea eb : Expr} {rest : List Expr} {fa fb : List Val → Ex}
end
end Py
namespace L2
open PySem PySem.Spec PyProof.Rows
end L2
namespace Py
open PySem PySem.Spec PyProof.Rows L2
end Py
namespace L2
open PySem PySem.Spec PyProof.Rows
inductive HdsB (X : Cx) (n : Str) : List ExceptHandler → List (Value × Bool × (Addr → Value → Option Addr → TS)) → Prop
  | nil : HdsB X n [] []
  | cons {x : Str} {c : Value} {ts : Addr → Value → Option Addr → TS} {b₀ : Stmt} {suite : List Stmt} {np pos' : Pos} {hds : List ExceptHandler} {l : List (Value × Bool × (Addr → Value → Option Addr → TS))} (hc : Names X x c)
      (hsu : ∀ (a : Addr) (oe : Obj) (cls : Value) (d : Option Addr) (pn : List (Addr × Obj)), Zc cls d oe → (∃ vs, oe.data = .fields vs) → PSs (X.suite a ((a, oe) :: pn)) (b₀ :: suite) (ts a cls d)) (r : HdsB X n hds l) :
      HdsB X n (.ExceptHandler (some (.Name x np)) (some n) (b₀ :: suite) pos' :: hds) ((c, true, ts) :: l)
  | bare {x : Str} {c : Value} {ts : Addr → Value → Option Addr → TS} {b₀ : Stmt} {suite : List Stmt} {np pos' : Pos} {hds : List ExceptHandler} {l : List (Value × Bool × (Addr → Value → Option Addr → TS))} (hc : Names X x c)
      (hsu : ∀ (a : Addr) (oe : Obj) (cls : Value) (d : Option Addr) (pn : List (Addr × Obj)), Zc cls d oe → (∃ vs, oe.data = .fields vs) → PSs (X.suite a ((a, oe) :: pn)) (b₀ :: suite) (ts a cls d)) (r : HdsB X n hds l) :
      HdsB X n (.ExceptHandler (some (.Name x np)) none (b₀ :: suite) pos' :: hds) ((c, false, ts) :: l)
section
variable {X : Cx} {n : Str} {i : Nat} {body : List Stmt} {h₀ : ExceptHandler} {hds : List ExceptHandler} {l : List (Value × Bool × (Addr → Value → Option Addr → TS))} {pos : Pos} {tb : WX → TS} {Wout : WX}
end
end L2
namespace Py
open PySem PySem.Spec PyProof.Rows L2
inductive HEnt
  | nm (k : Nat) (f : List Val → Sx)
  | bare (k : Nat) (f : Sx)
  | all (B : Str) (k : Nat) (f : List Val → Sx)
section
variable {T : Tb} {X : Cx} {W : WX} {n : Str} {i : Nat} {cs : List Nat} {body : List Stmt} {h₀ : ExceptHandler} {hds : List ExceptHandler} {pos : Pos} {fb : Sx}
inductive HdM (T : Tb) (X : Cx) (n : Str) (i : Nat) : List ExceptHandler → List HEnt → Prop
  | nil : HdM T X n i [] []
  | nm {x : Str} {k : Nat} {f : List Val → Sx} {b₀ : Stmt} {suite : List Stmt} {np pos' : Pos} {hds : List ExceptHandler} {l : List HEnt} (hm : X.mg x = some (.ref (He.ga X.K (T.cn k)))) (hg : Gl X x) (hdb : (x == ("__debug__" : Str)) = false)
      (hsu : ∀ (a : Addr) (oe : PySem.Obj) (cls : Value) (d : Option Addr) (pn : List (Addr × PySem.Obj)), Zc cls d oe → (∃ vs, oe.data = .fields vs) → PSs (X.suite a ((a, oe) :: pn)) (b₀ :: suite) (tHS T X.K i k f a cls d)) (r : HdM T X n i hds l) :
      HdM T X n i (.ExceptHandler (some (.Name x np)) (some n) (b₀ :: suite) pos' :: hds) (.nm k f :: l)
  | bare {x : Str} {k : Nat} {f : Sx} {b₀ : Stmt} {suite : List Stmt} {np pos' : Pos} {hds : List ExceptHandler} {l : List HEnt} (hm : X.mg x = some (.ref (He.ga X.K (T.cn k)))) (hg : Gl X x) (hdb : (x == ("__debug__" : Str)) = false)
      (hsu : ∀ (a : Addr) (oe : PySem.Obj) (pn : List (Addr × PySem.Obj)), JSs T (X.suite a ((a, oe) :: pn)) Wf (b₀ :: suite) f) (r : HdM T X n i hds l) :
      HdM T X n i (.ExceptHandler (some (.Name x np)) none (b₀ :: suite) pos' :: hds) (.bare k f :: l)
  | all {x B : Str} {k : Nat} {f : List Val → Sx} {b₀ : Stmt} {suite : List Stmt} {np pos' : Pos} {hds : List ExceptHandler} {l : List HEnt} (hm : X.mg x = some (.ref (He.ga X.K B))) (hg : Gl X x) (hdb : (x == ("__debug__" : Str)) = false)
      (hsu : ∀ (a : Addr) (oe : PySem.Obj) (cls : Value) (d : Option Addr) (pn : List (Addr × PySem.Obj)), Zc cls d oe → (∃ vs, oe.data = .fields vs) → PSs (X.suite a ((a, oe) :: pn)) (b₀ :: suite) (tHS T X.K i k f a cls d)) (r : HdM T X n i hds l) :
      HdM T X n i (.ExceptHandler (some (.Name x np)) (some n) (b₀ :: suite) pos' :: hds) (.all B k f :: l)
end
section
variable {T : Tb} {X : Cx} {i k : Nat} {a : Addr} {cls : Value} {d : Option Addr} {pos p : Pos} {ea : Expr} {fa : List Val → Ex}
end
end Py
namespace Py
open PySem PySem.Spec PyProof.Rows L2
theorem exV_ok {P : Program} {w : World} {H : Hp} {h : Heap} {a C : Addr} {o : Option Addr} {oe : PySem.Obj} {fv : Array Value} (e : h.get? a = some oe) (hc : oe.cls = .ref C) (hd : oe.dict = o) (hv : oe.data = .fields fv) : ObjOk P w H h a (ExV C a o) :=
  ⟨⟨oe, fv, e, hc, hd, hv⟩, ⟨oe, e⟩, fun _ _ ⟨o, v, q, r⟩ k => ⟨o, v, k o q, r⟩⟩
theorem exV_at {P : Program} {w : World} {H : Hp} {h : Heap} {a C : Addr} {o : Option Addr} (x : ObjOk P w H h a (ExV C a o)) : ∃ (oe : PySem.Obj) (fv : Array Value), h.get? a = some oe ∧ oe.cls = .ref C ∧ oe.dict = o ∧ oe.data = .fields fv := by
  unfold ExV at x
  exact x.1
section
variable {X : Cx} {C fI : Addr} {f : Str} {i : Bool}
theorem pe_exv {x : Str} {a : Expr} {te : TE} {p pos : Pos} {k : Nat} (T : ExI.ExW i X.prog X.K f C fI) (gC : X.mg x = some (.ref C)) (hr : RoomG k X.A) (ha : PE X a te) (hg : Gl X x := by rfl) (hdb : (x == ("__debug__" : Str)) = false := by decide)
    (he : starEach (a :: []) X.env = (false, eval a X.env) :: starEach [] X.env := by rfl) (hpl : (backTo pos (starEach [] X.env)).any (·.1) = false := by rfl) :
    PE X (.Call (.Name x p) [a] [] pos) (fun σ H Q => te σ H fun v H1 => ∀ e d, H1 e = none → H1 d = none → d ≠ e → Q (.ref e) (upd (upd H1 d (.xd [(f, v)])) e (ExV C e (some d)))) := by
  refine ⟨fun pins s σ H Q I h => ?_⟩
  refine wpAny_Call_Name_kw (ld_glob I hg gC ?_ hdb)
  refine PySem.W.callWith_K (h₀ := X.base) I.ok.mod.kin T.kC ?_ he hpl
  rw [he]
  show wpAny _ _ (spliced ((false, eval a X.env) :: backTo pos (starEach [] X.env))) _ _ s
  refine Calls.spliced_cons (thn (ha.run pins s σ H _ I h) fun v' s1 ⟨v, H1, I1, rv, q1⟩ => ?_)
  refine Calls.spliced_nil ⟨I1.kIn, ?_⟩
  show wpAny _ _ (call (.ref C) [v']) _ _ _
  have hlim := I1.nolimit
  obtain ⟨mb, hb1, hb2⟩ := I1.mod.blt
  have hgk := I1.mod.glob.keeps I1.bk
  have hbk := hb1.keeps I1.bk
  have hK := I1.kIn
  obtain ⟨hp, g, dr, tk, os⟩ := s1
  refine wpAny_call (ExI.ex_made (mb := mb) T hK hgk hbk hb2 hlim (by have := hr.rm.dp; omega) fun h' tk' e d M => ?_)
  obtain ⟨oe, fv, hoe, hc, hd, hdat, h1⟩ := M.obj
  have hns := M.ns
  obtain ⟨G', g1, g2⟩ := restrict h' fun b => decide (b ≠ e)
  have gk : ∀ b, b ≠ e → G'.get? b = h'.get? b := fun b hb => g1 b (decide_eq_true hb)
  have ge : G'.get? e = none := g2 e (by simp)
  have old : ∀ b o, hp.get? b = some o → G'.get? b = some o := fun b o q => (gk b (Nat.ne_of_lt (Nat.lt_of_lt_of_le (Heap.lt_size q) M.new))).trans (M.keep b o q)
  have ob : ObjOk X.prog X.w (upd H1 d (.xd [(f, v)])) G' d (.xd [(f, v)]) :=
    ⟨_, hns.at (fun o q => (gk d M.dne).trans q), fun g => relO_ex rv g⟩
  have J : L2.Inv X pins σ (upd H1 d (.xd [(f, v)])) ⟨G', g, dr, tk', os⟩ := I1.laid (t' := tk') old M.dbig ob
  have nd : (upd H1 d (.xd [(f, v)])) e = none := by
    rw [upd_ne (Ne.symm M.dne)]
    exact I1.hok.fresh M.new
  have J2 := J.laidN (t' := tk') (h' := h') (a := e) (o := ExV C e (some d)) (fun b o q => by
    by_cases hb : b = e
    · have q' : G'.get? b = some o := q
      rw [hb, ge] at q'; cases q'
    · exact (gk b hb).symm.trans q) ge nd (exV_ok hoe hc hd hdat)
  exact ⟨.ref e, _, J2, rfl, q1 e d (I1.hok.fresh M.new) (I1.hok.fresh M.dbig) M.dne⟩
theorem pe_exv0 {bmB : List Value} {B newId initId : String} {x : Str} {p pos : Pos} (F : ExcBaseFacts B newId initId bmB) (q : PySem.W.excIn X.K C bmB newId = true) (gC : X.mg x = some (.ref C)) (kC : PySem.W.keepIn X.K (.ref C) = true) (hg : Gl X x)
    (hdb : (x == ("__debug__" : Str)) = false := by decide) : PE X (.Call (.Name x p) [] [] pos) (fun _ H Q => ∀ e, H e = none → Q (.ref e) (upd H e (ExV C e none))) := by
  refine ⟨fun pins s σ H Q I h => ?_⟩
  refine wpAny_Call_Name_kw (ld_glob I hg gC ?_ hdb)
  refine PySem.W.callWith_K0 I.kIn kC ?_
  show wpAny _ _ (call (.ref C) []) _ _ _
  obtain ⟨bm, N, nm, qn, bs, hdct, sn, sub, ab, col, dd, k0, k1, k2, k3, k5, mN, hC, hN, hni, T⟩ := exc_obj I.kIn q
  refine wpAny_call_exc_subT F T hC hN hni (fun h' e hm => ?_) (by show 0 ≤ sizeLine; rw [sizeLine_eq]; omega)
  have hn : H e = none := I.hok.gone hm.new
  obtain ⟨t, ht, _, _⟩ := hm.there
  exact ⟨.ref e, upd H e (ExV C e none), I.laidN hm.keeps hm.new hn (exV_ok ht rfl rfl rfl), rfl, h e hn⟩
theorem pe_xat {e : Expr} {te : TE} {pos : Pos} (he : PE X e te) (hb : attributeBase e f X.env (eval e X.env) = eval e X.env := by rfl) :
    PE X (.Attribute e f pos) (fun σ H Q => te σ H fun x H1 => ∃ (a C dd : Addr) (i : Bool) (fI : Addr) (v : V), ExI.ExW i X.prog X.K f C fI ∧ x = .ref a ∧ H1 a = some (ExV C a (some dd)) ∧ H1 dd = some (.xd [(f, v)]) ∧ Q v H1) := by
  refine ⟨fun pins s σ H Q I h => ?_⟩
  refine attr_of hb (thn (he.run pins s σ H _ I h) fun u s1 hh => ?_)
  obtain ⟨x, H1, I1, rx, a, C, dd, i, fI, v, T, ex, ea, ed, q⟩ := hh
  subst ex
  obtain rfl : u = Value.ref a := rx
  obtain ⟨oe, fv, ha, hc, hd, hv⟩ := exV_at (I1.hok a _ ea)
  have hx : ObjOk X.prog X.w H1 s1.heap dd (.xd [(f, v)]) := I1.hok dd _ ed
  obtain ⟨mA, hns, hr⟩ := hx
  obtain ⟨od, ho, hl⟩ := lookIn_ns hns
  have l : List.lookup f [(f, v)] = some v := by simp [List.lookup]
  obtain ⟨u, hu, ru⟩ := RelO.some_of (v := v) (o := mA f) (by rw [← l]; exact hr f)
  have J : PySem.W.InstAt s1.heap a oe C (some od) := ⟨ha, hc, by unfold PySem.W.notCls; rw [hv] <;> rfl, by rw [hd]; exact ho⟩
  exact HandSPX.exc_get I1.kIn J T.ga T.gg T.exC (PySem.W.findObj_own T.hdC T.noN rfl (by rw [hl, hu])) (handed_of ru) ⟨v, H1, I1.tok _, ru, q⟩
theorem call_isV {X : Cx} : CallR X (.builtin "isinstance")
    (fun xs H Q => ∃ (a D : Addr) (o : Option Addr) (c : V) (cv : Value) (b : Bool), xs = [.ref a, c] ∧ ExcC X.K D ∧ H a = some (ExV D a o) ∧ (∀ dx, o = some dx → ∃ l, H dx = some (.xd l)) ∧ (∀ u, RelV c u → u = cv) ∧ PySem.W.kitOne X.K (.ref D) cv = some b ∧ Q (.bl b) H) := by
  intro pins s σ H xs us Q I r h
  obtain ⟨a, D, o, c, cv, b, rfl, C, ea, hd, hcv, e, q⟩ := h
  cases r with
  | cons rx rr =>
    cases rr with
    | cons rt rr =>
      cases rr
      cases rx
      have ec := hcv _ rt
      subst ec
      obtain ⟨oe, fv, ha, hc, hdi, hv⟩ := exV_at (I.hok a _ ea)
      have hcl : (PySem.W.clsIn X.K D).isSome = true := by obtain ⟨cd, hc, _⟩ := PySem.W.any_some C.hd; rw [hc]; rfl
      have J : ∃ od, PySem.W.InstAt s.heap a oe D od := by
        cases o with
        | none => exact ⟨none, ha, hc, by unfold PySem.W.notCls; rw [hv] <;> rfl, by rw [hdi]; trivial⟩
        | some dx =>
          obtain ⟨l, el⟩ := hd dx rfl
          have hx : ObjOk X.prog X.w H s.heap dx (.xd l) := I.hok dx _ el
          obtain ⟨mA, hns, hr⟩ := hx
          obtain ⟨od, ho, hl⟩ := lookIn_ns hns
          exact ⟨some od, ha, hc, by unfold PySem.W.notCls; rw [hv] <;> rfl, by rw [hdi]; exact ho⟩
      obtain ⟨od, J⟩ := J
      exact PySem.W.kia_one (PySem.W.kitx_exc hcl C.hg C.hk C.hs C.ha C.hn C.ht C.hm) I.kIn J e (fun z => nomatch z) fun tk => ⟨.bl b, H, I.kept (t' := tk) fun _ _ z => z, rfl, q⟩
end
def xExn (c : Nat) (fe : Ex) : Ex := fun sg h => (fe sg h).bind fun v h1 => .ok (.ref h1.length) (h1 ++ [.exn c [v]])
def xExn0 (c : Nat) : Ex := fun _ h => .ok (.ref h.length) (h ++ [.exn c []])
def gXat (cs : List Nat) : Hh → Val → Option Val := fun h v => match v with
  | .ref k => (match h[k]? with
    | some (.exn c [u]) => if c ∈ cs then some u else none
    | _ => none)
  | _ => none
structure IsXOk (T : Tb) (K : PySem.W.Frag) (cv : Value) (l : List (Nat × Bool)) : Prop where
  own : ∀ c b, l.lookup c = some b → PySem.W.kitOne K (.ref (He.ga K (T.cn c))) cv = some b ∧ ExcC K (He.ga K (T.cn c))
def isXB (T : Nat → Str) (K : PySem.W.Frag) (cv : Value) (l : List (Nat × Bool)) : Bool := l.all fun p => decide (PySem.W.kitOne K (.ref (He.ga K (T p.1))) cv = some p.2) && excB K (He.ga K (T p.1))
theorem isx_of {T : Tb} {K : PySem.W.Frag} {cv : Value} {l : List (Nat × Bool)} (h : isXB T.cn K cv l = true) : IsXOk T K cv l := ⟨fun c b e => by
  obtain ⟨a, b⟩ := He.ba (List.all_eq_true.mp h (c, b) (lookup_mem e))
  exact ⟨of_decide_eq_true a, exc_of b⟩⟩
def gIsX (l : List (Nat × Bool)) : Hh → Val → Option Val := fun h v => match v with
  | .ref k => (match h[k]? with
    | some (.exn c _) => (l.lookup c).map .bl
    | _ => none)
  | _ => none
theorem xat_cons {T : Tb} {P : Program} {K : PySem.W.Frag} {f : Str} {c : Nat} {cs : List Nat} (x : XcOk T P K c f) (h : ∀ c ∈ cs, XcOk T P K c f) : ∀ d ∈ c :: cs, XcOk T P K d f := fun d hd => by
  rcases List.mem_cons.mp hd with rfl | hd
  · exact x
  · exact h d hd
section
variable {T : Tb} {X : Cx} {W : WX} {e : Expr} {fe : Ex} {pos p p1 p2 : Pos} {c k : Nat} {f x : Str}
theorem je_exn (xc : XcOk T X.prog X.K c f) (gC : X.mg x = some (.ref (He.ga X.K (T.cn c)))) (hr : RoomG k X.A) (he : JE T X W e fe) (hg : Gl X x := by rfl) (hdb : (x == ("__debug__" : Str)) = false := by decide)
    (hs : starEach (e :: []) X.env = (false, eval e X.env) :: starEach [] X.env := by rfl) (hpl : (backTo pos (starEach [] X.env)).any (·.1) = false := by rfl) :
    JE T X W (.Call (.Name x p) [e] [] pos) (xExn c fe) := by
  obtain ⟨ib, fI, ex⟩ := xc.ex
  refine pe_imp (pe_exv ex gC hr he hg hdb hs hpl) fun σ H Q ⟨io, h, F, sg, sr, rs, w⟩ => ⟨io, h, F, sg, sr, rs, Wants.bind w fun v h1 io1 F1 H1 y st sr1 vr w1 => fun a d ha hd hne => ?_⟩
  have hx2 : upd H1 d (.xd [(f, y)]) a = none := by rw [upd_ne (Ne.symm hne)]; exact ha
  have hH : ∀ b u, H1 b = some u → upd (upd H1 d (.xd [(f, y)])) a (ExV (He.ga X.K (T.cn c)) a (some d)) b = some u := fun b u e => upd_sub _ hx2 b u (upd_sub H1 hd b u e)
  have new : OR T X.K (ioPush io1 h1.length a) (h1.length + 1) F1 (upd (upd H1 d (.xd [(f, y)])) a (ExV (He.ga X.K (T.cn c)) a (some d))) a (.exn c [v]) :=
    ⟨some d, [y], upd_same, fun dx q => by cases q; rw [upd_ne hne, upd_same, xc.fn]; rfl, .cons (vr.mono (Nat.le_succ _) (fun k hk => ioPush_lt io1 a hk) (fun _ _ e => e)) .nil, by rw [xc.fn]; rfl, nofun⟩
  have s1 := sr1.push ha hH new
  have st1 : Step io1 h1.length F1 H1 (ioPush io1 h1.length a) (h1 ++ [Obj.exn c [v]]).length F1 _ := sr1.pushStep ha hH
  have v0 : VR T X.K (ioPush io1 h1.length a) (h1 ++ [Obj.exn c [v]]).length F1 (.ref h1.length) (.ref a) := by
    have := VR.ref (T := T) (K := X.K) (io := ioPush io1 h1.length a) (F := F1) (n := (h1 ++ [Obj.exn c [v]]).length) h1.length (by simp)
    rw [ioPush_at] at this
    exact this
  exact w1 _ _ _ _ st1 s1 v0
theorem je_exn0 (xn : XnOk T X.K c) (gC : X.mg x = some (.ref (He.ga X.K (T.cn c)))) (hg : Gl X x := by rfl) (hdb : (x == ("__debug__" : Str)) = false := by decide) : JE T X W (.Call (.Name x p) [] [] pos) (xExn0 c) := by
  refine pe_imp (pe_exv0 PySem.F.excBase_ValueError xn.ei gC xn.kC hg hdb) fun σ H Q ⟨io, h, F, sg, sr, rs, w⟩ => fun a ha => ?_
  have hH : ∀ b u, H b = some u → upd H a (ExV (He.ga X.K (T.cn c)) a none) b = some u := fun b u e => upd_sub H ha b u e
  have new : OR T X.K (ioPush io h.length a) (h.length + 1) F (upd H a (ExV (He.ga X.K (T.cn c)) a none)) a (.exn c []) :=
    ⟨none, [], upd_same, fun dx q => (nomatch q), .nil, by rw [xn.fn]; rfl, fun _ => rfl⟩
  have s1 := sr.push ha hH new
  have st1 : Step io h.length F H (ioPush io h.length a) (h ++ [Obj.exn c []]).length F _ := sr.pushStep ha hH
  have v0 : VR T X.K (ioPush io h.length a) (h ++ [Obj.exn c []]).length F (.ref h.length) (.ref a) := by
    have := VR.ref (T := T) (K := X.K) (io := ioPush io h.length a) (F := F) (n := (h ++ [Obj.exn c []]).length) h.length (by simp)
    rw [ioPush_at] at this
    exact this
  exact w _ _ _ _ st1 s1 v0
theorem je_xat {cs : List Nat} (hcs : ∀ c ∈ cs, XcOk T X.prog X.K c f) (he : JE T X W e fe) (hb : attributeBase e f X.env (eval e X.env) = eval e X.env := by rfl) : JE T X W (.Attribute e f pos) (xUn (gXat cs) fe) := by
  refine pe_imp (pe_xat he hb) fun σ H Q ⟨io, h, F, sg, sr, rs, w⟩ => ⟨io, h, F, sg, sr, rs, Wants.bind w fun v h1 io1 F1 H1 y st sr1 vr w1 => ?_⟩
  obtain ⟨z, ez, w2⟩ := wants_ofO w1
  unfold gXat at ez
  cases vr with
  | ref k hk =>
    dsimp only at ez
    cases ek : h1[k]? with
    | none => rw [ek] at ez; cases ez
    | some ob =>
      rw [ek] at ez
      match ob, ek, ez with
      | .lst _, _, ez => cases ez
      | .ins _ _, _, ez => cases ez
      | .dct _ _, _, ez => cases ez
      | .exn _ [], _, ez => cases ez
      | .exn _ (_ :: _ :: _), _, ez => cases ez
      | .exn c [u], ek, ez =>
        dsimp only at ez
        by_cases q : c ∈ cs
        · rw [if_pos q] at ez
          cases ez
          have xc := hcs c q
          obtain ⟨ib, fI, ex⟩ := xc.ex
          obtain ⟨o, xs, ea, ed, r, hl, hn⟩ := sr1.obj k _ ek
          cases o with
          | none => cases hn rfl
          | some dx =>
            have ed := ed dx rfl
            rw [xc.fn] at ed
            cases r with
            | @cons _ y1 _ _ r1 r2 =>
              cases r2
              exact ⟨io1 k, _, dx, ib, fI, y1, ex, rfl, ea, ed, w2 io1 F1 H1 y1 .refl sr1 r1⟩
        · rw [if_neg q] at ez; cases ez
  | _ => cases ez
theorem isx_step {l : List (Nat × Bool)} {cv : Value} {cV : V} {io1 : Nat → Addr} {h1 : Hh} {F1 H1 : Hp} {v z : Val} {y : V} {Q : VK} (k : IsXOk T X.K cv l) (hcv : ∀ u, RelV cV u → u = cv) (sr1 : SR T X.K io1 h1 F1 H1) (vr : VR T X.K io1 h1.length F1 v y) (ez : gIsX l h1 v = some z)
    (w2 : ∀ io' F' H' x', Step io1 h1.length F1 H1 io' h1.length F' H' → SR T X.K io' h1 F' H' → VR T X.K io' h1.length F' z x' → Q x' H') :
    ∃ (a D : Addr) (o : Option Addr) (c : V) (cv : Value) (b : Bool), [y, cV] = [.ref a, c] ∧ ExcC X.K D ∧ H1 a = some (ExV D a o) ∧ (∀ dx, o = some dx → ∃ l, H1 dx = some (.xd l)) ∧ (∀ u, RelV c u → u = cv) ∧ PySem.W.kitOne X.K (.ref D) cv = some b ∧ Q (.bl b) H1 := by
  unfold gIsX at ez
  cases vr with
  | ref j hk =>
    dsimp only at ez
    cases ek : h1[j]? with
    | none => rw [ek] at ez; cases ez
    | some ob =>
      rw [ek] at ez
      cases ob with
      | lst _ => cases ez
      | ins _ _ => cases ez
      | dct _ _ => cases ez
      | exn c fs =>
        obtain ⟨b, eb, rfl⟩ := map_some ez
        obtain ⟨k1, k2⟩ := k.own c b eb
        obtain ⟨o, xs, ea, ed, r, hl, hn⟩ := sr1.obj j _ ek
        exact ⟨io1 j, _, o, cV, cv, b, rfl, k2, ea, fun dx e => ⟨_, ed dx e⟩, hcv, k1, w2 io1 F1 H1 _ .refl sr1 (.bl _)⟩
  | _ => cases ez
theorem je_isXo {l : List (Nat × Bool)} (he : JE T X W e fe) (k : IsXOk T X.K (.ref (He.ga X.K x)) l) (hm : X.mg "isinstance" = none) (hmc : X.mg x = some (.ref (He.ga X.K x))) (hgc : Gl X x := by rfl) (hg : Gl X "isinstance" := by rfl) (hd : (x == ("__debug__" : Str)) = false := by decide)
    (hs : starEach [e, .Name x p2] X.env = (false, eval e X.env) :: starEach [.Name x p2] X.env := by rfl) (hs2 : starEach [.Name x p2] X.env = (false, eval (.Name x p2) X.env) :: starEach [] X.env := by rfl) (hpl : (backTo pos (starEach [.Name x p2] X.env)).any (·.1) = false := by rfl) :
    JE T X W (.Call (.Name "isinstance" p1) [e, .Name x p2] [] pos) (xUn (gIsX l) fe) := by
  refine pe_imp (pe_callB call_isV hg hm (by decide +kernel) (pa_cons he (pa_cons (pe_glob (v := .ref (He.ga X.K x)) hgc hmc rfl hd) pa_nil hs2) hs) (by decide) (by decide) hs hpl) fun σ H Q ⟨io, h, F, sg, sr, rs, w⟩ => ⟨io, h, F, sg, sr, rs, Wants.bind w fun v h1 io1 F1 H1 y st sr1 vr w1 => ?_⟩
  obtain ⟨z, ez, w2⟩ := wants_ofO w1
  exact isx_step k (fun u r => r) sr1 vr ez w2
theorem je_isXb {l : List (Nat × Bool)} (n : String) (he : JE T X W e fe) (k : IsXOk T X.K (.type n) l) (hm : X.mg "isinstance" = none) {cn : Str} (hmc : X.mg cn = none) (hvc : bootBuiltins cn = some (.type n) := by decide +kernel) (hgc : Gl X cn := by rfl) (hg : Gl X "isinstance" := by rfl) (hn : cn ≠ "__name__" := by decide) (hd : (cn == ("__debug__" : Str)) = false := by decide)
    (hs : starEach [e, .Name cn p2] X.env = (false, eval e X.env) :: starEach [.Name cn p2] X.env := by rfl) (hs2 : starEach [.Name cn p2] X.env = (false, eval (.Name cn p2) X.env) :: starEach [] X.env := by rfl) (hpl : (backTo pos (starEach [.Name cn p2] X.env)).any (·.1) = false := by rfl) :
    JE T X W (.Call (.Name "isinstance" p1) [e, .Name cn p2] [] pos) (xUn (gIsX l) fe) := by
  refine pe_imp (pe_callB call_isV hg hm (by decide +kernel) (pa_cons he (pa_cons (pe_bltn (v := .ty n) hgc hmc hvc rfl hn hd) pa_nil hs2) hs) (by decide) (by decide) hs hpl) fun σ H Q ⟨io, h, F, sg, sr, rs, w⟩ => ⟨io, h, F, sg, sr, rs, Wants.bind w fun v h1 io1 F1 H1 y st sr1 vr w1 => ?_⟩
  obtain ⟨z, ez, w2⟩ := wants_ofO w1
  exact isx_step k (fun u r => r) sr1 vr ez w2
end
end Py
namespace Law
open PySem PySem.Spec PyProof.Rows L2 Py
end Law
namespace Py
open PySem
theorem pureVs_all : ∀ {vs : List Val}, pureVs vs = true → ∀ v ∈ vs, pureV v = true
  | [], _, v, hv => by cases hv
  | u :: vs, h, v, hv => by
    simp [pureVs] at h
    rcases List.mem_cons.mp hv with rfl | hv
    · exact h.1
    · exact pureVs_all h.2 v hv
end Py
namespace Law
open PySem PySem.Spec PyProof.Rows L2 Py
theorem sc_Lseed : FnScope ["_law_script", "_law_k", "_law_cell"] ["_law_script", "_law_k"] (defScope s_Lseed) := ⟨rfl, rfl, rfl, by decide +kernel, rfl, by decide +kernel, by decide +kernel⟩
theorem sc_Lchoose : FnScope ["_law_box", "_law_many", "_law_digit", "_law_raw"] ["_law_box", "_law_many"] (defScope s_Lchoose) := ⟨rfl, rfl, rfl, by decide +kernel, rfl, by decide +kernel, by decide +kernel⟩
theorem sc_Lone_of : FnScope ["_law_box", "_law_some"] ["_law_box", "_law_some"] (defScope s_Lone_of) := ⟨rfl, rfl, rfl, by decide +kernel, rfl, by decide +kernel, by decide +kernel⟩
theorem sc_Lleaf : FnScope ["_law_box", "_law_some"] ["_law_box"] (defScope s_Lleaf) := ⟨rfl, rfl, rfl, by decide +kernel, rfl, by decide +kernel, by decide +kernel⟩
theorem sc_Lany : FnScope ["_law_box", "_law_deep", "_law_form", "_law_found", "_law_turn"] ["_law_box", "_law_deep"] (defScope s_Lany) := ⟨rfl, rfl, rfl, by decide +kernel, rfl, by decide +kernel, by decide +kernel⟩
theorem sc_Lmade : FnScope ["_law_value", "_law_found"] ["_law_value"] (defScope s_Lmade) := ⟨rfl, rfl, rfl, by decide +kernel, rfl, by decide +kernel, by decide +kernel⟩
theorem sc_Lkept : FnScope ["_law_errors", "_law_error"] ["_law_errors"] (defScope s_Lkept) := ⟨rfl, rfl, rfl, by decide +kernel, rfl, by decide +kernel, by decide +kernel⟩
theorem sc_Lsorts : FnScope ["_law_error", "_law_found"] ["_law_error"] (defScope s_Lsorts) := ⟨rfl, rfl, rfl, by decide +kernel, rfl, by decide +kernel, by decide +kernel⟩
theorem sc_law : FnScope ["_law_script", "_law_k", "_law_box", "_law_turn", "_law_value", "_law_errors", "_law_held", "_law_made_here", "_law_spot", "_law_error", "_law_is_plain", "_law_other"] ["_law_script"] (defScope s_law) := ⟨rfl, rfl, rfl, by decide +kernel, rfl, by decide +kernel, by decide +kernel⟩
def f_Lseed : Fx := fnOf 2 3
 (xSeq (xSet 2 (xOp gAdd (xOp gMul (xC (.int 8831)) (xVar 1)) (xC (.int 101))))
 (xSeq (xIfS (xOp gLt (xVar 1) (xCB gLen (xCons (xVar 0) xNil)))
 (xSet 2 (xCB gAbs (xCons (xOp gIx (xVar 0) (xVar 1)) xNil)))
 (xIfS (xOp gGt (xCB gLen (xCons (xVar 0) xNil)) (xC (.int 0)))
 (xSet 2 (xOp gAdd (xVar 2) (xOp gMul (xOp gMod (xCB gInt1 (xCons (xCB gAbs (xCons (xOp gIx (xVar 0) (xOp gMod (xCB gInt1 (xCons (xVar 1) xNil)) (xCB gLen (xCons (xVar 0) xNil)))) xNil)) xNil)) (xC (.int 2147483629))) (xC (.int 40093)))))
 xSkip))
 (xRet (xLst (xCons (xIf (xOp gGe (xVar 2) (xOp gPow (xC (.int 10)) (xC (.int 18)))) (xVar 2) (xC (.int 0))) (xCons (xOp gAdd (xOp gMod (xCB gInt1 (xCons (xOp gAdd (xOp gMul (xOp gMod (xCB gInt1 (xCons (xVar 2) xNil)) (xC (.int 2147483629))) (xC (.int 48271))) (xOp gMul (xC (.int 37021)) (xVar 1))) xNil)) (xC (.int 2147483629))) (xC (.int 1))) xNil))))))
def f_Lchoose : Fx := fnOf 2 4
 (xSeq (xIfS (xOp gGt (xOp gIx (xVar 0) (xC (.int 0))) (xC (.int 0)))
 (xSeq (xSet 2 (xOp gMod (xCB gInt1 (xCons (xOp gIx (xVar 0) (xC (.int 0))) xNil)) (xVar 1)))
 (xSeq (xAsg (xOp gFdiv (xOp gIx (xVar 0) (xC (.int 0))) (xVar 1)) (gSetIx (xVar 0) (xC (.int 0))))
 (xRet (xVar 2))))
 xSkip)
 (xSeq (xSet 3 (xOp gMod (xCB gInt1 (xCons (xOp gAdd (xOp gMul (xOp gIx (xVar 0) (xC (.int 1))) (xC (.int 40014))) (xC (.int 71))) xNil)) (xC (.int 2147483563))))
 (xSeq (xAsg (xOp gAdd (xOp gMod (xCB gInt1 (xCons (xOp gAdd (xOp gMul (xVar 3) (xC (.int 40692))) (xC (.int 4603))) xNil)) (xC (.int 2147483629))) (xC (.int 1))) (gSetIx (xVar 0) (xC (.int 1))))
 (xRet (xOp gMod (xCB gInt1 (xCons (xOp gFdiv (xOp gAdd (xOp gMul (xVar 3) (xC (.int 2147483647))) (xOp gIx (xVar 0) (xC (.int 1)))) (xC (.int 8191))) xNil)) (xVar 1))))))
def f_Lone_of : Fx := fnOf 2 2
 (xRet (xOp gIxX (xVar 1) (xCallB TBf f_Lchoose [] (xCons (xVar 0) (xCons (xCB gLenX (xCons (xVar 1) xNil)) xNil)))))
def f_Lleaf : Fx := fnOf 1 2
 (xSeq (xSet 1 (xLstF (xCons (xC .non) (xCons (xC (.bl true)) (xCons (xC (.bl false)) (xCons (xC (.int 0)) (xCons (xC (.int 1)) (xCons (xOp gSub (xC (.int 0)) (xC (.int 1))) (xCons (xC (.int 2)) (xCons (xC (.int 3)) (xCons (xC (.str [])) (xCons (xC (.str [98, 117, 115, 121])) (xCons (xC (.str [112, 114, 105, 118, 97, 116, 101])) (xCons (xC (.str [111, 110, 101])) (xCons (xC (.str [50, 45, 53])) xNil)))))))))))))))
 (xRet (xCallB TBf f_Lone_of [] (xCons (xVar 0) (xCons (xOp gPlusA (xVar 1) (xLstF (xCons (xC (.str [45])) (xCons (xC (.str [49, 50, 58, 32, 45])) xNil)))) xNil)))))
def r_Lany : Nat → Fx
  | 0 => fnOf 2 5 fun _ _ => .bad
  | n + 1 => fnOf 2 5
     (xSeq (xSet 2 (xIf (xOp gGt (xVar 1) (xC (.int 0))) (xCallB TBf f_Lchoose [] (xCons (xVar 0) (xCons (xC (.int 6)) xNil))) (xC (.int 9))))
     (xSeq (xIfS (xOp gGt (xVar 2) (xC (.int 1)))
     (xRet (xCallB TBf f_Lleaf [] (xCons (xVar 0) xNil)))
     xSkip)
     (xSeq (xSet 3 (xCompF [4] (xIRng1 (xCons (xCallB TBf f_Lchoose [] (xCons (xVar 0) (xCons (xC (.int 4)) xNil))) xNil)) (gN 4) (xC (.bl true)) (xCallB TBf (r_Lany n) [] (xCons (xVar 0) (xCons (xOp gSub (xVar 1) (xC (.int 1))) xNil)))))
     (xRet (xIf (xOp gEq (xVar 2) (xC (.int 0))) (xCB gTuple (xCons (xVar 3) xNil)) (xVar 3))))))
def f_Lany : Fx := r_Lany 9
def f_Lmade : Fx := fnOf 1 2
 (xSeq (xSet 1 (xLstF (xCons (xExn 1 (xVar 0)) (xCons (xExn 2 (xVar 0)) (xCons (xExn 3 (xVar 0)) (xCons (xExn 4 (xVar 0)) (xCons (xExn 5 (xVar 0)) xNil)))))))
 (xRet (xOp gPlusA (xVar 1) (xLstF (xCons (xExn 8 (xVar 0)) (xCons (xExn 9 (xVar 0)) xNil))))))
def f_Lkept : Fx := fnOf 1 2
 (xRet (xOp gPlusA (xCompF [1] (xISX (xSlice (xVar 0) oNone (oSome (xC (.int 3))))) (gN 1) (xC (.bl true)) (xUn (gXat [1, 2, 3]) (xVar 1))) (xCompF [1] (xISX (xSlice (xVar 0) (oSome (xC (.int 3))) oNone)) (gN 1) (xC (.bl true)) (xUn (gXat [4, 5, 8, 9]) (xVar 1)))))
def f_Lsorts : Fx := fnOf 1 2
 (xSeq (xSet 1 (xLst (xCons (xUn (gIsX is_x_InvalidDay) (xVar 0)) (xCons (xUn (gIsX is_x_InvalidRule) (xVar 0)) (xCons (xUn (gIsX is_x_InvalidFrame) (xVar 0)) xNil)))))
 (xSeq (xDrop (xBM "list" gExtendX (xVar 1) (xCons (xLst (xCons (xUn (gIsX is_x_InvalidText) (xVar 0)) (xCons (xUn (gIsX is_x_InvalidLooks) (xVar 0)) (xCons (xUn (gIsX is_x_Refused) (xVar 0)) xNil)))) xNil)))
 (xSeq (xDrop (xBM "list" gExtendX (xVar 1) (xCons (xLst (xCons (xUn (gIsX is_x_NoMeeting) (xVar 0)) (xCons (xUn (gIsX is_x_InvalidSlot) (xVar 0)) xNil))) xNil)))
 (xRet (xOp gPlusA (xVar 1) (xLstF (xCons (xUn (gIsX is_x_InvalidCommand) (xVar 0)) xNil)))))))
def f_law : Fx := fnOf 1 12
 (xSeq (xFor (xIRng1 (xCons (xCB gMax2 (xCons (xC (.int 2)) (xCons (xCB gMin2 (xCons (xC (.int 5)) (xCons (xCB gLenX (xCons (xVar 0) xNil)) xNil))) xNil))) xNil)) (gN 1)
 (xSeq (xSet 2 (xCallO TBf f_Lseed [] (xCons (xVar 0) (xCons (xVar 1) xNil))))
 (xFor (xIRng1 (xCons (xC (.int 6)) xNil)) (gN 3)
 (xSeq (xSet 4 (xCallB TBf f_Lany [] (xCons (xVar 2) (xCons (xC (.int 5)) xNil))))
 (xSeq (xSet 5 (xCallA f_Lmade [] (xCons (xVar 4) xNil)))
 (xSeq (xIfS (xOp gNe (xCB gRepr (xCons (xCallA f_Lkept [] (xCons (xVar 5) xNil)) xNil)) (xCB gRepr (xCons (xOpH gRepA (xLst (xCons (xVar 4) xNil)) (xC (.int 7))) xNil)))
 (xRet (xC (.bl false)))
 xSkip)
 (xSeq (xSet 6 (xLst (xCons (xVar 4) xNil)))
 (xSeq (xSet 7 (xCallA f_Lmade [] (xCons (xVar 6) xNil)))
 (xSeq (xDrop (xBM "list" gAppend (xVar 6) (xCons (xC (.int 5)) xNil)))
 (xSeq (xIfS (xOp gNe (xCB gRepr (xCons (xCallA f_Lkept [] (xCons (xVar 7) xNil)) xNil)) (xCB gRepr (xCons (xOpH gRepA (xLst (xCons (xLstF (xCons (xVar 4) (xCons (xC (.int 5)) xNil))) xNil)) (xC (.int 7))) xNil)))
 (xRet (xC (.bl false)))
 xSkip)
 (xFor (xIN (xCons (xOp gPlusA (xVar 5) (xLstF (xCons (xExn0 6) (xCons (xExn0 7) xNil)))) xNil)) (gTu 2 (gsCons (gN 8) (gsCons (gN 9) gsNil)))
 (xSeq (xIfS (xOp gNe (xCallA f_Lsorts [] (xCons (xVar 9) xNil)) (xCompF [11] (xIRng1 (xCons (xC (.int 9)) xNil)) (gN 11) (xC (.bl true)) (xOp gEq (xVar 11) (xVar 8))))
 (xRet (xC (.bl false)))
 xSkip)
 (xSeq (xSet 10 (xAnd (xUn (gIsX is_x_DimError) (xVar 9)) (xUn (gIsX is_x_ValueError) (xVar 9))))
 (xIfS (xOr (xOp gNe (xVar 10) (xOp gNe (xVar 8) (xC (.int 6)))) (xOp gNe (xUn (gIsX is_x_IndexError) (xVar 9)) (xOp gEq (xVar 8) (xC (.int 6)))))
 (xRet (xC (.bl false)))
 xSkip))))))))))))))
 (xRet (xC (.bl true))))
structure Tx (P : Program) (w : World) (K : PySem.W.Frag) (mg : Str → Option Value) : Prop where
  ko : KdO (TB P w) K
  xc_InvalidDay : XcOk (TB P w) P K 1 "word"
  xc_InvalidRule : XcOk (TB P w) P K 2 "word"
  xc_InvalidFrame : XcOk (TB P w) P K 3 "word"
  xc_InvalidText : XcOk (TB P w) P K 4 "at"
  xc_InvalidLooks : XcOk (TB P w) P K 5 "at"
  xc_Refused : XcOk (TB P w) P K 8 "at"
  xc_NoMeeting : XcOk (TB P w) P K 9 "at"
  xn_InvalidSlot : XnOk (TB P w) K 6
  xn_InvalidCommand : XnOk (TB P w) K 7
  ix_InvalidDay : IsXOk (TB P w) K (.ref (He.ga K "InvalidDay")) is_x_InvalidDay
  ix_InvalidRule : IsXOk (TB P w) K (.ref (He.ga K "InvalidRule")) is_x_InvalidRule
  ix_InvalidFrame : IsXOk (TB P w) K (.ref (He.ga K "InvalidFrame")) is_x_InvalidFrame
  ix_InvalidText : IsXOk (TB P w) K (.ref (He.ga K "InvalidText")) is_x_InvalidText
  ix_InvalidLooks : IsXOk (TB P w) K (.ref (He.ga K "InvalidLooks")) is_x_InvalidLooks
  ix_Refused : IsXOk (TB P w) K (.ref (He.ga K "Refused")) is_x_Refused
  ix_NoMeeting : IsXOk (TB P w) K (.ref (He.ga K "NoMeeting")) is_x_NoMeeting
  ix_InvalidSlot : IsXOk (TB P w) K (.ref (He.ga K "InvalidSlot")) is_x_InvalidSlot
  ix_InvalidCommand : IsXOk (TB P w) K (.ref (He.ga K "InvalidCommand")) is_x_InvalidCommand
  ix_ValueError : IsXOk (TB P w) K (.type "ValueError") is_x_ValueError
  ix_DimError : IsXOk (TB P w) K (.ref (He.ga K "DimError")) is_x_DimError
  ix_IndexError : IsXOk (TB P w) K (.type "IndexError") is_x_IndexError
  n_IndexError : mg "IndexError" = none
  n_ValueError : mg "ValueError" = none
  n_abs : mg "abs" = none
  n_enumerate : mg "enumerate" = none
  n_int : mg "int" = none
  n_isinstance : mg "isinstance" = none
  n_len : mg "len" = none
  n_max : mg "max" = none
  n_min : mg "min" = none
  n_range : mg "range" = none
  n_repr : mg "repr" = none
  n_tuple : mg "tuple" = none
  g_Lseed : mg "_law_seed" = some (.ref (He.ga K "_law_seed"))
  g_Lchoose : mg "_law_choose" = some (.ref (He.ga K "_law_choose"))
  g_Lone_of : mg "_law_one_of" = some (.ref (He.ga K "_law_one_of"))
  g_Lleaf : mg "_law_leaf" = some (.ref (He.ga K "_law_leaf"))
  g_Lany : mg "_law_any" = some (.ref (He.ga K "_law_any"))
  g_InvalidDay : mg "InvalidDay" = some (.ref (He.ga K "InvalidDay"))
  g_InvalidRule : mg "InvalidRule" = some (.ref (He.ga K "InvalidRule"))
  g_InvalidFrame : mg "InvalidFrame" = some (.ref (He.ga K "InvalidFrame"))
  g_InvalidText : mg "InvalidText" = some (.ref (He.ga K "InvalidText"))
  g_InvalidLooks : mg "InvalidLooks" = some (.ref (He.ga K "InvalidLooks"))
  g_Refused : mg "Refused" = some (.ref (He.ga K "Refused"))
  g_NoMeeting : mg "NoMeeting" = some (.ref (He.ga K "NoMeeting"))
  g_Lmade : mg "_law_made" = some (.ref (He.ga K "_law_made"))
  g_Lkept : mg "_law_kept" = some (.ref (He.ga K "_law_kept"))
  g_InvalidSlot : mg "InvalidSlot" = some (.ref (He.ga K "InvalidSlot"))
  g_InvalidCommand : mg "InvalidCommand" = some (.ref (He.ga K "InvalidCommand"))
  g_Lsorts : mg "_law_sorts" = some (.ref (He.ga K "_law_sorts"))
  g_DimError : mg "DimError" = some (.ref (He.ga K "DimError"))
  d_Lseed : ∃ fd, FunD K "_law_seed" "_law_seed" (defArgs s_Lseed) (defBody s_Lseed) (defScope s_Lseed) [] [] (He.ga K "_law_seed") fd
  d_Lchoose : ∃ fd, FunD K "_law_choose" "_law_choose" (defArgs s_Lchoose) (defBody s_Lchoose) (defScope s_Lchoose) [] [] (He.ga K "_law_choose") fd
  d_Lone_of : ∃ fd, FunD K "_law_one_of" "_law_one_of" (defArgs s_Lone_of) (defBody s_Lone_of) (defScope s_Lone_of) [] [] (He.ga K "_law_one_of") fd
  d_Lleaf : ∃ fd, FunD K "_law_leaf" "_law_leaf" (defArgs s_Lleaf) (defBody s_Lleaf) (defScope s_Lleaf) [] [] (He.ga K "_law_leaf") fd
  d_Lany : ∃ fd, FunD K "_law_any" "_law_any" (defArgs s_Lany) (defBody s_Lany) (defScope s_Lany) [] [] (He.ga K "_law_any") fd
  d_Lmade : ∃ fd, FunD K "_law_made" "_law_made" (defArgs s_Lmade) (defBody s_Lmade) (defScope s_Lmade) [] [] (He.ga K "_law_made") fd
  d_Lkept : ∃ fd, FunD K "_law_kept" "_law_kept" (defArgs s_Lkept) (defBody s_Lkept) (defScope s_Lkept) [] [] (He.ga K "_law_kept") fd
  d_Lsorts : ∃ fd, FunD K "_law_sorts" "_law_sorts" (defArgs s_Lsorts) (defBody s_Lsorts) (defScope s_Lsorts) [] [] (He.ga K "_law_sorts") fd
  d_law : ∃ fd, FunD K "law" "law" (defArgs s_law) (defBody s_law) (defScope s_law) [] [] (He.ga K "law") fd
section
variable {P : Program} {w : World} {K : PySem.W.Frag} {mg : Str → Option Value} {base : Heap}
theorem fo_Lseed (X : Tx P w K mg) {fd : FuncData} (FD : FunD K "_law_seed" "_law_seed" (defArgs s_Lseed) (defBody s_Lseed) (defScope s_Lseed) [] [] (He.ga K "_law_seed") fd) : FnG P w K mg base (CX P w) 1 (He.ga K "_law_seed") fd ["_law_script", "_law_k"] (spF (TB P w) K f_Lseed) := by
  refine fn_ok FD sc_Lseed (fun cdv A outer s H E hr => ?_)
  have tk := takes_of (X := cxOf (CX P w) P w K mg base ["_law_script", "_law_k", "_law_cell"] "_law_seed" (defScope s_Lseed) (He.ga K "_law_seed") cdv A outer s H E) rfl rfl rfl rfl
  have hp := passes_of (X := cxOf (CX P w) P w K mg base ["_law_script", "_law_k", "_law_cell"] "_law_seed" (defScope s_Lseed) (He.ga K "_law_seed") cdv A outer s H E) rfl
  exact (jss_cons (js_set 2 sc_Lseed.nd (je_op op_add lift_add (je_op op_mul lift_mul je_int (je_var 1)) je_int))
 (jss_cons (js_if (jt_cmp op_lt' lift_lt (je_var 1) (je_callB call_len lift_len X.n_len (ja_cons (je_var 0) ja_nil)))
 (jss_one (js_set 2 sc_Lseed.nd (je_callB call_abs lift_abs X.n_abs (ja_cons (je_ix (je_var 0) (je_var 1)) ja_nil))))
 (jss_one (js_if (jt_cmp op_gt' lift_gt (je_callB call_len lift_len X.n_len (ja_cons (je_var 0) ja_nil)) je_int)
 (jss_one (js_set 2 sc_Lseed.nd (je_op op_add lift_add (je_var 2) (je_op op_mul lift_mul (je_op op_mod lift_mod (je_callTy call_int1 lift_int1 X.n_int (ja_cons (je_callB call_abs lift_abs X.n_abs (ja_cons (je_ix (je_var 0) (je_op op_mod lift_mod (je_callTy call_int1 lift_int1 X.n_int (ja_cons (je_var 1) ja_nil)) (je_callB call_len lift_len X.n_len (ja_cons (je_var 0) ja_nil)))) ja_nil)) ja_nil)) je_int) je_int))))
 jss_nil)))
 (jss_one (js_ret (je_lst (ja_cons (je_if (jt_cmp op_ge' lift_ge (je_var 2) (je_op op_pow lift_pow je_int je_int)) (je_var 2) je_int) (ja_cons (je_op op_add lift_add (je_op op_mod lift_mod (je_callTy call_int1 lift_int1 X.n_int (ja_cons (je_op op_add lift_add (je_op op_mul lift_mul (je_op op_mod lift_mod (je_callTy call_int1 lift_int1 X.n_int (ja_cons (je_var 2) ja_nil)) je_int) je_int) (je_op op_mul lift_mul je_int (je_var 1))) ja_nil)) je_int) je_int) ja_nil)))))))
theorem ok_Lseed (X : Tx P w K mg) : Callee (TB P w) P w K mg base 1 (He.ga K "_law_seed") ["_law_script", "_law_k"] f_Lseed [] := by
  obtain ⟨fd, FD⟩ := X.d_Lseed
  exact ⟨fd, [], fo_Lseed X FD, FD.kp, .nil, FD.bindsN fun _ _ _ _ _ _ us hl => match us, hl with | [_, _], _ => rfl⟩
theorem fo_Lchoose (X : Tx P w K mg) {fd : FuncData} (FD : FunD K "_law_choose" "_law_choose" (defArgs s_Lchoose) (defBody s_Lchoose) (defScope s_Lchoose) [] [] (He.ga K "_law_choose") fd) : FnG P w K mg base (CX P w) 1 (He.ga K "_law_choose") fd ["_law_box", "_law_many"] (spF (TB P w) K f_Lchoose) := by
  refine fn_ok FD sc_Lchoose (fun cdv A outer s H E hr => ?_)
  have tk := takes_of (X := cxOf (CX P w) P w K mg base ["_law_box", "_law_many", "_law_digit", "_law_raw"] "_law_choose" (defScope s_Lchoose) (He.ga K "_law_choose") cdv A outer s H E) rfl rfl rfl rfl
  have hp := passes_of (X := cxOf (CX P w) P w K mg base ["_law_box", "_law_many", "_law_digit", "_law_raw"] "_law_choose" (defScope s_Lchoose) (He.ga K "_law_choose") cdv A outer s H E) rfl
  exact (jss_cons (js_if (jt_cmp op_gt' lift_gt (je_ix (je_var 0) je_int) je_int)
 (jss_cons (js_set 2 sc_Lchoose.nd (je_op op_mod lift_mod (je_callTy call_int1 lift_int1 X.n_int (ja_cons (je_ix (je_var 0) je_int) ja_nil)) (je_var 1)))
 (jss_cons (js_asg (je_op op_fdiv lift_fdiv (je_ix (je_var 0) je_int) (je_var 1)) (jg_ix (je_var 0) je_int))
 (jss_one (js_ret (je_var 2)))))
 jss_nil)
 (jss_cons (js_set 3 sc_Lchoose.nd (je_op op_mod lift_mod (je_callTy call_int1 lift_int1 X.n_int (ja_cons (je_op op_add lift_add (je_op op_mul lift_mul (je_ix (je_var 0) je_int) je_int) je_int) ja_nil)) je_int))
 (jss_cons (js_asg (je_op op_add lift_add (je_op op_mod lift_mod (je_callTy call_int1 lift_int1 X.n_int (ja_cons (je_op op_add lift_add (je_op op_mul lift_mul (je_var 3) je_int) je_int) ja_nil)) je_int) je_int) (jg_ix (je_var 0) je_int))
 (jss_one (js_ret (je_op op_mod lift_mod (je_callTy call_int1 lift_int1 X.n_int (ja_cons (je_op op_fdiv lift_fdiv (je_op op_add lift_add (je_op op_mul lift_mul (je_var 3) je_int) (je_ix (je_var 0) je_int)) je_int) ja_nil)) (je_var 1)))))))
theorem ok_Lchoose (X : Tx P w K mg) : Callee (TB P w) P w K mg base 1 (He.ga K "_law_choose") ["_law_box", "_law_many"] f_Lchoose [] := by
  obtain ⟨fd, FD⟩ := X.d_Lchoose
  exact ⟨fd, [], fo_Lchoose X FD, FD.kp, .nil, FD.bindsN fun _ _ _ _ _ _ us hl => match us, hl with | [_, _], _ => rfl⟩
theorem fo_Lone_of (X : Tx P w K mg) {fd : FuncData} (FD : FunD K "_law_one_of" "_law_one_of" (defArgs s_Lone_of) (defBody s_Lone_of) (defScope s_Lone_of) [] [] (He.ga K "_law_one_of") fd) : FnG P w K mg base (CX P w) 2 (He.ga K "_law_one_of") fd ["_law_box", "_law_some"] (spF (TB P w) K f_Lone_of) := by
  refine fn_ok FD sc_Lone_of (fun cdv A outer s H E hr => ?_)
  have tk := takes_of (X := cxOf (CX P w) P w K mg base ["_law_box", "_law_some"] "_law_one_of" (defScope s_Lone_of) (He.ga K "_law_one_of") cdv A outer s H E) rfl rfl rfl rfl
  have hp := passes_of (X := cxOf (CX P w) P w K mg base ["_law_box", "_law_some"] "_law_one_of" (defScope s_Lone_of) (He.ga K "_law_one_of") cdv A outer s H E) rfl
  exact (jss_one (js_ret (je_ixX rfl hr.units (je_var 1) (jc_B (ok_Lchoose X) (hr.mono (by decide)) X.g_Lchoose Dfl.nil tk (ja_cons (je_var 0) (ja_cons (je_callB call_lenX lift_lenX X.n_len (ja_cons (je_var 1) ja_nil)) ja_nil))))))
theorem ok_Lone_of (X : Tx P w K mg) : Callee (TB P w) P w K mg base 2 (He.ga K "_law_one_of") ["_law_box", "_law_some"] f_Lone_of [] := by
  obtain ⟨fd, FD⟩ := X.d_Lone_of
  exact ⟨fd, [], fo_Lone_of X FD, FD.kp, .nil, FD.bindsN fun _ _ _ _ _ _ us hl => match us, hl with | [_, _], _ => rfl⟩
theorem fo_Lleaf (X : Tx P w K mg) {fd : FuncData} (FD : FunD K "_law_leaf" "_law_leaf" (defArgs s_Lleaf) (defBody s_Lleaf) (defScope s_Lleaf) [] [] (He.ga K "_law_leaf") fd) : FnG P w K mg base (CX P w) 3 (He.ga K "_law_leaf") fd ["_law_box"] (spF (TB P w) K f_Lleaf) := by
  refine fn_ok FD sc_Lleaf (fun cdv A outer s H E hr => ?_)
  have tk := takes_of (X := cxOf (CX P w) P w K mg base ["_law_box", "_law_some"] "_law_leaf" (defScope s_Lleaf) (He.ga K "_law_leaf") cdv A outer s H E) rfl rfl rfl rfl
  have hp := passes_of (X := cxOf (CX P w) P w K mg base ["_law_box", "_law_some"] "_law_leaf" (defScope s_Lleaf) (He.ga K "_law_leaf") cdv A outer s H E) rfl
  exact (jss_cons (js_set 1 sc_Lleaf.nd (je_lstF (ja_cons je_non (ja_cons je_bl (ja_cons je_bl (ja_cons je_int (ja_cons je_int (ja_cons (je_op op_sub lift_sub je_int je_int) (ja_cons je_int (ja_cons je_int (ja_cons (je_str []) (ja_cons (je_str [98, 117, 115, 121]) (ja_cons (je_str [112, 114, 105, 118, 97, 116, 101]) (ja_cons (je_str [111, 110, 101]) (ja_cons (je_str [50, 45, 53]) ja_nil)))))))))))))))
 (jss_one (js_ret (jc_B (ok_Lone_of X) (hr.mono (by decide)) X.g_Lone_of Dfl.nil tk (ja_cons (je_var 0) (ja_cons (je_op op_plusA lift_plusA (je_var 1) (je_lstF (ja_cons (je_str [45]) (ja_cons (je_str [49, 50, 58, 32, 45]) ja_nil)))) ja_nil))))))
theorem ok_Lleaf (X : Tx P w K mg) : Callee (TB P w) P w K mg base 3 (He.ga K "_law_leaf") ["_law_box"] f_Lleaf [] := by
  obtain ⟨fd, FD⟩ := X.d_Lleaf
  exact ⟨fd, [], fo_Lleaf X FD, FD.kp, .nil, FD.bindsN fun _ _ _ _ _ _ us hl => match us, hl with | [_], _ => rfl⟩
theorem fr_Lany (X : Tx P w K mg) {fd : FuncData} (FD : FunD K "_law_any" "_law_any" (defArgs s_Lany) (defBody s_Lany) (defScope s_Lany) [] [] (He.ga K "_law_any") fd) : ∀ n, FnG P w K mg base (CX P w) (3 + n) (He.ga K "_law_any") fd ["_law_box", "_law_deep"] (spF (TB P w) K (r_Lany n))
  | 0 => fn_ok (k := 2) FD sc_Lany (fun cdv A outer s H E hr => jss_never)
  | n + 1 => by
    have ih : Callee (TB P w) P w K mg base (3 + n) (He.ga K "_law_any") ["_law_box", "_law_deep"] (r_Lany n) [] := ⟨fd, [], fr_Lany X FD n, FD.kp, .nil, FD.bindsN fun _ _ _ _ _ _ us hl => match us, hl with | [_, _], _ => rfl⟩
    refine fn_ok (k := 3 + n) FD sc_Lany (fun cdv A outer s H E hr => ?_)
    have tk := takes_of (X := cxOf (CX P w) P w K mg base ["_law_box", "_law_deep", "_law_form", "_law_found", "_law_turn"] "_law_any" (defScope s_Lany) (He.ga K "_law_any") cdv A outer s H E) rfl rfl rfl rfl
    have hp := passes_of (X := cxOf (CX P w) P w K mg base ["_law_box", "_law_deep", "_law_form", "_law_found", "_law_turn"] "_law_any" (defScope s_Lany) (He.ga K "_law_any") cdv A outer s H E) rfl
    exact (jss_cons (js_set 2 sc_Lany.nd (je_if (jt_cmp op_gt' lift_gt (je_var 1) je_int) (jc_B (ok_Lchoose X) (hr.mono (by omega)) X.g_Lchoose Dfl.nil tk (ja_cons (je_var 0) (ja_cons je_int ja_nil))) je_int))
 (jss_cons (js_if (jt_cmp op_gt' lift_gt (je_var 2) je_int)
 (jss_one (js_ret (jc_B (ok_Lleaf X) (hr.mono (by omega)) X.g_Lleaf Dfl.nil tk (ja_cons (je_var 0) ja_nil))))
 jss_nil)
 (jss_cons (js_setLcF 3 [("_law_turn", 4)] rfl sc_Lany.nd (ji_range1 rfl X.n_range (ja_cons (jc_B (ok_Lchoose X) (hr.mono (by omega)) X.g_Lchoose Dfl.nil tk (ja_cons (je_var 0) (ja_cons je_int ja_nil))) ja_nil)) (blkOk_by (N := ["_law_box", "_law_deep", "_law_form", "_law_found", "_law_turn"]) (sc := defScope s_Lany) (by decide +kernel)) (by decide) (fun _ _ _ _ _ => (jgw_name 4 sc_Lany.nd)) (fun _ _ _ _ _ => jts_nil) (fun _ _ _ _ _ => (jc_B ih (hr.mono (by omega)) X.g_Lany Dfl.nil takesNo (ja_cons (je_var 0) (ja_cons (je_op op_sub lift_sub (je_var 1) je_int) ja_nil)))))
 (jss_one (js_ret (je_if (jt_cmp (op_eqD hr.units) lift_eqD (je_var 2) je_int) (je_callTy call_tuple_of lift_tuple X.n_tuple (ja_cons (je_var 3) ja_nil)) (je_var 3)))))))
theorem fo_Lany (X : Tx P w K mg) {fd : FuncData} (FD : FunD K "_law_any" "_law_any" (defArgs s_Lany) (defBody s_Lany) (defScope s_Lany) [] [] (He.ga K "_law_any") fd) : FnG P w K mg base (CX P w) 12 (He.ga K "_law_any") fd ["_law_box", "_law_deep"] (spF (TB P w) K f_Lany) := fr_Lany X FD 9
theorem ok_Lany (X : Tx P w K mg) : Callee (TB P w) P w K mg base 12 (He.ga K "_law_any") ["_law_box", "_law_deep"] f_Lany [] := by
  obtain ⟨fd, FD⟩ := X.d_Lany
  exact ⟨fd, [], fo_Lany X FD, FD.kp, .nil, FD.bindsN fun _ _ _ _ _ _ us hl => match us, hl with | [_, _], _ => rfl⟩
theorem fo_Lmade (X : Tx P w K mg) {fd : FuncData} (FD : FunD K "_law_made" "_law_made" (defArgs s_Lmade) (defBody s_Lmade) (defScope s_Lmade) [] [] (He.ga K "_law_made") fd) : FnG P w K mg base (CX P w) 1 (He.ga K "_law_made") fd ["_law_value"] (spF (TB P w) K f_Lmade) := by
  refine fn_ok FD sc_Lmade (fun cdv A outer s H E hr => ?_)
  have tk := takes_of (X := cxOf (CX P w) P w K mg base ["_law_value", "_law_found"] "_law_made" (defScope s_Lmade) (He.ga K "_law_made") cdv A outer s H E) rfl rfl rfl rfl
  have hp := passes_of (X := cxOf (CX P w) P w K mg base ["_law_value", "_law_found"] "_law_made" (defScope s_Lmade) (He.ga K "_law_made") cdv A outer s H E) rfl
  exact (jss_cons (js_set 1 sc_Lmade.nd (je_lstF (ja_cons (je_exn X.xc_InvalidDay X.g_InvalidDay hr (je_var 0)) (ja_cons (je_exn X.xc_InvalidRule X.g_InvalidRule hr (je_var 0)) (ja_cons (je_exn X.xc_InvalidFrame X.g_InvalidFrame hr (je_var 0)) (ja_cons (je_exn X.xc_InvalidText X.g_InvalidText hr (je_var 0)) (ja_cons (je_exn X.xc_InvalidLooks X.g_InvalidLooks hr (je_var 0)) ja_nil)))))))
 (jss_one (js_ret (je_op op_plusA lift_plusA (je_var 1) (je_lstF (ja_cons (je_exn X.xc_Refused X.g_Refused hr (je_var 0)) (ja_cons (je_exn X.xc_NoMeeting X.g_NoMeeting hr (je_var 0)) ja_nil)))))))
theorem ok_Lmade (X : Tx P w K mg) : Callee (TB P w) P w K mg base 1 (He.ga K "_law_made") ["_law_value"] f_Lmade [] := by
  obtain ⟨fd, FD⟩ := X.d_Lmade
  exact ⟨fd, [], fo_Lmade X FD, FD.kp, .nil, FD.bindsN fun _ _ _ _ _ _ us hl => match us, hl with | [_], _ => rfl⟩
theorem fo_Lkept (X : Tx P w K mg) {fd : FuncData} (FD : FunD K "_law_kept" "_law_kept" (defArgs s_Lkept) (defBody s_Lkept) (defScope s_Lkept) [] [] (He.ga K "_law_kept") fd) : FnG P w K mg base (CX P w) 1 (He.ga K "_law_kept") fd ["_law_errors"] (spF (TB P w) K f_Lkept) := by
  refine fn_ok FD sc_Lkept (fun cdv A outer s H E hr => ?_)
  have tk := takes_of (X := cxOf (CX P w) P w K mg base ["_law_errors", "_law_error"] "_law_kept" (defScope s_Lkept) (He.ga K "_law_kept") cdv A outer s H E) rfl rfl rfl rfl
  have hp := passes_of (X := cxOf (CX P w) P w K mg base ["_law_errors", "_law_error"] "_law_kept" (defScope s_Lkept) (He.ga K "_law_kept") cdv A outer s H E) rfl
  exact (jss_one (js_ret (je_op op_plusA lift_plusA (je_lcF [("_law_error", 1)] rfl sc_Lkept.nd (ji_any (je_slice (je_var 0) jo_none (jo_some je_int))) (blkOk_by (N := ["_law_errors", "_law_error"]) (sc := defScope s_Lkept) (by decide +kernel)) (by decide) (fun _ _ _ _ _ => (jgw_name 1 sc_Lkept.nd)) (fun _ _ _ _ _ => jts_nil) (fun _ _ _ _ _ => (je_xat (cs := [1, 2, 3]) (xat_cons X.xc_InvalidDay (xat_cons X.xc_InvalidRule (xat_cons X.xc_InvalidFrame (fun c hc => nomatch hc)))) (je_var 1)))) (je_lcF [("_law_error", 1)] rfl sc_Lkept.nd (ji_any (je_slice (je_var 0) (jo_some je_int) jo_none)) (blkOk_by (N := ["_law_errors", "_law_error"]) (sc := defScope s_Lkept) (by decide +kernel)) (by decide) (fun _ _ _ _ _ => (jgw_name 1 sc_Lkept.nd)) (fun _ _ _ _ _ => jts_nil) (fun _ _ _ _ _ => (je_xat (cs := [4, 5, 8, 9]) (xat_cons X.xc_InvalidText (xat_cons X.xc_InvalidLooks (xat_cons X.xc_Refused (xat_cons X.xc_NoMeeting (fun c hc => nomatch hc))))) (je_var 1)))))))
theorem ok_Lkept (X : Tx P w K mg) : Callee (TB P w) P w K mg base 1 (He.ga K "_law_kept") ["_law_errors"] f_Lkept [] := by
  obtain ⟨fd, FD⟩ := X.d_Lkept
  exact ⟨fd, [], fo_Lkept X FD, FD.kp, .nil, FD.bindsN fun _ _ _ _ _ _ us hl => match us, hl with | [_], _ => rfl⟩
theorem fo_Lsorts (X : Tx P w K mg) {fd : FuncData} (FD : FunD K "_law_sorts" "_law_sorts" (defArgs s_Lsorts) (defBody s_Lsorts) (defScope s_Lsorts) [] [] (He.ga K "_law_sorts") fd) : FnG P w K mg base (CX P w) 1 (He.ga K "_law_sorts") fd ["_law_error"] (spF (TB P w) K f_Lsorts) := by
  refine fn_ok FD sc_Lsorts (fun cdv A outer s H E hr => ?_)
  have tk := takes_of (X := cxOf (CX P w) P w K mg base ["_law_error", "_law_found"] "_law_sorts" (defScope s_Lsorts) (He.ga K "_law_sorts") cdv A outer s H E) rfl rfl rfl rfl
  have hp := passes_of (X := cxOf (CX P w) P w K mg base ["_law_error", "_law_found"] "_law_sorts" (defScope s_Lsorts) (He.ga K "_law_sorts") cdv A outer s H E) rfl
  exact (jss_cons (js_set 1 sc_Lsorts.nd (je_lst (ja_cons (je_isXo (je_var 0) X.ix_InvalidDay X.n_isinstance X.g_InvalidDay) (ja_cons (je_isXo (je_var 0) X.ix_InvalidRule X.n_isinstance X.g_InvalidRule) (ja_cons (je_isXo (je_var 0) X.ix_InvalidFrame X.n_isinstance X.g_InvalidFrame) ja_nil)))))
 (jss_cons (js_expr (je_bm PySem.F.plainAttrs_list PySem.F.slot_list_extend PySem.F.type_list_extend (L2.MtR.or mt_extend mt_extT) lift_extendX (je_var 1) (ja_cons (je_lst (ja_cons (je_isXo (je_var 0) X.ix_InvalidText X.n_isinstance X.g_InvalidText) (ja_cons (je_isXo (je_var 0) X.ix_InvalidLooks X.n_isinstance X.g_InvalidLooks) (ja_cons (je_isXo (je_var 0) X.ix_Refused X.n_isinstance X.g_Refused) ja_nil)))) ja_nil)))
 (jss_cons (js_expr (je_bm PySem.F.plainAttrs_list PySem.F.slot_list_extend PySem.F.type_list_extend (L2.MtR.or mt_extend mt_extT) lift_extendX (je_var 1) (ja_cons (je_lst (ja_cons (je_isXo (je_var 0) X.ix_NoMeeting X.n_isinstance X.g_NoMeeting) (ja_cons (je_isXo (je_var 0) X.ix_InvalidSlot X.n_isinstance X.g_InvalidSlot) ja_nil))) ja_nil)))
 (jss_one (js_ret (je_op op_plusA lift_plusA (je_var 1) (je_lstF (ja_cons (je_isXo (je_var 0) X.ix_InvalidCommand X.n_isinstance X.g_InvalidCommand) ja_nil))))))))
theorem ok_Lsorts (X : Tx P w K mg) : Callee (TB P w) P w K mg base 1 (He.ga K "_law_sorts") ["_law_error"] f_Lsorts [] := by
  obtain ⟨fd, FD⟩ := X.d_Lsorts
  exact ⟨fd, [], fo_Lsorts X FD, FD.kp, .nil, FD.bindsN fun _ _ _ _ _ _ us hl => match us, hl with | [_], _ => rfl⟩
theorem fo_law (X : Tx P w K mg) {fd : FuncData} (FD : FunD K "law" "law" (defArgs s_law) (defBody s_law) (defScope s_law) [] [] (He.ga K "law") fd) : FnG P w K mg base (CX P w) 13 (He.ga K "law") fd ["_law_script"] (spF (TB P w) K f_law) := by
  refine fn_ok FD sc_law (fun cdv A outer s H E hr => ?_)
  have tk := takes_of (X := cxOf (CX P w) P w K mg base ["_law_script", "_law_k", "_law_box", "_law_turn", "_law_value", "_law_errors", "_law_held", "_law_made_here", "_law_spot", "_law_error", "_law_is_plain", "_law_other"] "law" (defScope s_law) (He.ga K "law") cdv A outer s H E) rfl rfl rfl rfl
  have hp := passes_of (X := cxOf (CX P w) P w K mg base ["_law_script", "_law_k", "_law_box", "_law_turn", "_law_value", "_law_errors", "_law_held", "_law_made_here", "_law_spot", "_law_error", "_law_is_plain", "_law_other"] "law" (defScope s_law) (He.ga K "law") cdv A outer s H E) rfl
  exact (jss_cons (js_for hp rfl (ji_range1 rfl X.n_range (ja_cons (je_callB (call_max2 rfl) lift_max2 X.n_max (ja_cons je_int (ja_cons (je_callB (call_min2 rfl) lift_min2 X.n_min (ja_cons je_int (ja_cons (je_callB call_lenX lift_lenX X.n_len (ja_cons (je_var 0) ja_nil)) ja_nil))) ja_nil))) ja_nil)) (jg_name 1 sc_law.nd)
 (jss_cons (js_set 2 sc_law.nd (jc_O (ok_Lseed X) (hr.mono (by decide)) X.g_Lseed Dfl.nil tk (ja_cons (je_var 0) (ja_cons (je_var 1) ja_nil))))
 (jss_one (js_for hp rfl (ji_range1 rfl X.n_range (ja_cons je_int ja_nil)) (jg_name 3 sc_law.nd)
 (jss_cons (js_set 4 sc_law.nd (jc_B (ok_Lany X) (hr.mono (by decide)) X.g_Lany Dfl.nil tk (ja_cons (je_var 2) (ja_cons je_int ja_nil))))
 (jss_cons (js_set 5 sc_law.nd (jc_A (ok_Lmade X) (hr.mono (by decide)) X.g_Lmade Dfl.nil tk (ja_cons (je_var 4) ja_nil)))
 (jss_cons (js_if (jt_cmp (op_neD hr.units) lift_neD (je_callB (cr_repr hr) lift_repr X.n_repr (ja_cons (jc_A (ok_Lkept X) (hr.mono (by decide)) X.g_Lkept Dfl.nil tk (ja_cons (je_var 5) ja_nil)) ja_nil)) (je_callB (cr_repr hr) lift_repr X.n_repr (ja_cons (je_opH op_rep lift_repA (je_lst (ja_cons (je_var 4) ja_nil)) je_int) ja_nil)))
 (jss_one (js_ret je_bl))
 jss_nil)
 (jss_cons (js_set 6 sc_law.nd (je_lst (ja_cons (je_var 4) ja_nil)))
 (jss_cons (js_set 7 sc_law.nd (jc_A (ok_Lmade X) (hr.mono (by decide)) X.g_Lmade Dfl.nil tk (ja_cons (je_var 6) ja_nil)))
 (jss_cons (js_expr (je_bm PySem.F.plainAttrs_list PySem.F.slot_list_append PySem.F.type_list_append mt_append lift_append (je_var 6) (ja_cons je_int ja_nil)))
 (jss_cons (js_if (jt_cmp (op_neD hr.units) lift_neD (je_callB (cr_repr hr) lift_repr X.n_repr (ja_cons (jc_A (ok_Lkept X) (hr.mono (by decide)) X.g_Lkept Dfl.nil tk (ja_cons (je_var 7) ja_nil)) ja_nil)) (je_callB (cr_repr hr) lift_repr X.n_repr (ja_cons (je_opH op_rep lift_repA (je_lst (ja_cons (je_lstF (ja_cons (je_var 4) (ja_cons je_int ja_nil))) ja_nil)) je_int) ja_nil)))
 (jss_one (js_ret je_bl))
 jss_nil)
 (jss_one (js_for hp rfl (ji_enum X.n_enumerate (ja_cons (je_op op_plusA lift_plusA (je_var 5) (je_lstF (ja_cons (je_exn0 X.xn_InvalidSlot X.g_InvalidSlot) (ja_cons (je_exn0 X.xn_InvalidCommand X.g_InvalidCommand) ja_nil)))) ja_nil)) (jg_tup rfl (jgs_cons (jg_name 8 sc_law.nd) (jgs_cons (jg_name 9 sc_law.nd) jgs_nil)))
 (jss_cons (js_if (jt_cmp (op_neD hr.units) lift_neD (jc_A (ok_Lsorts X) (hr.mono (by decide)) X.g_Lsorts Dfl.nil tk (ja_cons (je_var 9) ja_nil)) (je_lcF [("_law_other", 11)] rfl sc_law.nd (ji_range1 rfl X.n_range (ja_cons je_int ja_nil)) (blkOk_by (N := ["_law_script", "_law_k", "_law_box", "_law_turn", "_law_value", "_law_errors", "_law_held", "_law_made_here", "_law_spot", "_law_error", "_law_is_plain", "_law_other"]) (sc := defScope s_law) (by decide +kernel)) (by decide) (fun _ _ _ _ _ => (jgw_name 11 sc_law.nd)) (fun _ _ _ _ _ => jts_nil) (fun _ _ _ _ _ => (je_cmp (op_eqD hr.units) lift_eqD (je_var 11) (je_var 8)))))
 (jss_one (js_ret je_bl))
 jss_nil)
 (jss_cons (js_set 10 sc_law.nd (je_and (je_isXo (je_var 9) X.ix_DimError X.n_isinstance X.g_DimError) (je_one (je_isXb "ValueError" (je_var 9) X.ix_ValueError X.n_isinstance X.n_ValueError))))
 (jss_one (js_if (jt_w (jw_or (jt_cmp (op_neD hr.units) lift_neD (je_var 10) (je_cmp (op_neD hr.units) lift_neD (je_var 8) je_int)) (jw_one (jt_cmp (op_neD hr.units) lift_neD (je_isXb "IndexError" (je_var 9) X.ix_IndexError X.n_isinstance X.n_IndexError) (je_cmp (op_eqD hr.units) lift_eqD (je_var 8) je_int)))))
 (jss_one (js_ret je_bl))
 jss_nil)))))))))))))))))
 (jss_one (js_ret je_bl)))
end
theorem facts {K : PySem.W.Frag} {h : Heap} {mg : Str → Option Value} (X : K.In h) {P : Program} {w : World} (G : h.Ns mainGlobals mg) (c : SaysP chk fn K) (hP : P.main.file = xfile) (hS : (P.main.scope.names.lookup ("super" : Str)).isSome = false) : Tx P w K mg := by
  obtain ⟨cX, c00⟩ := He.ba c.both.1
  obtain ⟨c1, c0⟩ := He.ba c00
  obtain ⟨cX, cB⟩ := He.ba cX
  obtain ⟨c2, c0⟩ := He.ba c0
  obtain ⟨c3, c0⟩ := He.ba c0
  obtain ⟨c4, c0⟩ := He.ba c0
  obtain ⟨c5, c0⟩ := He.ba c0
  obtain ⟨c6, c0⟩ := He.ba c0
  obtain ⟨c7, c0⟩ := He.ba c0
  obtain ⟨c8, c0⟩ := He.ba c0
  obtain ⟨c9, c0⟩ := He.ba c0
  obtain ⟨c10, c0⟩ := He.ba c0
  obtain ⟨c11, c0⟩ := He.ba c0
  obtain ⟨c12, c0⟩ := He.ba c0
  obtain ⟨c13, c0⟩ := He.ba c0
  obtain ⟨c14, c15⟩ := He.ba c0
  exact {
    n_IndexError := He.free_ok X G (all_at c1 (i := 0) (a := .free "IndexError") rfl),
    n_ValueError := He.free_ok X G (all_at c1 (i := 1) (a := .free "ValueError") rfl),
    n_abs := He.free_ok X G (all_at c1 (i := 2) (a := .free "abs") rfl),
    n_enumerate := He.free_ok X G (all_at c1 (i := 3) (a := .free "enumerate") rfl),
    n_int := He.free_ok X G (all_at c1 (i := 4) (a := .free "int") rfl),
    n_isinstance := He.free_ok X G (all_at c1 (i := 5) (a := .free "isinstance") rfl),
    n_len := He.free_ok X G (all_at c1 (i := 6) (a := .free "len") rfl),
    n_max := He.free_ok X G (all_at c1 (i := 7) (a := .free "max") rfl),
    n_min := He.free_ok X G (all_at c1 (i := 8) (a := .free "min") rfl),
    n_range := He.free_ok X G (all_at c1 (i := 9) (a := .free "range") rfl),
    n_repr := He.free_ok X G (all_at c1 (i := 10) (a := .free "repr") rfl),
    n_tuple := He.free_ok X G (all_at c1 (i := 11) (a := .free "tuple") rfl),
    g_Lseed := He.glo_ok X G (all_at c1 (i := 12) (a := .glo "_law_seed") rfl),
    g_Lchoose := He.glo_ok X G (all_at c1 (i := 13) (a := .glo "_law_choose") rfl),
    g_Lone_of := He.glo_ok X G (all_at c1 (i := 14) (a := .glo "_law_one_of") rfl),
    g_Lleaf := He.glo_ok X G (all_at c1 (i := 15) (a := .glo "_law_leaf") rfl),
    g_Lany := He.glo_ok X G (all_at c1 (i := 16) (a := .glo "_law_any") rfl),
    g_InvalidDay := He.glo_ok X G (all_at c1 (i := 17) (a := .glo "InvalidDay") rfl),
    g_InvalidRule := He.glo_ok X G (all_at c1 (i := 18) (a := .glo "InvalidRule") rfl),
    g_InvalidFrame := He.glo_ok X G (all_at c1 (i := 19) (a := .glo "InvalidFrame") rfl),
    g_InvalidText := He.glo_ok X G (all_at c1 (i := 20) (a := .glo "InvalidText") rfl),
    g_InvalidLooks := He.glo_ok X G (all_at c1 (i := 21) (a := .glo "InvalidLooks") rfl),
    g_Refused := He.glo_ok X G (all_at c1 (i := 22) (a := .glo "Refused") rfl),
    g_NoMeeting := He.glo_ok X G (all_at c1 (i := 23) (a := .glo "NoMeeting") rfl),
    g_Lmade := He.glo_ok X G (all_at c1 (i := 24) (a := .glo "_law_made") rfl),
    g_Lkept := He.glo_ok X G (all_at c1 (i := 25) (a := .glo "_law_kept") rfl),
    g_InvalidSlot := He.glo_ok X G (all_at c1 (i := 26) (a := .glo "InvalidSlot") rfl),
    g_InvalidCommand := He.glo_ok X G (all_at c1 (i := 27) (a := .glo "InvalidCommand") rfl),
    g_Lsorts := He.glo_ok X G (all_at c1 (i := 28) (a := .glo "_law_sorts") rfl),
    g_DimError := He.glo_ok X G (all_at c1 (i := 29) (a := .glo "DimError") rfl),
    ko := ko_all (fun n => rfl) c12,
    xc_InvalidDay := xc_of hP hS rfl rfl (all_at c13 (i := 0) (a := ("InvalidDay", "word")) rfl),
    xc_InvalidRule := xc_of hP hS rfl rfl (all_at c13 (i := 1) (a := ("InvalidRule", "word")) rfl),
    xc_InvalidFrame := xc_of hP hS rfl rfl (all_at c13 (i := 2) (a := ("InvalidFrame", "word")) rfl),
    xc_InvalidText := xc_of hP hS rfl rfl (all_at c13 (i := 3) (a := ("InvalidText", "at")) rfl),
    xc_InvalidLooks := xc_of hP hS rfl rfl (all_at c13 (i := 4) (a := ("InvalidLooks", "at")) rfl),
    xc_Refused := xc_of hP hS rfl rfl (all_at c13 (i := 5) (a := ("Refused", "at")) rfl),
    xc_NoMeeting := xc_of hP hS rfl rfl (all_at c13 (i := 6) (a := ("NoMeeting", "at")) rfl),
    xn_InvalidSlot := xn_of rfl rfl (show xnB K "InvalidSlot" = true from all_at cX (i := 0) (a := "InvalidSlot") rfl),
    xn_InvalidCommand := xn_of rfl rfl (show xnB K "InvalidCommand" = true from all_at cX (i := 1) (a := "InvalidCommand") rfl),
    ix_InvalidDay := isx_of (show isXB TBk K (.ref (He.ga K "InvalidDay")) is_x_InvalidDay = true from all_at cB (i := 0) (a := ((fun K => .ref (He.ga K "InvalidDay")), is_x_InvalidDay)) rfl),
    ix_InvalidRule := isx_of (show isXB TBk K (.ref (He.ga K "InvalidRule")) is_x_InvalidRule = true from all_at cB (i := 1) (a := ((fun K => .ref (He.ga K "InvalidRule")), is_x_InvalidRule)) rfl),
    ix_InvalidFrame := isx_of (show isXB TBk K (.ref (He.ga K "InvalidFrame")) is_x_InvalidFrame = true from all_at cB (i := 2) (a := ((fun K => .ref (He.ga K "InvalidFrame")), is_x_InvalidFrame)) rfl),
    ix_InvalidText := isx_of (show isXB TBk K (.ref (He.ga K "InvalidText")) is_x_InvalidText = true from all_at cB (i := 3) (a := ((fun K => .ref (He.ga K "InvalidText")), is_x_InvalidText)) rfl),
    ix_InvalidLooks := isx_of (show isXB TBk K (.ref (He.ga K "InvalidLooks")) is_x_InvalidLooks = true from all_at cB (i := 4) (a := ((fun K => .ref (He.ga K "InvalidLooks")), is_x_InvalidLooks)) rfl),
    ix_Refused := isx_of (show isXB TBk K (.ref (He.ga K "Refused")) is_x_Refused = true from all_at cB (i := 5) (a := ((fun K => .ref (He.ga K "Refused")), is_x_Refused)) rfl),
    ix_NoMeeting := isx_of (show isXB TBk K (.ref (He.ga K "NoMeeting")) is_x_NoMeeting = true from all_at cB (i := 6) (a := ((fun K => .ref (He.ga K "NoMeeting")), is_x_NoMeeting)) rfl),
    ix_InvalidSlot := isx_of (show isXB TBk K (.ref (He.ga K "InvalidSlot")) is_x_InvalidSlot = true from all_at cB (i := 7) (a := ((fun K => .ref (He.ga K "InvalidSlot")), is_x_InvalidSlot)) rfl),
    ix_InvalidCommand := isx_of (show isXB TBk K (.ref (He.ga K "InvalidCommand")) is_x_InvalidCommand = true from all_at cB (i := 8) (a := ((fun K => .ref (He.ga K "InvalidCommand")), is_x_InvalidCommand)) rfl),
    ix_ValueError := isx_of (show isXB TBk K (.type "ValueError") is_x_ValueError = true from all_at cB (i := 9) (a := ((fun K => .type "ValueError"), is_x_ValueError)) rfl),
    ix_DimError := isx_of (show isXB TBk K (.ref (He.ga K "DimError")) is_x_DimError = true from all_at cB (i := 10) (a := ((fun K => .ref (He.ga K "DimError")), is_x_DimError)) rfl),
    ix_IndexError := isx_of (show isXB TBk K (.type "IndexError") is_x_IndexError = true from all_at cB (i := 11) (a := ((fun K => .type "IndexError"), is_x_IndexError)) rfl),
    d_Lseed := c.def_ 0 (d := D_Lseed) rfl,
    d_Lchoose := c.def_ 1 (d := D_Lchoose) rfl,
    d_Lone_of := c.def_ 2 (d := D_Lone_of) rfl,
    d_Lleaf := c.def_ 3 (d := D_Lleaf) rfl,
    d_Lany := c.def_ 4 (d := D_Lany) rfl,
    d_Lmade := c.def_ 5 (d := D_Lmade) rfl,
    d_Lkept := c.def_ 6 (d := D_Lkept) rfl,
    d_Lsorts := c.def_ 7 (d := D_Lsorts) rfl,
    d_law := c.def_ 8 (d := D_law) rfl }
theorem ends (ok : ∀ ns : List Int, ns.length ≤ 63 → (∀ z ∈ ns, Builtin.Int.intBits z ≤ 1048576) → ∃ h', f_law [] [.lst (ns.map Val.int)] = .ok (.bl true) h') : PySem.Challenge.rw_dimdays_k01_errors_and_what_they_keep.Holds := by
  w_on; o_law
  refine HandSHeadRun.head_any (r := PySem.W.OpenLaw.row PySem.Challenge.rw_dimdays_k01_errors_and_what_they_keep) (q := PySem.W.view (PySem.W.OpenLaw.row PySem.Challenge.rw_dimdays_k01_errors_and_what_they_keep).prog [20]) (H := hk) (ob := ob) (M := 60000) (loose := names) (d := HandSHeadRun.topDef (PySem.W.OpenLaw.row PySem.Challenge.rw_dimdays_k01_errors_and_what_they_keep).prog 20) (kwd := []) ob_eq
    (by kernel_rfl) (fun s => by kernel_rfl) run (by kernel_rfl) (by kernel_rfl) (by kernel_rfl) (by rfl) (by first | assumption | decide +kernel) (by decide +kernel) ⟨rfl, rfl, rfl, rfl, rfl, by decide +kernel⟩ ?hw ?hc
  case hw => w_witness2
  case hc =>
    refine law_end (l := PySem.Challenge.rw_dimdays_k01_errors_and_what_they_keep) (k := 13) (T := TB PySem.Challenge.rw_dimdays_k01_errors_and_what_they_keep.prog) (fl := f_law) (fun _ => rfl) rfl (by kernel_rfl) ⟨⟨rfl, by decide, by decide⟩, rfl⟩ ?F ok
    intro w mg fa h Y G hmg0
    obtain ⟨K, KX, c⟩ := Y
    have hmg : mg ("law" : PySem.Str) = some (.ref fa) := by
      have e : (HandSHeadRun.topDef (PySem.W.OpenLaw.row PySem.Challenge.rw_dimdays_k01_errors_and_what_they_keep).prog 20).name = ("law" : PySem.Str) := by kernel_rfl
      rw [← e]
      exact hmg0
    have T := facts (P := PySem.Challenge.rw_dimdays_k01_errors_and_what_they_keep.prog) (w := w) KX G c (by kernel_rfl) (by kernel_rfl)
    obtain ⟨fd, FD⟩ := T.d_law
    have e := hmg.symm.trans (He.glo_ok KX G (all_at (He.ba (He.ba c.both.1).2).1 (i := 30) (a := .glo "law") rfl))
    cases e
    exact ⟨K, fd, KX, fun s u => FD.bindsA (ps := ["_law_script"]) (fun _ _ _ _ _ _ us hl => match us, hl with | [_], _ => rfl) s [u] rfl, fun base _ _ => fo_law T FD⟩
end Law
namespace Py
open PySem
def ResS.seq (r : ResS) (k : Sg → Hh → ResS) : ResS := match r with
  | .next sg1 h1 => k sg1 h1
  | r => r
def ResS.fin : ResS → Res
  | .ret v h' => .ok v h'
  | .next _ h' => .ok .non h'
  | .exc c fs _ h' => .exc c fs h'
  | _ => .bad
def getS (o : Option (Option Val)) (h : Hh) : Res := match o with
  | some (some v) => .ok v h
  | _ => .bad
def ResI.loop (r : ResI) (body : Val → Sg → Hh → ResS) (sg : Sg) : ResS := match r with
  | .ok (.items vs) h1 => forItems body vs sg h1
  | .ok (.ref k) h1 => forRef body k 1000000 0 sg h1
  | .exc c fs h1 => .exc c fs sg h1
  | .bad => .bad
section
variable {sg sg1 : Sg} {h h1 : Hh} {v u : Val} {c : Nat} {fs : List Val}
@[simp] theorem seq_next (k : Sg → Hh → ResS) : (ResS.next sg h).seq k = k sg h := rfl
@[simp] theorem seq_ret (k : Sg → Hh → ResS) : (ResS.ret v h).seq k = .ret v h := rfl
@[simp] theorem seq_brk (k : Sg → Hh → ResS) : (ResS.brk sg h).seq k = .brk sg h := rfl
@[simp] theorem seq_cont (k : Sg → Hh → ResS) : (ResS.cont sg h).seq k = .cont sg h := rfl
@[simp] theorem seq_exc (k : Sg → Hh → ResS) : (ResS.exc c fs sg h).seq k = .exc c fs sg h := rfl
@[simp] theorem seq_bad (k : Sg → Hh → ResS) : (ResS.bad).seq k = .bad := rfl
@[simp] theorem fin_next : (ResS.next sg h).fin = .ok .non h := rfl
@[simp] theorem fin_ret : (ResS.ret v h).fin = .ok v h := rfl
@[simp] theorem fin_exc : (ResS.exc c fs sg h).fin = .exc c fs h := rfl
@[simp] theorem fin_bad : (ResS.bad).fin = .bad := rfl
@[simp] theorem getS_some : getS (some (some v)) h = .ok v h := rfl
@[simp] theorem rb_ok (k : Val → Hh → Res) : (Res.ok v h).bind k = k v h := rfl
@[simp] theorem rb_exc (k : Val → Hh → Res) : (Res.exc c fs h).bind k = .exc c fs h := rfl
@[simp] theorem rb_bad (k : Val → Hh → Res) : (Res.bad).bind k = .bad := rfl
@[simp] theorem rs_ok (k : Val → Hh → ResS) : (Res.ok v h).bindS sg k = k v h := rfl
@[simp] theorem rs_exc (k : Val → Hh → ResS) : (Res.exc c fs h).bindS sg k = .exc c fs sg h := rfl
@[simp] theorem rs_bad (k : Val → Hh → ResS) : (Res.bad).bindS sg k = .bad := rfl
@[simp] theorem rl_ok (k : Val → Hh → ResL) : (Res.ok v h).bindL k = k v h := rfl
@[simp] theorem rl_exc (k : Val → Hh → ResL) : (Res.exc c fs h).bindL k = .exc c fs h := rfl
@[simp] theorem rl_bad (k : Val → Hh → ResL) : (Res.bad).bindL k = .bad := rfl
@[simp] theorem lb_ok (vs : List Val) (k : List Val → Hh → Res) : (ResL.ok vs h).bind k = k vs h := rfl
@[simp] theorem lb_exc (k : List Val → Hh → Res) : (ResL.exc c fs h).bind k = .exc c fs h := rfl
@[simp] theorem ll_ok (vs : List Val) (k : List Val → Hh → ResL) : (ResL.ok vs h).bindL k = k vs h := rfl
@[simp] theorem ll_exc (k : List Val → Hh → ResL) : (ResL.exc c fs h).bindL k = .exc c fs h := rfl
@[simp] theorem gb_ok (k : Sg → Hh → ResS) : (ResG.ok sg h).bindS k = k sg h := rfl
@[simp] theorem of_some : Res.ofO (some v) h = .ok v h := rfl
@[simp] theorem of_none : Res.ofO none h = .bad := rfl
@[simp] theorem op_some : Res.ofP (some (v, h)) = .ok v h := rfl
@[simp] theorem op_none : Res.ofP none = .bad := rfl
@[simp] theorem test_t (a b : Hh → Res) : (Res.ok (.bl true) h).test a b = a h := rfl
@[simp] theorem test_f (a b : Hh → Res) : (Res.ok (.bl false) h).test a b = b h := rfl
@[simp] theorem test_exc (a b : Hh → Res) : (Res.exc c fs h).test a b = .exc c fs h := rfl
@[simp] theorem testS_t (a b : Hh → ResS) : (Res.ok (.bl true) h).testS sg a b = a h := rfl
@[simp] theorem testS_f (a b : Hh → ResS) : (Res.ok (.bl false) h).testS sg a b = b h := rfl
@[simp] theorem testS_exc (a b : Hh → ResS) : (Res.exc c fs h).testS sg a b = .exc c fs sg h := rfl
@[simp] theorem loop_items (vs : List Val) (body : Val → Sg → Hh → ResS) : (ResI.ok (.items vs) h).loop body sg = forItems body vs sg h := rfl
@[simp] theorem seq_ap (a b : Sx) : xSeq a b sg h = (a sg h).seq b := by
  unfold xSeq ResS.seq; cases a sg h <;> rfl
@[simp] theorem skip_ap : xSkip sg h = .next sg h := rfl
@[simp] theorem drop_ap (e : Ex) : xDrop e sg h = (e sg h).bindS sg fun _ h1 => .next sg h1 := rfl
@[simp] theorem ret_ap (e : Ex) : xRet e sg h = (e sg h).bindS sg fun v h1 => .ret v h1 := rfl
@[simp] theorem ifS_ap (c : Ex) (a b : Sx) : xIfS c a b sg h = (c sg h).testS sg (fun h1 => a sg h1) (fun h1 => b sg h1) := rfl
@[simp] theorem asg_ap (e : Ex) (g : Gx) : xAsg e g sg h = (e sg h).bindS sg fun v h1 => (g v sg h1).bindS fun sg2 h2 => .next sg2 h2 := rfl
@[simp] theorem gN_ap (i : Nat) : gN i v sg h = .ok (sg.set i (some v)) h := rfl
@[simp] theorem set_ap (i : Nat) (e : Ex) : xSet i e sg h = (e sg h).bindS sg fun v h1 => .next (sg.set i (some v)) h1 := rfl
@[simp] theorem var_ap (i : Nat) : xVar i sg h = getS sg[i]? h := rfl
@[simp] theorem c_ap (v : Val) : xC v sg h = .ok v h := rfl
@[simp] theorem op_ap (g : G2) (a b : Ex) : xOp g a b sg h = (a sg h).bind fun x h1 => (b sg h1).bind fun y h2 => .ofO (g h2 x y) h2 := rfl
@[simp] theorem un_ap (g : Hh → Val → Option Val) (a : Ex) : xUn g a sg h = (a sg h).bind fun x h1 => .ofO (g h1 x) h1 := rfl
@[simp] theorem and_ap (a b : Ex) : xAnd a b sg h = (a sg h).test (fun h1 => b sg h1) (fun h1 => .ok (.bl false) h1) := rfl
@[simp] theorem or_ap (a b : Ex) : xOr a b sg h = (a sg h).test (fun h1 => .ok (.bl true) h1) (fun h1 => b sg h1) := rfl
@[simp] theorem not_ap (a : Ex) : xNot a sg h = (a sg h).test (fun h1 => .ok (.bl false) h1) (fun h1 => .ok (.bl true) h1) := rfl
@[simp] theorem if_ap (c a b : Ex) : xIf c a b sg h = (c sg h).test (fun h1 => a sg h1) (fun h1 => b sg h1) := rfl
@[simp] theorem nil_ap : xNil sg h = .ok [] h := rfl
@[simp] theorem cons_ap (a : Ex) (r : Lx) : xCons a r sg h = (a sg h).bindL fun v h1 => (r sg h1).bindL fun vs h2 => .ok (v :: vs) h2 := rfl
@[simp] theorem tup_ap (r : Lx) : xTup r sg h = (r sg h).bind fun vs h1 => if vs.length ≤ 1000000 then .ok (.tup vs) h1 else .bad := rfl
@[simp] theorem lst_ap (r : Lx) : xLst r sg h = (r sg h).bind fun vs h1 => if vs.length ≤ 1000000 then .ok (.ref h1.length) (h1 ++ [.lst vs]) else .bad := rfl
@[simp] theorem lstF_ap (r : Lx) : xLstF r sg h = (r sg h).bind fun vs h1 => if vs.length ≤ 1000000 then .ok (.lst vs) h1 else .bad := rfl
@[simp] theorem cb_ap (g : GC) (l : Lx) : xCB g l sg h = (l sg h).bind fun vs h1 => .ofP (g h1 vs) := rfl
@[simp] theorem callP_ap (T : Nat → List Str) (f : Fx) (d : List Val) (l : Lx) : xCallP T f d l sg h = (l sg h).bind fun as h1 => callQ T f (as ++ d) h1 := rfl
@[simp] theorem callB_ap (T : Nat → List Str) (f : Fx) (d : List Val) (l : Lx) : xCallB T f d l sg h = (l sg h).bind fun as h1 => callB T f (as ++ d) h1 := rfl
@[simp] theorem callO_ap (T : Nat → List Str) (f : Fx) (d : List Val) (l : Lx) : xCallO T f d l sg h = (l sg h).bind fun as h1 => callO T f (as ++ d) h1 := rfl
@[simp] theorem makeP_ap (T : Nat → List Str) (c : Nat) (f : Fx) (d : List Val) (l : Lx) : xMakeP T c f d l sg h = (l sg h).bind fun as h1 => makeQ T c f (as ++ d) h1 := rfl
@[simp] theorem methP_ap (T : Nat → List Str) (c : Nat) (f : Fx) (d : List Val) (o : Ex) (l : Lx) : xMethP T c f d o l sg h = (o sg h).bind fun ov h1 => if isA c h1 ov = true then (l sg h1).bind fun as h2 => callQ T f (ov :: (as ++ d)) h2 else .bad := rfl
@[simp] theorem for_ap (fi : Ix) (g : Gx) (b : Sx) : xFor fi g b sg h = (fi sg h).loop (bodyOf g b) sg := by
  unfold xFor ResI.loop
  cases fi sg h with
  | ok s h1 => cases s <;> rfl
  | _ => rfl
@[simp] theorem bodyOf_ap (g : Gx) (b : Sx) : bodyOf g b v sg h = (g v sg h).bindS fun sg1 h1 => b sg1 h1 := rfl
@[simp] theorem gTu_ap (n : Nat) (r : Gs) (vs : List Val) : gTu n r (.tup vs) sg h = if vs.length = n then r vs sg h else .bad := rfl
@[simp] theorem gsNil_ap : gsNil [] sg h = .ok sg h := rfl
@[simp] theorem gsCons_ap (g : Gx) (r : Gs) (vs : List Val) : gsCons g r (v :: vs) sg h = (match g v sg h with | .ok sg1 h1 => r vs sg1 h1 | .bad => .bad) := rfl
@[simp] theorem fnOf_ap {np nN : Nat} {b : Sx} {as : List Val} (hl : as.length = np) : fnOf np nN b h as = (b (as.map some ++ List.replicate (nN - np) none) h).fin := by
  unfold fnOf ResS.fin; rw [if_pos hl]
  try (cases b (as.map some ++ List.replicate (nN - np) none) h <;> rfl)
@[simp] theorem rng1_ap (l : Lx) : xIRng1 l sg h = (match l sg h with
  | .ok [.int j] h1 => if small62 j then .ok (.items (rng 0 j.toNat)) h1 else .bad
  | .ok _ _ => .bad
  | .exc c fs h1 => .exc c fs h1
  | .bad => .bad) := rfl
end
@[simp] theorem pureVs_nil : pureVs [] = true := rfl
@[simp] theorem pureVs_cons (v : Val) (vs : List Val) : pureVs (v :: vs) = (pureV v && pureVs vs) := rfl
@[simp] theorem pureV_int (i : Int) : pureV (.int i) = true := rfl
@[simp] theorem pureV_bl (b : Bool) : pureV (.bl b) = true := rfl
@[simp] theorem pureV_str (s : List Nat) : pureV (.str s) = true := rfl
@[simp] theorem pureV_non : pureV .non = true := rfl
@[simp] theorem pureV_glo (g : Nat) : pureV (.glo g) = true := rfl
@[simp] theorem pureV_tup (vs : List Val) : pureV (.tup vs) = pureVs vs := by simp [pureV]
@[simp] theorem pureV_lst (vs : List Val) : pureV (.lst vs) = pureVs vs := by simp [pureV]
@[simp] theorem pureV_obj (c : Nat) (vs : List Val) : pureV (.obj c vs) = pureVs vs := by simp [pureV]
@[simp] theorem pureVs_app (a b : List Val) : pureVs (a ++ b) = (pureVs a && pureVs b) := by
  induction a with
  | nil => rfl
  | cons v a ih => simp [ih, Bool.and_assoc]
theorem pureVs_map {α : Type} {f : α → Val} (hf : ∀ a, pureV (f a) = true) : ∀ l : List α, pureVs (l.map f) = true
  | [] => rfl
  | a :: l => by simp [hf, pureVs_map hf l]
@[simp] theorem noLsts_nil : noLsts [] = true := rfl
@[simp] theorem noLsts_cons (v : Val) (vs : List Val) : noLsts (v :: vs) = (noLst v && noLsts vs) := rfl
@[simp] theorem noLst_int (i : Int) : noLst (.int i) = true := rfl
@[simp] theorem noLst_bl (b : Bool) : noLst (.bl b) = true := rfl
@[simp] theorem noLst_str (s : List Nat) : noLst (.str s) = true := rfl
@[simp] theorem noLst_non : noLst .non = true := rfl
@[simp] theorem noLst_tup (vs : List Val) : noLst (.tup vs) = noLsts vs := by simp [noLst]
@[simp] theorem noLst_obj (c : Nat) (vs : List Val) : noLst (.obj c vs) = noLsts vs := by simp [noLst]
theorem noLsts_map {α : Type} {f : α → Val} (hf : ∀ a, noLst (f a) = true) : ∀ l : List α, noLsts (l.map f) = true
  | [] => rfl
  | a :: l => by simp [hf, noLsts_map hf l]
mutual
def depV : Val → Nat
  | .tup vs => depVs vs + 1
  | .lst vs => depVs vs + 1
  | .obj _ vs => depVs vs + 1
  | .dct _ vs => depVs vs + 1
  | _ => 1
def depVs : List Val → Nat
  | [] => 0
  | v :: vs => max (depV v) (depVs vs)
end
@[simp] theorem depVs_nil : depVs [] = 0 := rfl
@[simp] theorem depVs_cons (v : Val) (vs : List Val) : depVs (v :: vs) = max (depV v) (depVs vs) := rfl
@[simp] theorem depV_int (i : Int) : depV (.int i) = 1 := rfl
@[simp] theorem depV_bl (b : Bool) : depV (.bl b) = 1 := rfl
@[simp] theorem depV_str (s : List Nat) : depV (.str s) = 1 := rfl
@[simp] theorem depV_non : depV .non = 1 := rfl
@[simp] theorem depV_tup (vs : List Val) : depV (.tup vs) = depVs vs + 1 := by simp [depV]
@[simp] theorem depV_lst (vs : List Val) : depV (.lst vs) = depVs vs + 1 := by simp [depV]
@[simp] theorem depV_obj (c : Nat) (vs : List Val) : depV (.obj c vs) = depVs vs + 1 := by simp [depV]
section
variable {sg sg1 : Sg} {h h1 : Hh} {v u : Val}
@[simp] theorem test_and (b c : Bool) : (Res.ok (.bl b) h).test (fun h1 => .ok (.bl c) h1) (fun h1 => .ok (.bl false) h1) = .ok (.bl (b && c)) h := by cases b <;> rfl
@[simp] theorem test_or (b c : Bool) : (Res.ok (.bl b) h).test (fun h1 => .ok (.bl true) h1) (fun h1 => .ok (.bl c) h1) = .ok (.bl (b || c)) h := by cases b <;> rfl
@[simp] theorem test_not (b : Bool) : (Res.ok (.bl b) h).test (fun h1 => .ok (.bl false) h1) (fun h1 => .ok (.bl true) h1) = .ok (.bl !b) h := by cases b <;> rfl
def isxV (v : Val) (h1 : Hh) : ResI := match v with
  | .tup vs => .ok (.items vs) h1
  | .lst vs => .ok (.items vs) h1
  | .str s => .ok (.items (s.map fun c => .str [c])) h1
  | v => (match srcD 0 h1 v with
    | some s => .ok s h1
    | none => xISq (xC v) [] h1)
def Res.isx : Res → ResI
  | .ok v h => isxV v h
  | .exc c fs h => .exc c fs h
  | .bad => .bad
@[simp] theorem isx_ap (fe : Ex) : xISX fe sg h = (fe sg h).isx := by
  unfold xISX Res.isx
  cases e : fe sg h with
  | bad => simp [xISq, e]
  | exc c fs h1 => simp [xISq, e]
  | ok v h1 =>
    cases v <;> simp [isxV, srcD, xISq, e, xC] <;> rfl
@[simp] theorem isx_tup (vs : List Val) : (Res.ok (.tup vs) h).isx = .ok (.items vs) h := rfl
@[simp] theorem isx_lst (vs : List Val) : (Res.ok (.lst vs) h).isx = .ok (.items vs) h := rfl
@[simp] theorem isx_str (s : List Nat) : (Res.ok (.str s) h).isx = .ok (.items (s.map fun c => .str [c])) h := rfl
def ResI.comp (r : ResI) (g : Gx) (t e : Ex) (sg : Sg) : ResL := match r with
  | .ok (.items vs) h1 => if vs.length ≤ 1000000 then compItems g t e sg vs [] h1 else .bad
  | .ok (.ref k) h1 => compRef g t e sg k 1000000 0 [] h1
  | .exc c fs h1 => .exc c fs h1
  | .bad => .bad
theorem compL_ap (own : List Nat) (fi : Ix) (g : Gx) (t e : Ex) : xCompL own fi g t e sg h = (fi sg h).comp g t e (wipeG sg own) := by
  unfold xCompL ResI.comp
  cases fi sg h with
  | ok s h1 => cases s <;> rfl
  | _ => rfl
@[simp] theorem compF_ap (own : List Nat) (fi : Ix) (g : Gx) (t e : Ex) : xCompF own fi g t e sg h = ((fi sg h).comp g t e (wipeG sg own)).bind fun vs h1 => .ok (.lst vs) h1 := by
  unfold xCompF; rw [compL_ap]
@[simp] theorem comp_ap (own : List Nat) (fi : Ix) (g : Gx) (t e : Ex) : xComp own fi g t e sg h = ((fi sg h).comp g t e (wipeG sg own)).bind fun vs h1 => .ok (.ref h1.length) (h1 ++ [.lst vs]) := by
  unfold xComp; rw [compL_ap]
@[simp] theorem comp_items (vs : List Val) (g : Gx) (t e : Ex) : (ResI.ok (.items vs) h).comp g t e sg = if vs.length ≤ 1000000 then compItems g t e sg vs [] h else .bad := rfl
theorem comp_filter {α : Type} {enc : α → Val} (p : α → Bool) (r : α → Val) {g : Gx} {t e : Ex} : ∀ (l : List α) (acc : List Val), (∀ a ∈ l, ∃ sg1, g (enc a) sg h = .ok sg1 h ∧ t sg1 h = .ok (.bl (p a)) h ∧ (p a = true → e sg1 h = .ok (r a) h)) →
    compItems g t e sg (l.map enc) acc h = .ok (acc ++ (l.filter p).map r) h
  | [], acc, _ => by simp [compItems]
  | a :: l, acc, hb => by
    obtain ⟨sg1, e1, e2, e3⟩ := hb a (by simp)
    have ih := fun acc => comp_filter p r l acc (fun b hb' => hb b (by simp [hb']))
    rw [List.map_cons]
    unfold compItems
    rw [e1]; dsimp only; rw [e2]
    cases q : p a with
    | true => simp [e3 q, ih, q]
    | false => simp [ih, q]
theorem comp_map {α : Type} {enc : α → Val} (r : α → Val) {g : Gx} {t e : Ex} (l : List α) (acc : List Val) (hb : ∀ a ∈ l, ∃ sg1, g (enc a) sg h = .ok sg1 h ∧ t sg1 h = .ok (.bl true) h ∧ e sg1 h = .ok (r a) h) :
    compItems g t e sg (l.map enc) acc h = .ok (acc ++ l.map r) h := by
  have := comp_filter (enc := enc) (fun _ => true) r l acc (sg := sg) (h := h) (g := g) (t := t) (e := e) (fun a ha => by
    obtain ⟨sg1, e1, e2, e3⟩ := hb a ha
    exact ⟨sg1, e1, e2, fun _ => e3⟩)
  rw [this, List.filter_eq_self.mpr fun _ _ => rfl]
@[simp] theorem xJ_nil (acc : List Nat) : xJ [] acc sg h = .ok (.str acc) h := rfl
@[simp] theorem xJ_cons (f : Ex) (r : List Ex) (acc : List Nat) : xJ (f :: r) acc sg h = (f sg h).bind fun v h1 => match v with
    | .str s => if (acc ++ s).length ≤ 1000000 then xJ r (acc ++ s) sg h1 else .bad
    | _ => .bad := rfl
@[simp] theorem bm_ap (ty : String) (g : GM) (o : Ex) (l : Lx) : xBM ty g o l sg h = (o sg h).bind fun ov h1 => if isTy ty h1 ov = true then (l sg h1).bind fun vs h2 => .ofP (g h2 ov vs) else .bad := rfl
@[simp] theorem bools_map {α : Type} (f : α → Bool) : ∀ l : List α, bools (l.map fun a => Val.bl (f a)) = some (l.map f)
  | [] => rfl
  | a :: l => by simp [bools, bools_map f l]
@[simp] theorem chain_ap (g g' : G2) (a b c : Ex) : xChain g g' a b c sg h = (a sg h).bind fun x h1 => (b sg h1).bind fun y h2 => match g h2 x y with
    | some (.bl true) => (c sg h2).bind fun z h3 => .ofO (g' h3 y z) h3
    | some (.bl false) => .ok (.bl false) h2
    | _ => .bad := by
  unfold xChain
  rfl
end
end Py
namespace Py
open PySem Builtin Builtin.Str
def joinL (sep : List Nat) : List (List Nat) → List Nat
  | [] => []
  | [p] => p
  | p :: q :: r => p ++ sep ++ joinL sep (q :: r)
@[simp] theorem unS_mk (s : List Nat) : unS ⟨s.toArray⟩ = s := by simp [unS]
theorem unS_app (a b : Str) : unS (a ++ b) = unS a ++ unS b := by
  show (a.cps ++ b.cps).toList = _
  simp [unS]
theorem join_eq (sep : List Nat) : ∀ l : List (List Nat), unS (Txt.join ⟨sep.toArray⟩ (l.map fun s => (⟨s.toArray⟩ : Str))) = joinL sep l := by
  intro l
  show unS (glued _ _) = _
  rw [StrLaws.glued_eq_join]
  induction l with
  | nil => rfl
  | cons p l ih =>
    cases l with
    | nil => simp [Str.join, joinL]
    | cons q r =>
      show unS ((⟨p.toArray⟩ : Str) ++ ⟨sep.toArray⟩ ++ Str.join ⟨sep.toArray⟩ ((q :: r).map fun s => (⟨s.toArray⟩ : Str))) = _
      rw [unS_app, unS_app, ih]
      simp [joinL]
end Py
namespace Law
open PySem Py
abbrev Mt := Int × Int × Bool
def eM (m : Mt) : Val := .tup [.int m.1, .int m.2.1, .bl m.2.2]
def eMs (l : List Mt) : List Val := l.map eM
def eDay (n : Int) (l : List Mt) : Val := .obj 10 [.int n, .tup (eMs l)]
@[simp] theorem pure_eM (m : Mt) : pureV (eM m) = true := rfl
@[simp] theorem pure_eMs (l : List Mt) : pureVs (eMs l) = true := pureVs_map pure_eM l
@[simp] theorem noLst_eM (m : Mt) : noLst (eM m) = true := rfl
@[simp] theorem noLst_eMs (l : List Mt) : noLsts (eMs l) = true := noLsts_map noLst_eM l
@[simp] theorem dep_eM (m : Mt) : depV (eM m) = 2 := rfl
@[simp] theorem len_eMs (l : List Mt) : (eMs l).length = l.length := by simp [eMs]
@[simp] theorem pure_eDay (n : Int) (l : List Mt) : pureV (eDay n l) = true := by simp [eDay]
@[simp] theorem noLst_eDay (n : Int) (l : List Mt) : noLst (eDay n l) = true := by simp [eDay]
def okM (m : Mt) : Bool := decide (0 ≤ m.1) && (decide (0 ≤ m.2.1) && decide (m.1 < m.2.1))
def okF (n : Int) : Int → List Mt → Bool
  | _, [] => true
  | a, m :: r => decide (a ≤ m.1) && (decide (m.1 < m.2.1) && (decide (m.2.1 ≤ n) && okF n m.2.1 r))
theorem okF_all {n : Int} : ∀ {l : List Mt} {a : Int}, 0 ≤ a → okF n a l = true → ∀ m ∈ l, okM m = true ∧ a ≤ m.1 ∧ m.1 < m.2.1 ∧ m.2.1 ≤ n
  | [], _, _, _, _, hm => by cases hm
  | x :: r, a, ha, h, m, hm => by
    simp [okF] at h
    rcases List.mem_cons.mp hm with rfl | hm
    · exact ⟨by simp [okM]; omega, h.1, h.2.1, h.2.2.1⟩
    · obtain ⟨h1, h2, h3⟩ := okF_all (by omega) h.2.2.2 m hm
      exact ⟨h1, by omega, h3⟩
theorem okF_len {n : Int} : ∀ {l : List Mt} {a : Int}, okF n a l = true → l ≠ [] → a + l.length ≤ n
  | [x], a, h, _ => by simp [okF] at h; simp; omega
  | x :: y :: r, a, h, _ => by
    simp [okF] at h
    have := okF_len (l := y :: r) (a := x.2.1) (by simp [okF]; exact h.2.2.2) (by simp)
    simp at this ⊢
    omega
end Law
namespace Law
open PySem Py
abbrev box (a b : Int) : Py.Obj := .lst [.int a, .int b]
theorem draw (T : Nat → List Str) (m : Int) (h0 : 0 < m) (h1 : m < 1073741824) {h : Hh} {k : Nat} {a b : Int} (hk : h[k]? = some (box a b)) :
    ∃ d a' b' : Int, 0 ≤ d ∧ d < m ∧ callB T chooseF [.ref k, .int m] h = .ok (.int d) (h.set k (box a' b')) :=
  ⟨cD a b m, cA a m, cB a b, cD_lo a b m h0, cD_hi a b m h0, callB_choose T a b m h0 h1 k h hk⟩
def oneX (T : Nat → List Str) : Fx := fnOf 2 2
 (xRet (xOp gIxX (xVar 1) (xCallB T chooseF [] (xCons (xVar 0) (xCons (xCB gLenX (xCons (xVar 1) xNil)) xNil)))))
theorem drawOne (T : Nat → List Str) (vs : List Val) (hp : pureVs vs = true) (h0 : 0 < vs.length) (h1 : vs.length < 1000000) {h : Hh} {k : Nat} {a b : Int} (hk : h[k]? = some (box a b)) :
    ∃ (v : Val) (a' b' : Int), v ∈ vs ∧ callB T (oneX T) [.ref k, .lst vs] h = .ok v (h.set k (box a' b')) := by
  have q := cD_lo a b vs.length (by omega)
  have q2 := cD_hi a b vs.length (by omega)
  have hlt : (cD a b vs.length).toNat < vs.length := by omega
  refine ⟨vs[(cD a b vs.length).toNat], cA a vs.length, cB a b, List.getElem_mem hlt, ?_⟩
  have e := callB_choose T a b vs.length (by omega) (by omega) 0 [.lst [.int a, .int b]] rfl
  have hv : vs[(cD a b vs.length).toNat]? = some vs[(cD a b vs.length).toNat] := by simp [hlt]
  have pv : pureV vs[(cD a b vs.length).toNat] = true := pureVs_all hp _ (List.getElem_mem hlt)
  generalize vs[(cD a b vs.length).toNat] = v at *
  have f1 : oneX T [.lst [.int a, .int b]] [.ref 0, .lst vs] = .ok v [.lst [.int (cA a vs.length), .int (cB a b)]] := by
    have hlen : gLenX [.lst [.int a, .int b]] [.lst vs] = some (.int vs.length, [.lst [.int a, .int b]]) := rfl
    have hix : gIxX [.lst [.int (cA a vs.length), .int (cB a b)]] (.lst vs) (.int (cD a b vs.length)) = some v := by
      show atV vs (cD a b vs.length) = _
      unfold atV; rw [if_pos q, hv]
    rw [oneX]
    simp [hlen, e, hix]
  unfold callB
  simp only [hk]
  rw [if_pos (by simp [hp]), f1]
  simp [pv]
theorem callB_of {T : Nat → List Str} {f : Fx} {rest : List Val} {h h' : Hh} {k : Nat} {a b a' b' : Int} {v v' : Val} (hk : h[k]? = some (box a b)) (hp : pureVs rest = true) (e : f [box a b] (.ref 0 :: rest) = .ok v h') (h0 : h'[0]? = some (box a' b'))
    (hf : (if pureV v = true then some v else frzB T h' 30 v) = some v') : callB T f (.ref k :: rest) h = .ok v' (h.set k (box a' b')) := by
  unfold callB
  simp only [hk]
  rw [if_pos (by simp [hp]), e]
  dsimp only
  rw [h0]
  dsimp only
  rw [if_pos (by simp), hf]
end Law
namespace Law
open PySem Py
abbrev priv : List Nat := [32, 112, 114, 105, 118, 97, 116, 101]
structure Good (n : Int) (l : List Mt) : Prop where
  lo : 1 ≤ n
  hi : n < 100
  ok : okF n 0 l = true
variable {n n' : Int} {l l' : List Mt}
theorem Good.all (g : Good n l) : ∀ m ∈ l, okM m = true ∧ 0 ≤ m.1 ∧ m.1 < 100 ∧ 0 ≤ m.2.1 ∧ m.2.1 < 100 ∧ m.1 < m.2.1 ∧ m.2.1 ≤ n := fun m hm => by
  have q := okF_all (Int.le_refl 0) g.ok m hm
  have := g.hi
  exact ⟨q.1, by omega, by omega, by omega, by omega, by omega, by omega⟩
theorem Good.len (g : Good n l) : l.length ≤ 99 := by
  by_cases e : l = []
  · subst e; simp
  · have := okF_len g.ok e
    have := g.hi
    omega
theorem joinL_len (sep : List Nat) : ∀ ps : List (List Nat), (joinL sep ps).length ≤ (ps.map List.length).sum + ps.length * sep.length
  | [] => by simp [joinL]
  | [p] => by simp [joinL]
  | p :: q :: r => by
    have := joinL_len sep (q :: r)
    simp [joinL, Nat.add_mul] at this ⊢
    omega
theorem okStr_of {s : List Nat} (h : ∀ c ∈ s, c < 256) : okStr s = true := by
  simp only [okStr, List.all_eq_true, decide_eq_true_eq]
  intro c hc; have := h c hc; omega
theorem joinL_mem {sep : List Nat} {c : Nat} : ∀ {ps : List (List Nat)}, c ∈ joinL sep ps → c ∈ sep ∨ ∃ p ∈ ps, c ∈ p
  | [], h => by simp [joinL] at h
  | [p], h => .inr ⟨p, by simp, h⟩
  | p :: q :: r, h => by
    simp only [joinL, List.mem_append] at h
    rcases h with (h | h) | h
    · exact .inr ⟨p, by simp, h⟩
    · exact .inl h
    · rcases joinL_mem h with h | ⟨x, hx, h⟩
      · exact .inl h
      · exact .inr ⟨x, by simp at hx ⊢; exact .inr hx, h⟩
theorem eqD_str {s t : List Nat} (hs : okStr s = true) (ht : okStr t = true) (h : Hh) : eqD h (.str s) (.str t) = some (decide (s = t)) := by
  simp only [eqD, dat, hs, ht, if_true, PyData.eqv]
  by_cases e : s = t
  · subst e; simp
  · have : (⟨s.toArray⟩ : Str) ≠ ⟨t.toArray⟩ := fun q => e (by injection q with q; simpa using congrArg Array.toList q)
    simp [e, this]
end Law
namespace Law
open PySem Py
variable {n n' : Int} {l l' : List Mt}
end Law
namespace Law
open PySem Py
theorem gNe_str {s : List Nat} (hs : okStr s = true) (h : Hh) : gNe h (.str s) (.str s) = some (.bl false) := by
  unfold gNe; rw [eqD_str hs hs]; simp
theorem ne_of_dat {h : Hh} {v u : Val} {d : PyData} (e1 : dat h 30 v = some d) (e2 : dat h 30 u = some d) (er : PyData.eqv d d = true) : gNe h v u = some (.bl false) := by
  unfold gNe eqD
  rw [e1, e2]; simp [er]
end Law
namespace Law
open PySem Py
abbrev Kn := Int × Bool
structure Fr where
  len : Int
  sh : Int
  most : Option Int
  priv : Bool
  known : List Kn
def eK (k : Kn) : Val := .tup [.int k.1, .bl k.2]
def eKs (l : List Kn) : List Val := l.map eK
def eO : Option Int → Val
  | none => .non
  | some i => .int i
def eFr (f : Fr) : Val := .obj 12 [.int f.len, .int f.sh, eO f.most, .bl f.priv, .tup (eKs f.known)]
@[simp] theorem pure_eK (m : Kn) : pureV (eK m) = true := rfl
@[simp] theorem pure_eKs (l : List Kn) : pureVs (eKs l) = true := pureVs_map pure_eK l
@[simp] theorem noLst_eK (m : Kn) : noLst (eK m) = true := rfl
@[simp] theorem noLst_eKs (l : List Kn) : noLsts (eKs l) = true := noLsts_map noLst_eK l
@[simp] theorem dep_eK (m : Kn) : depV (eK m) = 2 := rfl
@[simp] theorem len_eKs (l : List Kn) : (eKs l).length = l.length := by simp [eKs]
@[simp] theorem pure_eO (o : Option Int) : pureV (eO o) = true := by cases o <;> rfl
@[simp] theorem noLst_eO (o : Option Int) : noLst (eO o) = true := by cases o <;> rfl
@[simp] theorem dep_eO (o : Option Int) : depV (eO o) = 1 := by cases o <;> rfl
@[simp] theorem pure_eFr (f : Fr) : pureV (eFr f) = true := by simp [eFr]
@[simp] theorem noLst_eFr (f : Fr) : noLst (eFr f) = true := by simp [eFr]
structure GoodF (f : Fr) : Prop where
  l1 : 1 ≤ f.len
  l2 : f.len < 100
  s1 : 1 ≤ f.sh
  s2 : f.sh < 100
  m : ∀ i, f.most = some i → 0 ≤ i ∧ i < 100
  k : ∀ x ∈ f.known, 0 ≤ x.1 ∧ x.1 < f.len
  kl : f.known.length ≤ 50
end Law
namespace Law
open PySem Py
end Law
namespace Law
open PySem Py
theorem gEq_int (a b : Int) (h : Hh) : gEq h (.int a) (.int b) = some (.bl (decide (a = b))) := by
  simp only [gEq, eqD, dat, PyData.eqv, Option.map_some]
  by_cases e : a = b <;> simp [e]
theorem gNe_int (a b : Int) (h : Hh) : gNe h (.int a) (.int b) = some (.bl (!decide (a = b))) := by
  simp only [gNe, eqD, dat, PyData.eqv, Option.map_some]
  by_cases e : a = b <;> simp [e]
end Law
namespace Py
open PySem
mutual
def okA : Val → Bool
  | .tup vs => okAs vs
  | .lst vs => okAs vs
  | .obj c vs => decide (10 ≤ c) && pureVs vs
  | .ref _ => false
  | .glo _ => false
  | .dct _ _ => false
  | _ => true
def okAs : List Val → Bool
  | [] => true
  | v :: vs => okA v && okAs vs
end
@[simp] theorem okA_non : okA .non = true := by simp [okA]
@[simp] theorem okA_bl (b : Bool) : okA (.bl b) = true := by simp [okA]
@[simp] theorem okA_int (i : Int) : okA (.int i) = true := by simp [okA]
@[simp] theorem okA_str (s : List Nat) : okA (.str s) = true := by simp [okA]
@[simp] theorem okA_tup (vs : List Val) : okA (.tup vs) = okAs vs := by simp [okA]
@[simp] theorem okA_lst (vs : List Val) : okA (.lst vs) = okAs vs := by simp [okA]
@[simp] theorem okA_obj (c : Nat) (vs : List Val) : okA (.obj c vs) = (decide (10 ≤ c) && pureVs vs) := by simp [okA]
@[simp] theorem okA_ref (k : Nat) : okA (.ref k) = false := by simp [okA]
@[simp] theorem okA_glo (k : Nat) : okA (.glo k) = false := by simp [okA]
@[simp] theorem okA_dct (k vs : List Val) : okA (.dct k vs) = false := by simp [okA]
@[simp] theorem okAs_nil : okAs [] = true := rfl
@[simp] theorem okAs_cons (v : Val) (vs : List Val) : okAs (v :: vs) = (okA v && okAs vs) := rfl
@[simp] theorem okAs_app (a b : List Val) : okAs (a ++ b) = (okAs a && okAs b) := by
  induction a with
  | nil => rfl
  | cons v a ih => simp [ih, Bool.and_assoc]
mutual
theorem okA_pure : ∀ {v : Val}, okA v = true → pureV v = true
  | .non, _ => rfl
  | .bl _, _ => rfl
  | .int _, _ => rfl
  | .str _, _ => rfl
  | .tup vs, h => by simp at h ⊢; exact okAs_pure h
  | .lst vs, h => by simp at h ⊢; exact okAs_pure h
  | .obj c vs, h => by simp at h ⊢; exact h.2
  | .ref _, h => by simp at h
  | .glo _, h => by simp at h
  | .dct _ _, h => by simp at h
theorem okAs_pure : ∀ {vs : List Val}, okAs vs = true → pureVs vs = true
  | [], _ => rfl
  | v :: vs, h => by simp at h ⊢; exact ⟨okA_pure h.1, okAs_pure h.2⟩
end
theorem okAs_all : ∀ {vs : List Val}, okAs vs = true → ∀ v ∈ vs, okA v = true
  | v :: vs, h, u, hu => by
    simp at h
    rcases List.mem_cons.mp hu with rfl | hu
    · exact h.1
    · exact okAs_all h.2 u hu
theorem okAs_of : ∀ {vs : List Val}, (∀ v ∈ vs, okA v = true) → okAs vs = true
  | [], _ => rfl
  | v :: vs, h => by simp [h v (by simp), okAs_of fun u hu => h u (List.mem_cons_of_mem _ hu)]
def sqV : Val → Option (List Val)
  | .tup vs => some vs
  | .lst vs => some vs
  | _ => none
def ResS.catch (r : ResS) (i : Nat) (cs : List Nat) (hs : List (Nat × (List Val → Sx))) : ResS := match r with
  | .exc c fs sg h => if c ∈ cs ∧ i < sg.length then tryH i c fs sg h hs else .bad
  | r => r
@[simp] theorem try_ap (i : Nat) (cs : List Nat) (b : Sx) (hs : List (Nat × (List Val → Sx))) (sg : Sg) (h : Hh) : xTry i cs b hs sg h = (b sg h).catch i cs hs := by
  unfold xTry ResS.catch; cases b sg h <;> rfl
section
variable {sg : Sg} {h : Hh} {i : Nat} {cs : List Nat} {hs : List (Nat × (List Val → Sx))}
@[simp] theorem catch_next : (ResS.next sg h).catch i cs hs = .next sg h := rfl
@[simp] theorem catch_ret (v : Val) : (ResS.ret v h).catch i cs hs = .ret v h := rfl
@[simp] theorem catch_exc (c : Nat) (fs : List Val) : (ResS.exc c fs sg h).catch i cs hs = if c ∈ cs ∧ i < sg.length then tryH i c fs sg h hs else .bad := rfl
@[simp] theorem tryH_cons (k c : Nat) (fs : List Val) (f : List Val → Sx) (r : List (Nat × (List Val → Sx))) : tryH i c fs sg h ((k, f) :: r) = if c = k then unset i (f fs (sg.set i none) h) else tryH i c fs sg h r := rfl
@[simp] theorem tryH_nil (c : Nat) (fs : List Val) : tryH i c fs sg h [] = .exc c fs sg h := rfl
@[simp] theorem unset_next : unset i (.next sg h) = .next (sg.set i none) h := rfl
@[simp] theorem xfld_ap (v : Val) : xXfld [v] sg h = .ok v h := rfl
@[simp] theorem raise_ap (c : Nat) (e : Ex) : xRaise c e sg h = (e sg h).bindS sg fun v h1 => .exc c [v] sg h1 := rfl
end
theorem rounds {body : Val → Sg → Hh → ResS} {I : Sg → Hh → Prop} : ∀ (vs : List Val), (∀ v ∈ vs, ∀ sg h, I sg h → ∃ sg' h', body v sg h = .next sg' h' ∧ I sg' h') → ∀ sg h, I sg h → ∃ sg' h', forItems body vs sg h = .next sg' h' ∧ I sg' h'
  | [], _, sg, h, i => ⟨sg, h, rfl, i⟩
  | v :: vs, st, sg, h, i => by
    obtain ⟨sg1, h1, e1, i1⟩ := st v (by simp) sg h i
    obtain ⟨sg2, h2, e2, i2⟩ := rounds vs (fun u hu => st u (by simp [hu])) sg1 h1 i1
    refine ⟨sg2, h2, ?_, i2⟩
    unfold forItems
    rw [e1]
    exact e2
end Py
namespace Law
open PySem Py
end Law
namespace Law
open PySem Py
theorem mapM_mono {f g : Val → Option PyData} : ∀ {l : List Val} {ds : List PyData}, (∀ v ∈ l, ∀ d, f v = some d → g v = some d) → l.mapM f = some ds → l.mapM g = some ds
  | [], ds, _, e => by simpa using e
  | v :: l, ds, hv, e => by
    rw [List.mapM_cons] at e ⊢
    cases q : f v with
    | none => rw [q] at e; cases e
    | some d =>
      rw [q] at e
      cases q2 : l.mapM f with
      | none => rw [q2] at e; cases e
      | some us =>
        rw [q2] at e
        rw [hv v (by simp) d q, mapM_mono (fun u hu => hv u (by simp [hu])) q2]
        exact e
theorem dat_succ (h : Hh) : ∀ (n : Nat) (v : Val) (d : PyData), dat h n v = some d → dat h (n + 1) v = some d
  | 0, _, _, e => by cases e
  | n + 1, v, d, e => by
    have ih := dat_succ h n
    cases v with
    | tup vs =>
      have e : (vs.mapM (dat h n)).map PyData.tuple = some d := e
      obtain ⟨ds, e1, rfl⟩ := map_some e
      show (vs.mapM (dat h (n + 1))).map PyData.tuple = _
      rw [mapM_mono (fun u _ d q => ih u d q) e1]; rfl
    | lst vs =>
      have e : (vs.mapM (dat h n)).map PyData.list = some d := e
      obtain ⟨ds, e1, rfl⟩ := map_some e
      show (vs.mapM (dat h (n + 1))).map PyData.list = _
      rw [mapM_mono (fun u _ d q => ih u d q) e1]; rfl
    | ref k =>
      have e : (match h[k]? with
      | some (.lst vs) => (vs.mapM (dat h n)).map PyData.list
      | _ => none) = some d := e
      show (match h[k]? with
      | some (.lst vs) => (vs.mapM (dat h (n + 1))).map PyData.list
      | _ => none) = some d
      split at e
      · rename_i vs eq
        try rw [eq]
        obtain ⟨ds, e1, rfl⟩ := map_some e
        try dsimp only
        rw [mapM_mono (fun u _ d q => ih u d q) e1]; rfl
      · cases e
    | _ => exact e
theorem dat_le {h : Hh} {n m : Nat} {v : Val} {d : PyData} (e : dat h n v = some d) (hm : n ≤ m) : dat h m v = some d := by
  obtain ⟨k, rfl⟩ : ∃ k, m = n + k := ⟨m - n, by omega⟩
  clear hm
  induction k with
  | zero => exact e
  | succ k ih => exact dat_succ h _ _ _ ih
def leafVs : List Val := [.non, .bl true, .bl false, .int 0, .int 1, .int (-1), .int 2, .int 3, .str [], .str [98, 117, 115, 121], .str [112, 114, 105, 118, 97, 116, 101], .str [111, 110, 101], .str [50, 45, 53], .str [45], .str [49, 50, 58, 32, 45]]
structure AnyOk (m : Nat) (v : Val) : Prop where
  ok : okA v = true
  len : ∀ vs, sqV v = some vs → vs.length ≤ 3
  dt : ∀ h, ∃ d, dat h m v = some d
  lf : ∀ s, v = .str s → v ∈ leafVs
theorem dat_mapM {h : Hh} {m : Nat} : ∀ {l : List Val}, (∀ v ∈ l, ∃ d, dat h m v = some d) → ∃ ds, l.mapM (dat h m) = some ds
  | [], _ => ⟨[], rfl⟩
  | v :: l, hv => by
    obtain ⟨d, e⟩ := hv v (by simp)
    obtain ⟨ds, e2⟩ := dat_mapM (l := l) fun u hu => hv u (by simp [hu])
    exact ⟨d :: ds, by rw [List.mapM_cons, e, e2]; rfl⟩
theorem datT_tup {h : Hh} {m : Nat} {l : List Val} (hv : ∀ v ∈ l, ∃ d, dat h m v = some d) : ∃ d, dat h (m + 1) (.tup l) = some d := by
  obtain ⟨ds, e⟩ := dat_mapM hv
  exact ⟨_, by show (l.mapM (dat h m)).map PyData.tuple = _; rw [e]; rfl⟩
theorem datT_lst {h : Hh} {m : Nat} {l : List Val} (hv : ∀ v ∈ l, ∃ d, dat h m v = some d) : ∃ d, dat h (m + 1) (.lst l) = some d := by
  obtain ⟨ds, e⟩ := dat_mapM hv
  exact ⟨_, by show (l.mapM (dat h m)).map PyData.list = _; rw [e]; rfl⟩
end Law
namespace Law
open PySem Py
def leafWs : List Val := [.non, .bl true, .bl false, .int 0, .int 1, .int (-1), .int 2, .int 7, .int 48, .str [], .str [98, 117, 115, 121], .str [112, 114, 105, 118, 97, 116, 101], .str [111, 110, 101], .str [50, 45, 53], .str [45], .str [49, 50, 58, 32, 45]]
structure AnyG (m : Nat) (v : Val) : Prop where
  ok : okA v = true
  len : ∀ vs, sqV v = some vs → vs.length ≤ 3
  dt : ∀ h, ∃ d, dat h m v = some d
  lf : ∀ s, v = .str s → v ∈ leafWs
end Law
namespace Law
open PySem Py
mutual
def numD : PyData → Bool
  | .none => true
  | .bool _ => true
  | .int i => decide (0 ≤ i) && decide (i < 100)
  | .tuple xs => numDs xs
  | _ => false
def numDs : List PyData → Bool
  | [] => true
  | x :: xs => numD x && numDs xs
end
mutual
def sizD : PyData → Nat
  | .tuple xs => sizDs xs + 1
  | _ => 1
def sizDs : List PyData → Nat
  | [] => 0
  | x :: xs => sizD x + sizDs xs
end
theorem join_un (ts : List Str) : unS (Str.join ", " ts) = joinL [44, 32] (ts.map unS) := by
  have e := join_eq [44, 32] (ts.map unS)
  have e2 : ((ts.map unS).map fun s => (⟨s.toArray⟩ : Str)) = ts := by
    rw [List.map_map]
    refine Eq.trans (List.map_congr_left (g := id) fun t _ => ?_) (List.map_id ts)
    show (⟨(unS t).toArray⟩ : Str) = t
    unfold unS
    rw [Array.toArray_toList]
  rw [e2] at e
  rw [← e]
  show _ = unS (Builtin.Str.glued _ _)
  rw [StrLaws.glued_eq_join]
  rfl
theorem tup_text (ts : List Str) : unS (tupleText ts) = 40 :: joinL [44, 32] (ts.map unS) ++ (if ts.length = 1 then [44, 41] else [41]) := by
  unfold tupleText
  rw [unS_app, unS_app, join_un]
  have e1 : unS ("(" : Str) = [40] := by decide +kernel
  rw [e1]
  by_cases hq : ts.length = 1
  · have : (ts.length == 1) = true := by simp [hq]
    rw [this, if_pos hq]
    have e2 : unS ((if true = true then ",)" else ")" : String) : Str) = [44, 41] := by decide +kernel
    rw [e2]
    simp
  · have : (ts.length == 1) = false := by simp [hq]
    rw [this, if_neg hq]
    have e2 : unS ((if false = true then ",)" else ")" : String) : Str) = [41] := by decide +kernel
    rw [e2]
    simp
end Law
namespace Law
open PySem Py
structure NiceV (v : Val) : Prop where
  ok : okA v = true
  sq : ∀ us, sqV v = some us → us.length ≤ 1000 ∧ ∀ u ∈ us, ∀ h, ∃ d, dat h 28 u = some d
theorem mapM_congr {f g : Val → Option PyData} : ∀ {l : List Val}, (∀ v ∈ l, f v = g v) → l.mapM f = l.mapM g
  | [], _ => rfl
  | v :: l, hv => by rw [List.mapM_cons, List.mapM_cons, hv v (by simp), mapM_congr fun u hu => hv u (by simp [hu])]
theorem dat_heap (h : Hh) : ∀ (n : Nat) (v : Val), okA v = true → dat h n v = dat [] n v
  | 0, _, _ => rfl
  | n + 1, v, ho => by
    have ih := dat_heap h n
    cases v with
    | tup vs =>
      simp at ho
      show (vs.mapM (dat h n)).map PyData.tuple = (vs.mapM (dat [] n)).map PyData.tuple
      rw [mapM_congr fun u hu => ih u (okAs_all ho u hu)]
    | lst vs =>
      simp at ho
      show (vs.mapM (dat h n)).map PyData.list = (vs.mapM (dat [] n)).map PyData.list
      rw [mapM_congr fun u hu => ih u (okAs_all ho u hu)]
    | ref k => simp at ho
    | _ => rfl
end Law
namespace Law
open PySem Py
theorem lst_text (ts : List Str) : unS (listText ts) = 91 :: joinL [44, 32] (ts.map unS) ++ [93] := by
  rw [PySem.listText_eq_join, unS_app, unS_app, join_un]
  have e1 : unS ("[" : Str) = [91] := by decide +kernel
  have e2 : unS ("]" : Str) = [93] := by decide +kernel
  rw [e1, e2]
  simp
def okN4 (k : Nat) : Bool := decide ((dec (k : Int)).length ≤ 4) && (dec (k : Int)).all fun c => decide (c < 256)
theorem okN4_all : (List.range 2000).all okN4 = true := by decide +kernel
theorem dec4 {i : Int} (h0 : 0 ≤ i) (h1 : i < 2000) : (dec i).length ≤ 4 ∧ ∀ c ∈ dec i, c < 256 := by
  have h := List.all_eq_true.mp okN4_all i.toNat (List.mem_range.mpr (by omega))
  unfold okN4 at h
  rw [show ((i.toNat : Nat) : Int) = i by omega] at h
  simp only [Bool.and_eq_true, decide_eq_true_eq, List.all_eq_true] at h
  exact h
def safeC (c : Nat) : Bool := decide (32 ≤ c) && (decide (c < 127) && (decide (c ≠ 34) && (decide (c ≠ 39) && decide (c ≠ 92))))
theorem safe_lt {c : Nat} (h : safeC c = true) : c < 256 := by
  simp [safeC] at h
  omega
theorem safe_all : (List.range 127).all (fun c => !safeC c || (decide (Builtin.Str.reprChar 39 c = [c]) && decide (Builtin.Str.reprChar 34 c = [c]))) = true := by decide +kernel
theorem safe_chr {c : Nat} (h : safeC c = true) : Builtin.Str.reprChar 39 c = [c] ∧ Builtin.Str.reprChar 34 c = [c] := by
  have hc : c < 127 := by simp [safeC] at h; omega
  have := List.all_eq_true.mp safe_all c (List.mem_range.mpr hc)
  rw [h] at this
  simpa using this
def wrdY (s : Str) : Bool := (unS s).all safeC
theorem repr_fold {q : Nat} (hq : q = 39 ∨ q = 34) : ∀ (l : List Nat) (acc : Array Nat), l.all safeC = true → (l.foldl (fun out c => out ++ (Builtin.Str.reprChar q c).toArray) acc).toList = acc.toList ++ l
  | [], acc, _ => by simp
  | c :: l, acc, h => by
    simp only [List.all_cons, Bool.and_eq_true] at h
    have e : Builtin.Str.reprChar q c = [c] := by
      obtain ⟨e1, e2⟩ := safe_chr h.1
      rcases hq with rfl | rfl
      · exact e1
      · exact e2
    rw [List.foldl_cons, repr_fold hq l _ h.2, e]
    simp
theorem repr_safe {s : Str} (h : wrdY s = true) : ∃ q, (q = 39 ∨ q = 34) ∧ unS (reprText s) = q :: unS s ++ [q] := by
  have hq : reprQuote s = 39 ∨ reprQuote s = 34 := by
    unfold reprQuote
    split
    · exact .inr rfl
    · exact .inl rfl
  refine ⟨reprQuote s, hq, ?_⟩
  unfold reprText unS
  simp only [Array.toList_push]
  rw [← Array.foldl_toList, repr_fold hq s.cps.toList _ h]
  rfl
theorem repr_dat {h : Hh} {v : Val} {d : PyData} (e : dat h 30 v = some d) (h1 : d.showable = true) (h2 : d.shown.length ≤ 1000000) : gRepr h [v] = some (.str (unS d.shown), h) := by
  unfold gRepr reprV
  dsimp only
  rw [e]
  dsimp only
  rw [if_pos ⟨h1, h2⟩]
  rfl
mutual
def wZ : PyData → Bool
  | .none => true
  | .bool _ => true
  | .int i => decide (-1 ≤ i) && decide (i < 2000)
  | .str s => wrdY s
  | .tuple xs => wZs xs
  | .list xs => wZs xs
  | _ => false
def wZs : List PyData → Bool
  | [] => true
  | x :: xs => wZ x && wZs xs
end
mutual
def szZ : PyData → Nat
  | .tuple xs => szZs xs + 1
  | .list xs => szZs xs + 1
  | .str s => (unS s).length + 1
  | _ => 1
def szZs : List PyData → Nat
  | [] => 0
  | x :: xs => szZ x + szZs xs
end
mutual
theorem z_shown : ∀ d : PyData, wZ d = true → d.showable = true ∧ (∀ c ∈ unS d.shown, c < 256) ∧ (unS d.shown).length + 2 ≤ 14 * szZ d
  | .none, h => ⟨rfl, by decide +kernel, by decide +kernel⟩
  | .bool b, h => by cases b <;> exact ⟨rfl, by decide +kernel, by decide +kernel⟩
  | .int i, h => by
    simp [wZ] at h
    rcases (by omega : i = -1 ∨ 0 ≤ i) with rfl | h0
    · exact ⟨by decide +kernel, by decide +kernel, by decide +kernel⟩
    have e : unS (PyData.shown (.int i)) = dec i := rfl
    have d3 := dec4 h0 h.2
    have lg : i.natAbs.log2 < 1920 := okDec_log (by unfold okDec; simp; omega)
    refine ⟨?_, ?_, ?_⟩
    · simp [PyData.showable, lg]
    · rw [e]; exact d3.2
    · rw [e]; have := d3.1; simp [szZ]; omega
  | .str s, h => by
    have h : wrdY s = true := by simpa [wZ] using h
    have e : unS (PyData.shown (.str s)) = unS (reprText s) := by simp [PyData.shown]
    obtain ⟨q, hq, et⟩ := repr_safe h
    have hz : szZ (.str s) = (unS s).length + 1 := by simp [szZ]
    refine ⟨rfl, ?_, ?_⟩
    · rw [e, et]
      intro c hc
      simp only [List.cons_append, List.mem_cons, List.mem_append, List.not_mem_nil, or_false] at hc
      rcases hc with rfl | hc | rfl
      · omega
      · exact safe_lt (List.all_eq_true.mp h c hc)
      · omega
    · rw [e, et, hz]
      simp only [List.length_cons, List.length_append, List.length_nil]
      omega
  | .list xs, h => by
    have h : wZs xs = true := by simpa [wZ] using h
    obtain ⟨h1, h2, h3, h4⟩ := zs_shown xs h
    have e : unS (PyData.shown (.list xs)) = unS (listText (PyData.shownAll xs)) := by simp [PyData.shown]
    refine ⟨by simpa [PyData.showable] using h1, ?_, ?_⟩
    · rw [e, lst_text]
      intro c hc
      simp only [List.cons_append, List.mem_cons, List.mem_append] at hc
      rcases hc with rfl | hc | hc
      · omega
      · rcases joinL_mem hc with hc | ⟨p, hp, hc⟩
        · simp at hc; omega
        · exact h2 p hp c hc
      · simp at hc; omega
    · rw [e, lst_text]
      have a := joinL_len [44, 32] ((PyData.shownAll xs).map unS)
      simp only [List.length_map] at a
      have e3 : szZ (.list xs) = szZs xs + 1 := by simp [szZ]
      rw [e3]
      generalize ((PyData.shownAll xs).map unS).map List.length = Z at *
      simp only [List.length_cons, List.length_nil, List.length_append] at a ⊢
      omega
  | .dict _, h => by simp [wZ] at h
  | .tuple xs, h => by
    have h : wZs xs = true := by simpa [wZ] using h
    obtain ⟨h1, h2, h3, h4⟩ := zs_shown xs h
    have e : unS (PyData.shown (.tuple xs)) = unS (tupleText (PyData.shownAll xs)) := by simp [PyData.shown]
    refine ⟨by simpa [PyData.showable] using h1, ?_, ?_⟩
    · rw [e, tup_text]
      intro c hc
      simp only [List.cons_append, List.mem_cons, List.mem_append] at hc
      rcases hc with rfl | hc | hc
      · omega
      · rcases joinL_mem hc with hc | ⟨p, hp, hc⟩
        · simp at hc; omega
        · exact h2 p hp c hc
      · split at hc <;> simp at hc <;> omega
    · rw [e, tup_text]
      have a := joinL_len [44, 32] ((PyData.shownAll xs).map unS)
      simp only [List.length_map] at a
      have e3 : szZ (.tuple xs) = szZs xs + 1 := by simp [szZ]
      rw [e3]
      generalize ((PyData.shownAll xs).map unS).map List.length = Z at *
      simp only [List.length_cons, List.length_nil, List.length_append] at a ⊢
      split <;> simp only [List.length_cons, List.length_nil] <;> omega
theorem zs_shown : ∀ xs : List PyData, wZs xs = true → PyData.showableAll xs = true ∧ (∀ p ∈ (PyData.shownAll xs).map unS, ∀ c ∈ p, c < 256) ∧ (((PyData.shownAll xs).map unS).map List.length).sum + 2 * (PyData.shownAll xs).length ≤ 14 * szZs xs ∧ (PyData.shownAll xs).length ≤ szZs xs
  | [], _ => ⟨rfl, by simp [PyData.shownAll], by simp [PyData.shownAll], by simp [PyData.shownAll]⟩
  | x :: xs, h => by
    simp [wZs] at h
    obtain ⟨a1, a2, a3⟩ := z_shown x h.1
    obtain ⟨b1, b2, b3, b4⟩ := zs_shown xs h.2
    have e : PyData.shownAll (x :: xs) = x.shown :: PyData.shownAll xs := by simp [PyData.shownAll]
    rw [e]
    refine ⟨by simp [PyData.showableAll, a1, b1], ?_, ?_, ?_⟩
    · intro p hp
      simp only [List.map_cons, List.mem_cons] at hp
      rcases hp with rfl | hp
      · exact a2
      · exact b2 p hp
    · simp only [List.map_cons, List.sum_cons, List.length_cons, szZs]
      omega
    · have : 1 ≤ szZ x := by cases x <;> simp [szZ]
      simp only [List.length_cons, szZs]
      omega
end
mutual
def zVl : Val → Bool
  | .non => true
  | .bl _ => true
  | .int i => decide (-1 ≤ i) && decide (i < 2000)
  | .str s => wrdY ⟨s.toArray⟩ && okStr s
  | .tup vs => zVs vs
  | .lst vs => zVs vs
  | _ => false
def zVs : List Val → Bool
  | [] => true
  | v :: vs => zVl v && zVs vs
end
mutual
def szU : Val → Nat
  | .tup vs => szUs vs + 1
  | .lst vs => szUs vs + 1
  | .str s => s.length + 1
  | _ => 1
def szUs : List Val → Nat
  | [] => 0
  | v :: vs => szU v + szUs vs
end
theorem z_dats {n : Nat} {h : Hh} (ih : ∀ v, zVl v = true → depV v ≤ n → ∃ d, dat h n v = some d ∧ wZ d = true ∧ szZ d = szU v) : ∀ vs : List Val, zVs vs = true → depVs vs ≤ n → ∃ ds, vs.mapM (dat h n) = some ds ∧ wZs ds = true ∧ szZs ds = szUs vs
  | [], _, _ => ⟨[], rfl, rfl, rfl⟩
  | v :: vs, h1, h2 => by
    simp only [zVs, Bool.and_eq_true] at h1
    simp only [depVs] at h2
    obtain ⟨d, e1, w1, z1⟩ := ih v h1.1 (by omega)
    obtain ⟨ds, e2, w2, z2⟩ := z_dats ih vs h1.2 (by omega)
    exact ⟨d :: ds, by rw [List.mapM_cons, e1, e2]; rfl, by simp [wZs, w1, w2], by simp [szZs, szUs, z1, z2]⟩
theorem z_dat (h : Hh) : ∀ (n : Nat) (v : Val), zVl v = true → depV v ≤ n → ∃ d, dat h n v = some d ∧ wZ d = true ∧ szZ d = szU v
  | 0, v, _, h2 => by
    have : 1 ≤ depV v := by cases v <;> simp [depV]
    omega
  | n + 1, v, h1, h2 => by
    cases v with
    | non => exact ⟨.none, rfl, rfl, rfl⟩
    | bl b => exact ⟨.bool b, rfl, rfl, rfl⟩
    | int i => exact ⟨.int i, rfl, by simpa [zVl, wZ] using h1, rfl⟩
    | str s =>
      simp only [zVl, Bool.and_eq_true] at h1
      refine ⟨.str ⟨s.toArray⟩, ?_, h1.1, rfl⟩
      show (if okStr s = true then some (PyData.str ⟨s.toArray⟩) else none) = _
      rw [if_pos h1.2]
    | tup vs =>
      simp only [zVl] at h1
      simp only [depV] at h2
      obtain ⟨ds, e, w, z⟩ := z_dats (z_dat h n) vs h1 (by omega)
      refine ⟨.tuple ds, ?_, by simpa [wZ] using w, by simp [szZ, szU, z]⟩
      show (vs.mapM (dat h n)).map PyData.tuple = _
      rw [e]
      rfl
    | lst vs =>
      simp only [zVl] at h1
      simp only [depV] at h2
      obtain ⟨ds, e, w, z⟩ := z_dats (z_dat h n) vs h1 (by omega)
      refine ⟨.list ds, ?_, by simpa [wZ] using w, by simp [szZ, szU, z]⟩
      show (vs.mapM (dat h n)).map PyData.list = _
      rw [e]
      rfl
    | obj _ _ => simp [zVl] at h1
    | ref _ => simp [zVl] at h1
    | glo _ => simp [zVl] at h1
    | dct _ _ => simp [zVl] at h1
theorem z_repr {h : Hh} {v : Val} {d : PyData} (e : dat h 30 v = some d) (w : wZ d = true) (z : szZ d ≤ 70000) : okStr (unS d.shown) = true ∧ gRepr h [v] = some (.str (unS d.shown), h) := by
  obtain ⟨a, b, c⟩ := z_shown d w
  have el : d.shown.length = (unS d.shown).length := by simp [unS, Str.length]
  exact ⟨okStr_of b, repr_dat (h := h) e a (by rw [el]; omega)⟩
def Sz1 : Nat → Nat
  | 0 => 8
  | n + 1 => 3 * Sz1 n + 8
theorem Sz1_ge : ∀ n, 8 ≤ Sz1 n
  | 0 => Nat.le_refl _
  | n + 1 => by unfold Sz1; omega
def leafW1 : List Val := [.non, .bl true, .bl false, .int 0, .int 1, .int (-1), .int 2, .int 3, .str [], .str [98, 117, 115, 121], .str [112, 114, 105, 118, 97, 116, 101], .str [111, 110, 101], .str [50, 45, 53], .str [45], .str [49, 50, 58, 32, 45]]
def leafG1 (T : Nat → List Str) : Fx := fnOf 1 2
 (xSeq (xSet 1 (xLstF (xCons (xC .non) (xCons (xC (.bl true)) (xCons (xC (.bl false)) (xCons (xC (.int 0)) (xCons (xC (.int 1)) (xCons (xOp gSub (xC (.int 0)) (xC (.int 1))) (xCons (xC (.int 2)) (xCons (xC (.int 3)) (xCons (xC (.str [])) (xCons (xC (.str [98, 117, 115, 121])) (xCons (xC (.str [112, 114, 105, 118, 97, 116, 101])) (xCons (xC (.str [111, 110, 101])) (xCons (xC (.str [50, 45, 53])) xNil)))))))))))))))
 (xRet (xCallB T (oneX T) [] (xCons (xVar 0) (xCons (xOp gPlusA (xVar 1) (xLstF (xCons (xC (.str [45])) (xCons (xC (.str [49, 50, 58, 32, 45])) xNil)))) xNil)))))
theorem draw_leafG1 (T : Nat → List Str) {h : Hh} {k : Nat} {a b : Int} (hk : h[k]? = some (box a b)) :
    ∃ (v : Val) (a' b' : Int), v ∈ leafW1 ∧ callB T (leafG1 T) [.ref k] h = .ok v (h.set k (box a' b')) := by
  obtain ⟨v, a1, b1, m1, e1⟩ := drawOne T leafW1 rfl (by decide) (by decide) (h := [box a b]) (k := 0) rfl
  have pv : pureV v = true := by
    have : ∀ u ∈ leafW1, pureV u = true := by decide
    exact this v m1
  refine ⟨v, a1, b1, m1, callB_of (v := v) (h' := [box a1 b1]) hk rfl ?_ rfl (by simp [pv])⟩
  simp at e1
  have e2 : ∀ h : Hh, gPlusA h (.lst [.non, .bl true, .bl false, .int 0, .int 1, .int (-1), .int 2, .int 3, .str [], .str [98, 117, 115, 121], .str [112, 114, 105, 118, 97, 116, 101], .str [111, 110, 101], .str [50, 45, 53]]) (.lst [.str [45], .str [49, 50, 58, 32, 45]]) = some (.lst leafW1) := fun h => rfl
  rw [leafG1]
  simp [gI, e2, e1]
theorem leafG1_ok {v : Val} (h : v ∈ leafW1) : okA v = true ∧ sqV v = none ∧ (∀ h m, ∃ d, dat h (m + 1) v = some d) ∧ zVl v = true ∧ depV v = 1 ∧ szU v ≤ 8 := by
  have this : ∀ u ∈ leafW1, okA u = true ∧ (sqV u).isNone = true ∧ zVl u = true ∧ depV u = 1 ∧ szU u ≤ 8 := by decide +kernel
  refine ⟨(this v h).1, Option.isNone_iff_eq_none.mp (this v h).2.1, fun h' m => ?_, (this v h).2.2⟩
  simp only [leafW1, List.mem_cons, List.not_mem_nil, or_false] at h
  rcases h with rfl | rfl | rfl | rfl | rfl | rfl | rfl | rfl | rfl | rfl | rfl | rfl | rfl | rfl | rfl <;> exact ⟨_, rfl⟩
def anyG1 (T : Nat → List Str) : Nat → Fx
  | 0 => fnOf 2 5 fun _ _ => .bad
  | n + 1 => fnOf 2 5
     (xSeq (xSet 2 (xIf (xOp gGt (xVar 1) (xC (.int 0))) (xCallB T chooseF [] (xCons (xVar 0) (xCons (xC (.int 6)) xNil))) (xC (.int 9))))
     (xSeq (xIfS (xOp gGt (xVar 2) (xC (.int 1)))
     (xRet (xCallB T (leafG1 T) [] (xCons (xVar 0) xNil)))
     xSkip)
     (xSeq (xSet 3 (xCompF [4] (xIRng1 (xCons (xCallB T chooseF [] (xCons (xVar 0) (xCons (xC (.int 4)) xNil))) xNil)) (gN 4) (xC (.bl true)) (xCallB T (anyG1 T n) [] (xCons (xVar 0) (xCons (xOp gSub (xVar 1) (xC (.int 1))) xNil)))))
     (xRet (xIf (xOp gEq (xVar 2) (xC (.int 0))) (xCB gTuple (xCons (xVar 3) xNil)) (xVar 3))))))
structure AnyX (m : Nat) (v : Val) : Prop where
  ok : okA v = true
  len : ∀ vs, sqV v = some vs → vs.length ≤ 3
  dt : ∀ h, ∃ d, dat h m v = some d
  lf : ∀ s, v = .str s → v ∈ leafW1
  zv : zVl v = true
  dp : depV v ≤ m
  sz : szU v ≤ Sz1 m
theorem anyX_all {m : Nat} : ∀ {l : List Val}, (∀ v ∈ l, AnyX m v) → zVs l = true ∧ depVs l ≤ m ∧ szUs l ≤ l.length * Sz1 m
  | [], _ => ⟨rfl, by simp [depVs], by simp [szUs]⟩
  | v :: l, h => by
    have a := h v List.mem_cons_self
    obtain ⟨b1, b2, b3⟩ := anyX_all (l := l) fun u hu => h u (List.mem_cons_of_mem _ hu)
    have s := a.sz
    have dp := a.dp
    refine ⟨by simp [zVs, a.zv, b1], ?_, ?_⟩
    · simp only [depVs]; omega
    · simp only [szUs, List.length_cons, Nat.succ_mul]; omega
theorem anyG1_items (T : Nat → List Str) (n m : Nat) (d : Int) (ih : ∀ (h : Hh) (k : Nat) (a b : Int), h[k]? = some (box a b) → ∃ (v : Val) (a' b' : Int), AnyX m v ∧ callB T (anyG1 T n) [.ref k, .int (d - 1)] h = .ok v (h.set k (box a' b'))) (x2 x3 : Option Val) :
    ∀ (vs acc : List Val) (a b : Int), ∃ (l : List Val) (a' b' : Int), (∀ v ∈ l, AnyX m v) ∧ l.length = vs.length ∧
      compItems (gN 4) (xC (.bl true)) (xCallB T (anyG1 T n) [] (xCons (xVar 0) (xCons (xOp gSub (xVar 1) (xC (.int 1))) xNil))) [some (.ref 0), some (.int d), x2, x3, none] vs acc [box a b] = .ok (acc ++ l) [box a' b']
  | [], acc, a, b => ⟨[], a, b, by simp, rfl, by simp [compItems]⟩
  | v :: vs, acc, a, b => by
    obtain ⟨u, a1, b1, ou, e1⟩ := ih [box a b] 0 a b rfl
    simp at e1
    obtain ⟨l, a2, b2, ol, hl, e2⟩ := anyG1_items T n m d ih x2 x3 vs (acc ++ [u]) a1 b1
    refine ⟨u :: l, a2, b2, fun v hv => by rcases List.mem_cons.mp hv with rfl | hv; exact ou; exact ol v hv, by simp [hl], ?_⟩
    unfold compItems
    simp [gI, e1]
    simpa using e2
theorem draw_anyG1 (T : Nat → List Str) : ∀ (n : Nat) (d : Int), d ≤ n → ∀ (h : Hh) (k : Nat) (a b : Int), h[k]? = some (box a b) →
    ∃ (v : Val) (a' b' : Int), AnyX (d.toNat + 1) v ∧ callB T (anyG1 T (n + 1)) [.ref k, .int d] h = .ok v (h.set k (box a' b')) := by
  intro n
  induction n with
  | zero =>
    intro d hd h k a b hk
    obtain ⟨v, a1, b1, m1, e1⟩ := draw_leafG1 T (h := [box a b]) (k := 0) rfl
    obtain ⟨ov, sv, dv, zv, dpv, szv⟩ := leafG1_ok m1
    simp at e1
    refine ⟨v, a1, b1, ⟨ov, fun vs e => (by rw [sv] at e; cases e), fun h => dv h _, fun _ _ => m1, zv, by omega, Nat.le_trans szv (Sz1_ge _)⟩, callB_of (v := v) (h' := [box a1 b1]) hk rfl ?_ rfl (by simp [okA_pure ov])⟩
    have hd' : ¬ 0 < d := by omega
    rw [anyG1]
    simp [gI, hd', e1]
  | succ n ih =>
    intro d hd h k a b hk
    by_cases hd0 : 0 < d
    · obtain ⟨q, hq, hq1⟩ : ∃ q : Nat, d.toNat = q + 1 ∧ (d - 1).toNat = q := ⟨(d - 1).toNat, by omega, rfl⟩
      rw [hq]
      obtain ⟨f, a1, b1, f0, f1, e1⟩ := draw T 6 (by decide) (by decide) (h := [box a b]) (k := 0) rfl
      simp at e1
      by_cases hf : 1 < f
      · obtain ⟨v, a2, b2, m1, e2⟩ := draw_leafG1 T (h := [box a1 b1]) (k := 0) rfl
        obtain ⟨ov, sv, dv, zv, dpv, szv⟩ := leafG1_ok m1
        simp at e2
        refine ⟨v, a2, b2, ⟨ov, fun vs e => (by rw [sv] at e; cases e), fun h => dv h _, fun _ _ => m1, zv, by omega, Nat.le_trans szv (Sz1_ge _)⟩, callB_of (v := v) (h' := [box a2 b2]) hk rfl ?_ rfl (by simp [okA_pure ov])⟩
        rw [anyG1]
        simp [gI, hd0, e1, hf, e2]
      · obtain ⟨m, a2, b2, m0, m1, e2⟩ := draw T 4 (by decide) (by decide) (h := [box a1 b1]) (k := 0) rfl
        simp at e2
        obtain ⟨l, a3, b3, al, hl, e3⟩ := anyG1_items T (n + 1) (q + 1) d (fun h k a b hk => hq1 ▸ ih (d - 1) (by omega) h k a b hk) (some (.int f)) none (rng 0 m.toNat) [] a2 b2
        have ol : okAs l = true := okAs_of fun v hv => (al v hv).ok
        obtain ⟨zl, dl, sl⟩ := anyX_all al
        have hs : small62 m = true := by unfold small62; simp; omega
        have hm : m.toNat ≤ 3 := by omega
        have hll : l.length ≤ 3 := by rw [hl, rng_len]; exact hm
        have sl2 : szUs l + 1 ≤ Sz1 (q + 1 + 1) := by
          have := Nat.mul_le_mul_right (Sz1 (q + 1)) hll
          show _ ≤ 3 * Sz1 (q + 1) + 8
          omega
        have hz : (rng 0 m.toNat).length ≤ 1000000 := by rw [rng_len]; omega
        have hc : (xCompF [4] (xIRng1 (xCons (xCallB T chooseF [] (xCons (xVar 0) (xCons (xC (.int 4)) xNil))) xNil)) (gN 4) (xC (.bl true)) (xCallB T (anyG1 T (n + 1)) [] (xCons (xVar 0) (xCons (xOp gSub (xVar 1) (xC (.int 1))) xNil)))) [some (.ref 0), some (.int d), some (.int f), none, none] [box a1 b1] = .ok (.lst l) [box a3 b3] := by
          rw [compF_ap]
          have : xIRng1 (xCons (xCallB T chooseF [] (xCons (xVar 0) (xCons (xC (.int 4)) xNil))) xNil) [some (.ref 0), some (.int d), some (.int f), none, none] [box a1 b1] = .ok (.items (rng 0 m.toNat)) [box a2 b2] := by
            simp [e2, hs]
          rw [this, comp_items, if_pos hz]
          have w : wipeG [some (.ref 0), some (.int d), some (.int f), none, none] [4] = [some (.ref 0), some (.int d), some (.int f), none, none] := rfl
          rw [w, e3]
          rfl
        by_cases hf0 : f = 0
        · subst hf0
          refine ⟨.tup l, a3, b3, ⟨by simpa using ol, fun vs e => (by cases e; exact hll), fun h => datT_tup fun v hv => (al v hv).dt h, fun s e => (by cases e), by simpa [zVl] using zl, by simp only [depV]; omega, by simpa [szU] using sl2⟩, callB_of (v := .tup l) (h' := [box a3 b3]) hk rfl ?_ rfl (by simp [okAs_pure ol])⟩
          have ht : ∀ h, gTuple h [.lst l] = some (.tup l, h) := fun h => rfl
          rw [anyG1]
          simp [gI, hd0, e1, -compF_ap, hc, gEq, eqD, dat, PyData.eqv, ht]
        · refine ⟨.lst l, a3, b3, ⟨by simpa using ol, fun vs e => (by cases e; exact hll), fun h => datT_lst fun v hv => (al v hv).dt h, fun s e => (by cases e), by simpa [zVl] using zl, by simp only [depV]; omega, by simpa [szU] using sl2⟩, callB_of (v := .lst l) (h' := [box a3 b3]) hk rfl ?_ rfl (by simp [okAs_pure ol])⟩
          have hb : (f == 0) = false := by simp [hf0]
          rw [anyG1]
          simp [gI, hd0, e1, hf, -compF_ap, hc, gEq, eqD, dat, PyData.eqv, hb]
    · obtain ⟨v, a1, b1, m1, e1⟩ := draw_leafG1 T (h := [box a b]) (k := 0) rfl
      obtain ⟨ov, sv, dv, zv, dpv, szv⟩ := leafG1_ok m1
      simp at e1
      refine ⟨v, a1, b1, ⟨ov, fun vs e => (by rw [sv] at e; cases e), fun h => dv h _, fun _ _ => m1, zv, by omega, Nat.le_trans szv (Sz1_ge _)⟩, callB_of (v := v) (h' := [box a1 b1]) hk rfl ?_ rfl (by simp [okA_pure ov])⟩
      rw [anyG1]
      simp [gI, hd0, e1]
end Law
namespace Law
open PySem Py
def S1 : Sx := (xSet 4 (xCallB TBf f_Lany [] (xCons (xVar 2) (xCons (xC (.int 5)) xNil))))
def S2 : Sx := (xSet 5 (xCallA f_Lmade [] (xCons (xVar 4) xNil)))
def S3 : Sx := (xIfS (xOp gNe (xCB gRepr (xCons (xCallA f_Lkept [] (xCons (xVar 5) xNil)) xNil)) (xCB gRepr (xCons (xOpH gRepA (xLst (xCons (xVar 4) xNil)) (xC (.int 7))) xNil)))
 (xRet (xC (.bl false)))
 xSkip)
def S4 : Sx := (xSet 6 (xLst (xCons (xVar 4) xNil)))
def S5 : Sx := (xSet 7 (xCallA f_Lmade [] (xCons (xVar 6) xNil)))
def S6 : Sx := (xDrop (xBM "list" gAppend (xVar 6) (xCons (xC (.int 5)) xNil)))
def S7 : Sx := (xIfS (xOp gNe (xCB gRepr (xCons (xCallA f_Lkept [] (xCons (xVar 7) xNil)) xNil)) (xCB gRepr (xCons (xOpH gRepA (xLst (xCons (xLstF (xCons (xVar 4) (xCons (xC (.int 5)) xNil))) xNil)) (xC (.int 7))) xNil)))
 (xRet (xC (.bl false)))
 xSkip)
def S8 : Sx := (xFor (xIN (xCons (xOp gPlusA (xVar 5) (xLstF (xCons (xExn0 6) (xCons (xExn0 7) xNil)))) xNil)) (gTu 2 (gsCons (gN 8) (gsCons (gN 9) gsNil)))
 (xSeq (xIfS (xOp gNe (xCallA f_Lsorts [] (xCons (xVar 9) xNil)) (xCompF [11] (xIRng1 (xCons (xC (.int 9)) xNil)) (gN 11) (xC (.bl true)) (xOp gEq (xVar 11) (xVar 8))))
 (xRet (xC (.bl false)))
 xSkip)
 (xSeq (xSet 10 (xAnd (xUn (gIsX is_x_DimError) (xVar 9)) (xUn (gIsX is_x_ValueError) (xVar 9))))
 (xIfS (xOr (xOp gNe (xVar 10) (xOp gNe (xVar 8) (xC (.int 6)))) (xOp gNe (xUn (gIsX is_x_IndexError) (xVar 9)) (xOp gEq (xVar 8) (xC (.int 6)))))
 (xRet (xC (.bl false)))
 xSkip))))
def inner : Sx := (xSeq S1 (xSeq S2 (xSeq S3 (xSeq S4 (xSeq S5 (xSeq S6 (xSeq S7 S8)))))))
def outer0 : Sx := (xSet 2 (xCallO TBf f_Lseed [] (xCons (xVar 0) (xCons (xVar 1) xNil))))
def outer : Sx := xSeq outer0 (xFor (xIRng1 (xCons (xC (.int 6)) xNil)) (gN 3) inner)
def after1 : Sx := (xRet (xC (.bl true)))
def cnt : Lx := (xCons (xCB gMax2 (xCons (xC (.int 2)) (xCons (xCB gMin2 (xCons (xC (.int 5)) (xCons (xCB gLenX (xCons (xVar 0) xNil)) xNil))) xNil))) xNil)
theorem law_is : f_law = fnOf 1 12 (xSeq (xFor (xIRng1 cnt) (gN 1) outer) after1) := rfl
theorem seed_is : f_Lseed = seedF 40093 := rfl
theorem any_is : f_Lany = anyG1 TBf 9 := rfl
theorem hget_set {h : Hh} {k : Nat} {x y : Py.Obj} (e : h[k]? = some x) : (h.set k y)[k]? = some y := by
  have := (List.getElem?_eq_some_iff.mp e).1
  rw [List.getElem?_set_self this]
theorem hget_end (h : Hh) (x : Py.Obj) : (h ++ [x])[h.length]? = some x := by simp
theorem hget_app {h : Hh} {k : Nat} {x : Py.Obj} (e : h[k]? = some x) (X : Hh) : (h ++ X)[k]? = some x := by
  rw [List.getElem?_append_left (List.getElem?_eq_some_iff.mp e).1, e]
theorem hget_ne {h : Hh} {j k : Nat} {x y : Py.Obj} (e : h[k]? = some x) (n : j ≠ k) : (h.set j y)[k]? = some x := by rw [List.getElem?_set_ne n, e]
theorem op_h {g : G2} {fa fb : Ex} {sg : Sg} {h h1 h2 : Hh} {x y z : Val} (e1 : fa sg h = .ok x h1) (e2 : fb sg h1 = .ok y h2) (e3 : g h2 x y = some z) : xOp g fa fb sg h = .ok z h2 := by
  rw [op_ap, e1]
  show ((fb sg h1).bind _) = _
  rw [e2]
  show Res.ofO (g h2 x y) h2 = _
  rw [e3]
  rfl
theorem op_of {g : G2} {fa fb : Ex} {sg : Sg} {h : Hh} {x y z : Val} (e1 : fa sg h = .ok x h) (e2 : fb sg h = .ok y h) (e3 : g h x y = some z) : xOp g fa fb sg h = .ok z h := op_h e1 e2 e3
theorem or_ff {a b : Ex} {sg : Sg} {h h1 h2 : Hh} (e1 : a sg h = .ok (.bl false) h1) (e2 : b sg h1 = .ok (.bl false) h2) : xOr a b sg h = .ok (.bl false) h2 := by
  rw [or_ap, e1]
  exact e2
theorem hlt {h : Hh} {k : Nat} {x : Py.Obj} (e : h[k]? = some x) : k < h.length := (List.getElem?_eq_some_iff.mp e).1
theorem rows_dat {h : Hh} {k : Nat} {v : Val} {d : PyData} (e : dat h k v = some d) : ∀ n : Nat, (List.replicate n v).mapM (dat h k) = some (List.replicate n d)
  | 0 => rfl
  | n + 1 => by
    rw [List.replicate_succ, List.mapM_cons, e, rows_dat e n]
    rfl
theorem rows_lst {h : Hh} {v : Val} {d : PyData} (e : dat h 29 v = some d) (n : Nat) : dat h 30 (.lst (List.replicate n v)) = some (.list (List.replicate n d)) := by
  show ((List.replicate n v).mapM (dat h 29)).map PyData.list = _
  rw [rows_dat e n]
  rfl
theorem rows_ref {h : Hh} {j n : Nat} {v : Val} {d : PyData} (e : dat h 29 v = some d) (ej : h[j]? = some (.lst (List.replicate n v))) : dat h 30 (.ref j) = some (.list (List.replicate n d)) := by
  show (match h[j]? with
    | some (.lst vs) => (vs.mapM (dat h 29)).map PyData.list
    | _ => none) = _
  rw [ej]
  dsimp only
  rw [rows_dat e n]
  rfl
theorem rows_wz {d : PyData} (w : wZ d = true) : ∀ n : Nat, wZs (List.replicate n d) = true ∧ szZs (List.replicate n d) = n * szZ d
  | 0 => ⟨rfl, by simp [szZs]⟩
  | n + 1 => by
    obtain ⟨a, b⟩ := rows_wz w n
    refine ⟨by simp [List.replicate_succ, wZs, w, a], ?_⟩
    simp only [List.replicate_succ, szZs, b, Nat.succ_mul]
    omega
theorem rows_re {v : Val} {e : Ex} {k : Nat} (hk : k ≤ 1000) {sg : Sg} {h : Hh} (ee : e sg h = .ok v h) : xOpH gRepA (xLst (xCons e xNil)) (xC (.int (k : Int))) sg h = .ok (.ref (h.length + 1)) (h ++ [.lst [v]] ++ [.lst (List.replicate k v)]) := by
  have l0 : xLst (xCons e xNil) sg h = .ok (.ref h.length) (h ++ [.lst [v]]) := by
    rw [lst_ap, cons_ap, ee, rl_ok]
    rfl
  have m0 : mutOf (h ++ [Py.Obj.lst [v]]) (.ref h.length) = some (h.length, [v]) := by
    unfold mutOf
    simp
  unfold xOpH
  rw [l0, rb_ok]
  show ((Res.ok (Val.int (k : Int)) (h ++ [.lst [v]])).bind _) = _
  rw [rb_ok]
  have fl : (List.replicate k [v]).flatten = List.replicate k v := by
    clear hk
    induction k with
    | zero => rfl
    | succ k ih => rw [List.replicate_succ, List.flatten_cons, ih]; rfl
  have g : gRepA (h ++ [Py.Obj.lst [v]]) (.ref h.length) (.int (k : Int)) = some (.ref (h.length + 1), h ++ [.lst [v]] ++ [.lst (List.replicate k v)]) := by
    unfold gRepA
    rw [m0]
    dsimp only
    rw [if_pos ⟨by omega, by omega, by simp; omega⟩]
    simp only [Int.toNat_natCast, fl, List.length_append, List.length_cons, List.length_nil]
  rw [g]
  rfl
theorem repr_ne {d : PyData} (w : wZ d = true) (z : szZ d ≤ 70000) {a b : Ex} {sg : Sg} {h h1 h2 : Hh} {x y : Val} (ea : a sg h = .ok x h1) (eb : b sg h1 = .ok y h2) (dx : dat h1 30 x = some d) (dy : dat h2 30 y = some d) : xOp gNe (xCB gRepr (xCons a xNil)) (xCB gRepr (xCons b xNil)) sg h = .ok (.bl false) h2 := by
  obtain ⟨os, hs⟩ := z_repr dx w z
  obtain ⟨_, ht⟩ := z_repr dy w z
  refine op_h (h1 := h1) (x := .str (unS d.shown)) (y := .str (unS d.shown)) ?_ ?_ (gNe_str os h2)
  · rw [cb_ap, cons_ap, ea, rl_ok, nil_ap, ll_ok, lb_ok, hs]
    rfl
  · rw [cb_ap, cons_ap, eb, rl_ok, nil_ap, ll_ok, lb_ok, ht]
    rfl
def cs7 : List Nat := [1, 2, 3, 4, 5, 8, 9]
def exs (v : Val) : Hh := cs7.map fun c => .exn c [v]
def refs (n : Nat) : List Val := (List.range 7).map fun i => .ref (n + i)
theorem made_ok (v : Val) (h : Hh) : f_Lmade h [v] = .ok (.lst (refs h.length)) (h ++ exs v) := by
  refine fnOf_r rfl ?_
  show xSeq _ _ [some v, none] h = _
  have e1 : (xSet 1 (xLstF (xCons (xExn 1 (xVar 0)) (xCons (xExn 2 (xVar 0)) (xCons (xExn 3 (xVar 0)) (xCons (xExn 4 (xVar 0)) (xCons (xExn 5 (xVar 0)) xNil))))))) [some v, none] h = .next [some v, some (.lst [.ref h.length, .ref (h.length + 1), .ref (h.length + 2), .ref (h.length + 3), .ref (h.length + 4)])] (h ++ [.exn 1 [v], .exn 2 [v], .exn 3 [v], .exn 4 [v], .exn 5 [v]]) := by
    rw [set_ap, lstF_ap]
    simp [xExn, cons_ap]
  rw [xSeq_n e1]
  have e2 : (xLstF (xCons (xExn 8 (xVar 0)) (xCons (xExn 9 (xVar 0)) xNil))) [some v, some (.lst [.ref h.length, .ref (h.length + 1), .ref (h.length + 2), .ref (h.length + 3), .ref (h.length + 4)])] (h ++ [.exn 1 [v], .exn 2 [v], .exn 3 [v], .exn 4 [v], .exn 5 [v]]) = .ok (.lst [.ref (h.length + 5), .ref (h.length + 6)]) (h ++ exs v) := by
    rw [lstF_ap]
    simp [xExn, cons_ap, exs, cs7]
  have o := op_h (g := gPlusA) (fa := xVar 1) (x := .lst [.ref h.length, .ref (h.length + 1), .ref (h.length + 2), .ref (h.length + 3), .ref (h.length + 4)]) (z := .lst (refs h.length)) rfl e2 rfl
  rw [ret_ap, o]
  rfl
theorem exs_at (v : Val) (h : Hh) {i c : Nat} (hc : cs7[i]? = some c) : (h ++ exs v)[h.length + i]? = some (.exn c [v]) := by
  rw [List.getElem?_append_right (by omega)]
  simp [exs, hc]
theorem xat_ok {cs : List Nat} {j k c : Nat} {u : Val} {sg : Sg} {H : Hh} (es : sg[j]? = some (some (.ref k))) (e : H[k]? = some (.exn c [u])) (hc : c ∈ cs) : xUn (gXat cs) (xVar j) sg H = .ok u H := by
  have vj : xVar j sg H = .ok (.ref k) H := by rw [var_ap, es]; rfl
  rw [un_ap, vj]
  show Res.ofO (gXat cs H (.ref k)) H = _
  unfold gXat
  simp [e, hc]
theorem kept_ok {n : Nat} {u : Val} {H : Hh} (e : ∀ i c, cs7[i]? = some c → H[n + i]? = some (.exn c [u])) : f_Lkept H [.lst (refs n)] = .ok (.lst (List.replicate 7 u)) H := by
  refine fnOf_r rfl ?_
  have c1 : xCompF [1] (xISX (xSlice (xVar 0) oNone (oSome (xC (.int 3))))) (gN 1) (xC (.bl true)) (xUn (gXat [1, 2, 3]) (xVar 1)) [some (.lst (refs n)), none] H = .ok (.lst (List.replicate 3 u)) H := by
    have it : xISX (xSlice (xVar 0) oNone (oSome (xC (.int 3)))) [some (.lst (refs n)), none] H = .ok (.items ((List.range 3).map fun i => .ref (n + i))) H := rfl
    have wp : wipeG [some (.lst (refs n)), none] [1] = [some (.lst (refs n)), none] := rfl
    have cm := comp_map (α := Nat) (enc := fun i => Val.ref (n + i)) (fun _ => u) (g := gN 1) (t := xC (.bl true)) (e := xUn (gXat [1, 2, 3]) (xVar 1)) (sg := [some (.lst (refs n)), none]) (h := H) (List.range 3) [] (fun i hi => by
      have hi := List.mem_range.mp hi
      have : i = 0 ∨ i = 1 ∨ i = 2 := by omega
      refine ⟨[some (.lst (refs n)), some (.ref (n + i))], rfl, rfl, ?_⟩
      rcases this with rfl | rfl | rfl
      · exact xat_ok rfl (e 0 1 rfl) (by decide)
      · exact xat_ok rfl (e 1 2 rfl) (by decide)
      · exact xat_ok rfl (e 2 3 rfl) (by decide))
    rw [compF_ap, it, wp, comp_items, if_pos (by simp), cm]
    rfl
  have c2 : xCompF [1] (xISX (xSlice (xVar 0) (oSome (xC (.int 3))) oNone)) (gN 1) (xC (.bl true)) (xUn (gXat [4, 5, 8, 9]) (xVar 1)) [some (.lst (refs n)), none] H = .ok (.lst (List.replicate 4 u)) H := by
    have it : xISX (xSlice (xVar 0) (oSome (xC (.int 3))) oNone) [some (.lst (refs n)), none] H = .ok (.items ((List.range 4).map fun i => .ref (n + (3 + i)))) H := rfl
    have wp : wipeG [some (.lst (refs n)), none] [1] = [some (.lst (refs n)), none] := rfl
    have cm := comp_map (α := Nat) (enc := fun i => Val.ref (n + (3 + i))) (fun _ => u) (g := gN 1) (t := xC (.bl true)) (e := xUn (gXat [4, 5, 8, 9]) (xVar 1)) (sg := [some (.lst (refs n)), none]) (h := H) (List.range 4) [] (fun i hi => by
      have hi := List.mem_range.mp hi
      have : i = 0 ∨ i = 1 ∨ i = 2 ∨ i = 3 := by omega
      refine ⟨[some (.lst (refs n)), some (.ref (n + (3 + i)))], rfl, rfl, ?_⟩
      rcases this with rfl | rfl | rfl | rfl
      · exact xat_ok rfl (e 3 4 rfl) (by decide)
      · exact xat_ok rfl (e 4 5 rfl) (by decide)
      · exact xat_ok rfl (e 5 8 rfl) (by decide)
      · exact xat_ok rfl (e 6 9 rfl) (by decide))
    rw [compF_ap, it, wp, comp_items, if_pos (by simp), cm]
    rfl
  have o := op_h (g := gPlusA) c1 c2 (z := .lst (List.replicate 7 u)) rfl
  show xRet _ [some (.lst (refs n)), none] H = _
  rw [ret_ap, o]
  rfl
theorem isx_ok {l : List (Nat × Bool)} {j k c : Nat} {fs : List Val} {b : Bool} {sg : Sg} {H : Hh} (es : sg[j]? = some (some (.ref k))) (e : H[k]? = some (.exn c fs)) (hl : l.lookup c = some b) : xUn (gIsX l) (xVar j) sg H = .ok (.bl b) H := by
  have vj : xVar j sg H = .ok (.ref k) H := by rw [var_ap, es]; rfl
  rw [un_ap, vj]
  show Res.ofO (gIsX l H (.ref k)) H = _
  unfold gIsX
  simp [e, hl]
theorem three_ok {a b c : Ex} {x y z : Val} {sg : Sg} {H : Hh} (e1 : a sg H = .ok x H) (e2 : b sg H = .ok y H) (e3 : c sg H = .ok z H) : xLst (xCons a (xCons b (xCons c xNil))) sg H = .ok (.ref H.length) (H ++ [.lst [x, y, z]]) := by
  rw [lst_ap, cons_ap, e1, rl_ok, cons_ap, e2, rl_ok, cons_ap, e3, rl_ok]
  rfl
theorem two_ok {a b : Ex} {x y : Val} {sg : Sg} {H : Hh} (e1 : a sg H = .ok x H) (e2 : b sg H = .ok y H) : xLst (xCons a (xCons b xNil)) sg H = .ok (.ref H.length) (H ++ [.lst [x, y]]) := by
  rw [lst_ap, cons_ap, e1, rl_ok, cons_ap, e2, rl_ok]
  rfl
theorem isl {h : Hh} {k : Nat} {us : List Val} (e : h[k]? = some (.lst us)) : isTy "list" h (.ref k) = true := by
  unfold isTy lstOf
  simp [e]
theorem ext_ok {k j m : Nat} {us ws : List Val} {e : Ex} {sg : Sg} {h h1 : Hh} (es : sg[j]? = some (some (.ref k))) (e0 : h[k]? = some (.lst us)) (ee : e sg h = .ok (.ref m) h1) (e1 : h1[k]? = some (.lst us)) (e2 : h1[m]? = some (.lst ws)) (nm : k ≠ m) (z : us.length + ws.length ≤ 1000000) : xDrop (xBM "list" gExtendX (xVar j) (xCons e xNil)) sg h = .next sg (h1.set k (.lst (us ++ ws))) := by
  have vj : xVar j sg h = .ok (.ref k) h := by rw [var_ap, es]; rfl
  rw [drop_ap, bm_ap, vj]
  show ((if isTy "list" h (.ref k) = true then _ else _ : Res).bindS _ _) = _
  rw [isl e0, if_pos rfl, cons_ap, ee, rl_ok, nil_ap, ll_ok, lb_ok]
  have g : gExtendX h1 (.ref k) [.ref m] = some (.non, h1.set k (.lst (us ++ ws))) := by
    unfold gExtendX gExtend
    simp [mutOf, lstOf, e1, e2, z, nm]
  rw [g]
  rfl
theorem sorts_ok {k c : Nat} {fs : List Val} {H : Hh} (e : H[k]? = some (.exn c fs)) {b1 b2 b3 b4 b5 b6 b7 b8 b9 : Bool} (h1 : is_x_InvalidDay.lookup c = some b1) (h2 : is_x_InvalidRule.lookup c = some b2) (h3 : is_x_InvalidFrame.lookup c = some b3) (h4 : is_x_InvalidText.lookup c = some b4) (h5 : is_x_InvalidLooks.lookup c = some b5) (h6 : is_x_Refused.lookup c = some b6) (h7 : is_x_NoMeeting.lookup c = some b7) (h8 : is_x_InvalidSlot.lookup c = some b8) (h9 : is_x_InvalidCommand.lookup c = some b9) :
    ∃ H' : Hh, f_Lsorts H [.ref k] = .ok (.lst [.bl b1, .bl b2, .bl b3, .bl b4, .bl b5, .bl b6, .bl b7, .bl b8, .bl b9]) H' ∧ ∀ (j : Nat) (x : Py.Obj), H[j]? = some x → H'[j]? = some x := by
  have lk := hlt e
  have t1 := three_ok (isx_ok (j := 0) (sg := [some (.ref k), none]) rfl e h1) (isx_ok (j := 0) (sg := [some (.ref k), none]) rfl e h2) (isx_ok (j := 0) (sg := [some (.ref k), none]) rfl e h3)
  have s1 : xSet 1 (xLst (xCons (xUn (gIsX is_x_InvalidDay) (xVar 0)) (xCons (xUn (gIsX is_x_InvalidRule) (xVar 0)) (xCons (xUn (gIsX is_x_InvalidFrame) (xVar 0)) xNil)))) [some (.ref k), none] H = .next [some (.ref k), some (.ref H.length)] (H ++ [.lst [.bl b1, .bl b2, .bl b3]]) := by
    rw [set_ap, t1]
    rfl
  have e1 : (H ++ [Py.Obj.lst [.bl b1, .bl b2, .bl b3]])[k]? = some (.exn c fs) := hget_app e _
  have n1 : (H ++ [Py.Obj.lst [.bl b1, .bl b2, .bl b3]])[H.length]? = some (.lst [.bl b1, .bl b2, .bl b3]) := hget_end _ _
  have fr1 : ∀ j x, H[j]? = some x → (H ++ [Py.Obj.lst [.bl b1, .bl b2, .bl b3]])[j]? = some x ∧ j ≠ H.length := fun j x q => ⟨hget_app q _, by have := hlt q; omega⟩
  generalize H ++ [Py.Obj.lst [.bl b1, .bl b2, .bl b3]] = H1 at *
  generalize hn : H.length = n at *
  have nk : k ≠ n := by omega
  have t2 := three_ok (isx_ok (j := 0) (sg := [some (.ref k), some (.ref n)]) rfl e1 h4) (isx_ok (j := 0) (sg := [some (.ref k), some (.ref n)]) rfl e1 h5) (isx_ok (j := 0) (sg := [some (.ref k), some (.ref n)]) rfl e1 h6)
  have s2 := ext_ok (j := 1) (sg := [some (.ref k), some (.ref n)]) rfl n1 t2 (hget_app n1 _) (hget_end _ _) (by have := hlt n1; omega) (by simp)
  have e2 := hget_ne (y := .lst ([.bl b1, .bl b2, .bl b3] ++ [.bl b4, .bl b5, .bl b6])) (hget_app e1 [.lst [.bl b4, .bl b5, .bl b6]]) (Ne.symm nk)
  have n2 := hget_set (y := .lst ([.bl b1, .bl b2, .bl b3] ++ [.bl b4, .bl b5, .bl b6])) (hget_app n1 [.lst [.bl b4, .bl b5, .bl b6]])
  have fr2 : ∀ j x, H[j]? = some x → ((H1 ++ [Py.Obj.lst [.bl b4, .bl b5, .bl b6]]).set n (.lst ([.bl b1, .bl b2, .bl b3] ++ [.bl b4, .bl b5, .bl b6])))[j]? = some x := fun j x q => hget_ne (hget_app (fr1 j x q).1 _) (Ne.symm (fr1 j x q).2)
  generalize (H1 ++ [Py.Obj.lst [.bl b4, .bl b5, .bl b6]]).set n (.lst ([.bl b1, .bl b2, .bl b3] ++ [.bl b4, .bl b5, .bl b6])) = H2 at *
  have t3 := two_ok (isx_ok (j := 0) (sg := [some (.ref k), some (.ref n)]) rfl e2 h7) (isx_ok (j := 0) (sg := [some (.ref k), some (.ref n)]) rfl e2 h8)
  have s3 := ext_ok (j := 1) (sg := [some (.ref k), some (.ref n)]) rfl n2 t3 (hget_app n2 _) (hget_end _ _) (by have := hlt n2; omega) (by simp)
  have e3 := hget_ne (y := .lst ([.bl b1, .bl b2, .bl b3] ++ [.bl b4, .bl b5, .bl b6] ++ [.bl b7, .bl b8])) (hget_app e2 [.lst [.bl b7, .bl b8]]) (Ne.symm nk)
  have n3 := hget_set (y := .lst ([.bl b1, .bl b2, .bl b3] ++ [.bl b4, .bl b5, .bl b6] ++ [.bl b7, .bl b8])) (hget_app n2 [.lst [.bl b7, .bl b8]])
  have fr3 : ∀ j x, H[j]? = some x → ((H2 ++ [Py.Obj.lst [.bl b7, .bl b8]]).set n (.lst ([.bl b1, .bl b2, .bl b3] ++ [.bl b4, .bl b5, .bl b6] ++ [.bl b7, .bl b8])))[j]? = some x := fun j x q => hget_ne (hget_app (fr2 j x q) _) (Ne.symm (fr1 j x q).2)
  generalize (H2 ++ [Py.Obj.lst [.bl b7, .bl b8]]).set n (.lst ([.bl b1, .bl b2, .bl b3] ++ [.bl b4, .bl b5, .bl b6] ++ [.bl b7, .bl b8])) = H3 at *
  have c9 := isx_ok (j := 0) (sg := [some (.ref k), some (.ref n)]) rfl e3 h9
  have t4 : xLstF (xCons (xUn (gIsX is_x_InvalidCommand) (xVar 0)) xNil) [some (.ref k), some (.ref n)] H3 = .ok (.lst [.bl b9]) H3 := by
    rw [lstF_ap, cons_ap, c9, rl_ok]
    rfl
  have o := op_h (g := gPlusA) (fa := xVar 1) (x := .ref n) (z := .lst [.bl b1, .bl b2, .bl b3, .bl b4, .bl b5, .bl b6, .bl b7, .bl b8, .bl b9]) rfl t4 (by
    unfold gPlusA
    simp [lstOf, n3])
  refine ⟨H3, ?_, fr3⟩
  refine fnOf_r rfl ?_
  show xSeq _ _ [some (.ref k), none] H = _
  rw [xSeq_n s1]
  refine (xSeq_n s2).trans ?_
  refine (xSeq_n s3).trans ?_
  rw [ret_ap, o]
  rfl
def S8b : Sx := (xSeq (xIfS (xOp gNe (xCallA f_Lsorts [] (xCons (xVar 9) xNil)) (xCompF [11] (xIRng1 (xCons (xC (.int 9)) xNil)) (gN 11) (xC (.bl true)) (xOp gEq (xVar 11) (xVar 8))))
 (xRet (xC (.bl false)))
 xSkip)
 (xSeq (xSet 10 (xAnd (xUn (gIsX is_x_DimError) (xVar 9)) (xUn (gIsX is_x_ValueError) (xVar 9))))
 (xIfS (xOr (xOp gNe (xVar 10) (xOp gNe (xVar 8) (xC (.int 6)))) (xOp gNe (xUn (gIsX is_x_IndexError) (xVar 9)) (xOp gEq (xVar 8) (xC (.int 6)))))
 (xRet (xC (.bl false)))
 xSkip)))
theorem S8_is : S8 = xFor (xIN (xCons (xOp gPlusA (xVar 5) (xLstF (xCons (xExn0 6) (xCons (xExn0 7) xNil)))) xNil)) (gTu 2 (gsCons (gN 8) (gsCons (gN 9) gsNil))) S8b := rfl
theorem ne_bool (h : Hh) (b : Bool) : gNe h (.bl b) (.bl b) = some (.bl false) := by cases b <;> rfl
theorem ne_bools (h : Hh) (b1 b2 b3 b4 b5 b6 b7 b8 b9 : Bool) : gNe h (.lst [.bl b1, .bl b2, .bl b3, .bl b4, .bl b5, .bl b6, .bl b7, .bl b8, .bl b9]) (.lst [.bl b1, .bl b2, .bl b3, .bl b4, .bl b5, .bl b6, .bl b7, .bl b8, .bl b9]) = some (.bl false) :=
  ne_of_dat (d := .list [.bool b1, .bool b2, .bool b3, .bool b4, .bool b5, .bool b6, .bool b7, .bool b8, .bool b9]) rfl rfl (by simp [PyData.eqv, PyData.eqvAll])
section
variable (x0 x1 x2 x3 x4 x5 x6 x7 x8 x9 x10 x11 : Option Val)
theorem round_key {i k c : Nat} {fs : List Val} {H : Hh} (e : H[k]? = some (.exn c fs)) {b1 b2 b3 b4 b5 b6 b7 b8 b9 bd bv bi : Bool} (h1 : is_x_InvalidDay.lookup c = some b1) (h2 : is_x_InvalidRule.lookup c = some b2) (h3 : is_x_InvalidFrame.lookup c = some b3) (h4 : is_x_InvalidText.lookup c = some b4) (h5 : is_x_InvalidLooks.lookup c = some b5) (h6 : is_x_Refused.lookup c = some b6) (h7 : is_x_NoMeeting.lookup c = some b7) (h8 : is_x_InvalidSlot.lookup c = some b8) (h9 : is_x_InvalidCommand.lookup c = some b9)
    (cmp : ((List.range 9).map fun (j : Nat) => Val.bl (decide ((j : Int) = (i : Int)))) = [.bl b1, .bl b2, .bl b3, .bl b4, .bl b5, .bl b6, .bl b7, .bl b8, .bl b9])
    (hd : is_x_DimError.lookup c = some bd) (hv : is_x_ValueError.lookup c = some bv) (hi : is_x_IndexError.lookup c = some bi) (e1 : (bd && bv) = !decide ((i : Int) = 6)) (e2 : bi = decide ((i : Int) = 6)) :
    ∃ (H' : Hh) (y10 : Option Val), (∀ (j : Nat) (x : Py.Obj), H[j]? = some x → H'[j]? = some x) ∧ bodyOf (gTu 2 (gsCons (gN 8) (gsCons (gN 9) gsNil))) S8b (.tup [.int (i : Int), .ref k]) [x0, x1, x2, x3, x4, x5, x6, x7, x8, x9, x10, x11] H = .next [x0, x1, x2, x3, x4, x5, x6, x7, some (.int (i : Int)), some (.ref k), y10, x11] H' := by
  obtain ⟨H1, q1, fr1⟩ := sorts_ok e h1 h2 h3 h4 h5 h6 h7 h8 h9
  have c1 : xCallA f_Lsorts [] (xCons (xVar 9) xNil) [x0, x1, x2, x3, x4, x5, x6, x7, some (.int (i : Int)), some (.ref k), x10, x11] H = .ok (.lst [.bl b1, .bl b2, .bl b3, .bl b4, .bl b5, .bl b6, .bl b7, .bl b8, .bl b9]) H1 := q1
  have c2 : xCompF [11] (xIRng1 (xCons (xC (.int 9)) xNil)) (gN 11) (xC (.bl true)) (xOp gEq (xVar 11) (xVar 8)) [x0, x1, x2, x3, x4, x5, x6, x7, some (.int (i : Int)), some (.ref k), x10, x11] H1 = .ok (.lst [.bl b1, .bl b2, .bl b3, .bl b4, .bl b5, .bl b6, .bl b7, .bl b8, .bl b9]) H1 := by
    have it : xIRng1 (xCons (xC (.int 9)) xNil) [x0, x1, x2, x3, x4, x5, x6, x7, some (.int (i : Int)), some (.ref k), x10, x11] H1 = .ok (.items ((List.range 9).map fun (j : Nat) => Val.int (j : Int))) H1 := rfl
    have wp : wipeG [x0, x1, x2, x3, x4, x5, x6, x7, some (.int (i : Int)), some (.ref k), x10, x11] [11] = [x0, x1, x2, x3, x4, x5, x6, x7, some (.int (i : Int)), some (.ref k), x10, none] := rfl
    have cm := comp_map (α := Nat) (enc := fun j => Val.int (j : Int)) (fun j => Val.bl (decide ((j : Int) = (i : Int)))) (g := gN 11) (t := xC (.bl true)) (e := xOp gEq (xVar 11) (xVar 8)) (sg := [x0, x1, x2, x3, x4, x5, x6, x7, some (.int (i : Int)), some (.ref k), x10, none]) (h := H1) (List.range 9) [] (fun j _ => ⟨[x0, x1, x2, x3, x4, x5, x6, x7, some (.int (i : Int)), some (.ref k), x10, some (.int (j : Int))], rfl, rfl, op_of rfl rfl (gEq_int _ _ _)⟩)
    rw [compF_ap, it, wp, comp_items, if_pos (by simp), cm, cmp]
    rfl
  have s1 : xIfS (xOp gNe (xCallA f_Lsorts [] (xCons (xVar 9) xNil)) (xCompF [11] (xIRng1 (xCons (xC (.int 9)) xNil)) (gN 11) (xC (.bl true)) (xOp gEq (xVar 11) (xVar 8)))) (xRet (xC (.bl false))) xSkip [x0, x1, x2, x3, x4, x5, x6, x7, some (.int (i : Int)), some (.ref k), x10, x11] H = .next [x0, x1, x2, x3, x4, x5, x6, x7, some (.int (i : Int)), some (.ref k), x10, x11] H1 := by
    rw [xIfS_f (op_h c1 c2 (ne_bools H1 b1 b2 b3 b4 b5 b6 b7 b8 b9))]
    rfl
  have ek := fr1 _ _ e
  have d1 := isx_ok (j := 9) (sg := [x0, x1, x2, x3, x4, x5, x6, x7, some (.int (i : Int)), some (.ref k), x10, x11]) rfl ek hd
  have d2 := isx_ok (j := 9) (sg := [x0, x1, x2, x3, x4, x5, x6, x7, some (.int (i : Int)), some (.ref k), x10, x11]) rfl ek hv
  have a2 : xAnd (xUn (gIsX is_x_DimError) (xVar 9)) (xUn (gIsX is_x_ValueError) (xVar 9)) [x0, x1, x2, x3, x4, x5, x6, x7, some (.int (i : Int)), some (.ref k), x10, x11] H1 = .ok (.bl (bd && bv)) H1 := by
    rw [and_ap, d1]
    cases bd
    · rfl
    · exact d2
  have s2 : xSet 10 (xAnd (xUn (gIsX is_x_DimError) (xVar 9)) (xUn (gIsX is_x_ValueError) (xVar 9))) [x0, x1, x2, x3, x4, x5, x6, x7, some (.int (i : Int)), some (.ref k), x10, x11] H1 = .next [x0, x1, x2, x3, x4, x5, x6, x7, some (.int (i : Int)), some (.ref k), some (.bl (!decide ((i : Int) = 6))), x11] H1 := by
    rw [set_ap, a2, e1]
    rfl
  have d3 := isx_ok (j := 9) (sg := [x0, x1, x2, x3, x4, x5, x6, x7, some (.int (i : Int)), some (.ref k), some (.bl (!decide ((i : Int) = 6))), x11]) rfl ek hi
  rw [e2] at d3
  have n6 : xOp gNe (xVar 8) (xC (.int 6)) [x0, x1, x2, x3, x4, x5, x6, x7, some (.int (i : Int)), some (.ref k), some (.bl (!decide ((i : Int) = 6))), x11] H1 = .ok (.bl (!decide ((i : Int) = 6))) H1 := op_of rfl rfl (gNe_int _ _ _)
  have q6 : xOp gEq (xVar 8) (xC (.int 6)) [x0, x1, x2, x3, x4, x5, x6, x7, some (.int (i : Int)), some (.ref k), some (.bl (!decide ((i : Int) = 6))), x11] H1 = .ok (.bl (decide ((i : Int) = 6))) H1 := op_of rfl rfl (gEq_int _ _ _)
  have o1 := op_h (g := gNe) (fa := xVar 10) (x := .bl (!decide ((i : Int) = 6))) rfl n6 (ne_bool H1 _)
  have o2 := op_h (g := gNe) d3 q6 (ne_bool H1 _)
  refine ⟨H1, some (.bl (!decide ((i : Int) = 6))), fr1, ?_⟩
  show S8b [x0, x1, x2, x3, x4, x5, x6, x7, some (.int (i : Int)), some (.ref k), x10, x11] H = _
  unfold S8b
  rw [xSeq_n s1, xSeq_n s2, xIfS_f (or_ff o1 o2)]
  rfl
def cs9 : List Nat := [1, 2, 3, 4, 5, 8, 9, 6, 7]
theorem round9 {i k c : Nat} {fs : List Val} {H : Hh} (hc : cs9[i]? = some c) (e : H[k]? = some (.exn c fs)) :
    ∃ (H' : Hh) (y10 : Option Val), (∀ (j : Nat) (x : Py.Obj), H[j]? = some x → H'[j]? = some x) ∧ bodyOf (gTu 2 (gsCons (gN 8) (gsCons (gN 9) gsNil))) S8b (.tup [.int (i : Int), .ref k]) [x0, x1, x2, x3, x4, x5, x6, x7, x8, x9, x10, x11] H = .next [x0, x1, x2, x3, x4, x5, x6, x7, some (.int (i : Int)), some (.ref k), y10, x11] H' := by
  match i, hc with
  | 0, hc => cases hc; exact round_key x0 x1 x2 x3 x4 x5 x6 x7 x8 x9 x10 x11 e rfl rfl rfl rfl rfl rfl rfl rfl rfl rfl rfl rfl rfl rfl rfl
  | 1, hc => cases hc; exact round_key x0 x1 x2 x3 x4 x5 x6 x7 x8 x9 x10 x11 e rfl rfl rfl rfl rfl rfl rfl rfl rfl rfl rfl rfl rfl rfl rfl
  | 2, hc => cases hc; exact round_key x0 x1 x2 x3 x4 x5 x6 x7 x8 x9 x10 x11 e rfl rfl rfl rfl rfl rfl rfl rfl rfl rfl rfl rfl rfl rfl rfl
  | 3, hc => cases hc; exact round_key x0 x1 x2 x3 x4 x5 x6 x7 x8 x9 x10 x11 e rfl rfl rfl rfl rfl rfl rfl rfl rfl rfl rfl rfl rfl rfl rfl
  | 4, hc => cases hc; exact round_key x0 x1 x2 x3 x4 x5 x6 x7 x8 x9 x10 x11 e rfl rfl rfl rfl rfl rfl rfl rfl rfl rfl rfl rfl rfl rfl rfl
  | 5, hc => cases hc; exact round_key x0 x1 x2 x3 x4 x5 x6 x7 x8 x9 x10 x11 e rfl rfl rfl rfl rfl rfl rfl rfl rfl rfl rfl rfl rfl rfl rfl
  | 6, hc => cases hc; exact round_key x0 x1 x2 x3 x4 x5 x6 x7 x8 x9 x10 x11 e rfl rfl rfl rfl rfl rfl rfl rfl rfl rfl rfl rfl rfl rfl rfl
  | 7, hc => cases hc; exact round_key x0 x1 x2 x3 x4 x5 x6 x7 x8 x9 x10 x11 e rfl rfl rfl rfl rfl rfl rfl rfl rfl rfl rfl rfl rfl rfl rfl
  | 8, hc => cases hc; exact round_key x0 x1 x2 x3 x4 x5 x6 x7 x8 x9 x10 x11 e rfl rfl rfl rfl rfl rfl rfl rfl rfl rfl rfl rfl rfl rfl rfl
  | i + 9, hc => simp [cs9] at hc
theorem rounds9 : ∀ (ks : List Nat) (i : Nat) (H : Hh) (x8 x9 x10 : Option Val), (∀ j k, ks[j]? = some k → ∃ c fs, cs9[i + j]? = some c ∧ H[k]? = some (.exn c fs)) →
    ∃ (H' : Hh) (y8 y9 y10 : Option Val), (∀ (j : Nat) (x : Py.Obj), H[j]? = some x → H'[j]? = some x) ∧ forItems (bodyOf (gTu 2 (gsCons (gN 8) (gsCons (gN 9) gsNil))) S8b) (enumF i (ks.map Val.ref)) [x0, x1, x2, x3, x4, x5, x6, x7, x8, x9, x10, x11] H = .next [x0, x1, x2, x3, x4, x5, x6, x7, y8, y9, y10, x11] H'
  | [], i, H, x8, x9, x10, _ => ⟨H, x8, x9, x10, fun _ _ e => e, rfl⟩
  | k :: ks, i, H, x8, x9, x10, hk => by
    obtain ⟨c, fs, hc, e⟩ := hk 0 k rfl
    obtain ⟨H1, y10, fr1, e1⟩ := round9 x0 x1 x2 x3 x4 x5 x6 x7 x8 x9 x10 x11 hc e
    obtain ⟨H2, z8, z9, z10, fr2, e2⟩ := rounds9 ks (i + 1) H1 (some (.int (i : Int))) (some (.ref k)) y10 (fun j k2 hj => by
      obtain ⟨c2, fs2, q1, q2⟩ := hk (j + 1) k2 (by simpa using hj)
      exact ⟨c2, fs2, by rw [show i + 1 + j = i + (j + 1) by omega]; exact q1, fr1 _ _ q2⟩)
    refine ⟨H2, z8, z9, z10, fun j x q => fr2 j x (fr1 j x q), ?_⟩
    show forItems _ (.tup [.int (i : Int), .ref k] :: enumF (i + 1) (ks.map Val.ref)) _ _ = _
    unfold forItems
    have e1' : bodyOf (gTu 2 (gsCons (gN 8) (gsCons (gN 9) gsNil))) S8b (.tup [.int (i : Int), .ref k]) [x0, x1, x2, x3, x4, x5, x6, x7, x8, x9, x10, x11] H = _ := e1
    rw [e1']
    exact e2
end
theorem turn (x0 x1 x3 : Option Val) (kb : Nat) (h : Hh) (a b : Int) (hk : h[kb]? = some (box a b)) (x4 x5 x6 x7 x8 x9 x10 x11 : Option Val) :
    ∃ (h' : Hh) (a' b' : Int) (r : Sg), h'[kb]? = some (box a' b') ∧ r.length = 8 ∧ inner [x0, x1, some (.ref kb), x3, x4, x5, x6, x7, x8, x9, x10, x11] h = .next (x0 :: x1 :: some (.ref kb) :: x3 :: r) h' := by
  obtain ⟨v, a1, b1, av, e1⟩ := draw_anyG1 TBf 8 5 (by decide) h kb a b hk
  have hb1 : (h.set kb (box a1 b1))[kb]? = some (box a1 b1) := hget_set hk
  have E1 : S1 [x0, x1, some (.ref kb), x3, x4, x5, x6, x7, x8, x9, x10, x11] h = .next [x0, x1, some (.ref kb), x3, some v, x5, x6, x7, x8, x9, x10, x11] (h.set kb (box a1 b1)) := by
    unfold S1
    rw [any_is, set_ap, callB_ap]
    show (callB TBf (anyG1 TBf 9) [.ref kb, .int 5] h).bindS _ _ = _
    rw [e1]
    rfl
  generalize h.set kb (box a1 b1) = h1 at *
  obtain ⟨dv, ed, wd, zd⟩ := z_dat [] 6 v av.zv (Nat.le_trans av.dp (by decide))
  have dt : ∀ (H : Hh) (m : Nat), 6 ≤ m → dat H m v = some dv := fun H m hm => by
    rw [dat_heap H m v av.ok]
    exact dat_le ed hm
  have zs : szZ dv ≤ 8744 := by rw [zd]; exact av.sz
  have m2 := made_ok v h1
  have E2 : S2 [x0, x1, some (.ref kb), x3, some v, x5, x6, x7, x8, x9, x10, x11] h1 = .next [x0, x1, some (.ref kb), x3, some v, some (.lst (refs h1.length)), x6, x7, x8, x9, x10, x11] (h1 ++ exs v) := by
    unfold S2
    rw [set_ap]
    show (f_Lmade h1 [v]).bindS _ _ = _
    rw [m2]
    rfl
  have ex2 : ∀ i c, cs7[i]? = some c → (h1 ++ exs v)[h1.length + i]? = some (.exn c [v]) := fun i c hc => exs_at v h1 hc
  have hb2 : (h1 ++ exs v)[kb]? = some (box a1 b1) := hget_app hb1 _
  generalize hn1 : h1.length = n1 at *
  generalize h1 ++ exs v = h2 at *
  have k3 := kept_ok ex2
  have c3 : xCallA f_Lkept [] (xCons (xVar 5) xNil) [x0, x1, some (.ref kb), x3, some v, some (.lst (refs n1)), x6, x7, x8, x9, x10, x11] h2 = .ok (.lst (List.replicate 7 v)) h2 := k3
  have r3 := rows_re (v := v) (e := xVar 4) (k := 7) (by omega) (sg := [x0, x1, some (.ref kb), x3, some v, some (.lst (refs n1)), x6, x7, x8, x9, x10, x11]) (h := h2) rfl
  have hj3 : (h2 ++ [Py.Obj.lst [v]] ++ [Py.Obj.lst (List.replicate 7 v)])[h2.length + 1]? = some (.lst (List.replicate 7 v)) := by
    have := hget_end (h2 ++ [Py.Obj.lst [v]]) (.lst (List.replicate 7 v))
    simpa using this
  have fr3 : ∀ j x, h2[j]? = some x → (h2 ++ [Py.Obj.lst [v]] ++ [Py.Obj.lst (List.replicate 7 v)])[j]? = some x := fun j x e => hget_app (hget_app e _) _
  generalize h2 ++ [Py.Obj.lst [v]] ++ [Py.Obj.lst (List.replicate 7 v)] = h3 at *
  obtain ⟨w7, z7⟩ := rows_wz wd 7
  have E3 : S3 [x0, x1, some (.ref kb), x3, some v, some (.lst (refs n1)), x6, x7, x8, x9, x10, x11] h2 = .next [x0, x1, some (.ref kb), x3, some v, some (.lst (refs n1)), x6, x7, x8, x9, x10, x11] h3 := by
    have o := repr_ne (b := xOpH gRepA (xLst (xCons (xVar 4) xNil)) (xC (.int 7))) (d := .list (List.replicate 7 dv)) (by simpa [wZ] using w7) (by simp only [szZ, z7]; omega) c3 r3 (rows_lst (dt h2 29 (by omega)) 7) (rows_ref (dt h3 29 (by omega)) hj3)
    unfold S3
    rw [xIfS_f o]
    rfl
  have E4 : S4 [x0, x1, some (.ref kb), x3, some v, some (.lst (refs n1)), x6, x7, x8, x9, x10, x11] h3 = .next [x0, x1, some (.ref kb), x3, some v, some (.lst (refs n1)), some (.ref h3.length), x7, x8, x9, x10, x11] (h3 ++ [.lst [v]]) := rfl
  have fr4 : ∀ j x, h3[j]? = some x → (h3 ++ [Py.Obj.lst [v]])[j]? = some x := fun j x e => hget_app e _
  have hh4 : (h3 ++ [Py.Obj.lst [v]])[h3.length]? = some (.lst [v]) := hget_end _ _
  have far : ∀ j x, h3[j]? = some x → j ≠ h3.length := fun j x e => by have := hlt e; omega
  generalize h3 ++ [Py.Obj.lst [v]] = h4 at *
  generalize h3.length = kh at *
  have m5 := made_ok (.ref kh) h4
  have E5 : S5 [x0, x1, some (.ref kb), x3, some v, some (.lst (refs n1)), some (.ref kh), x7, x8, x9, x10, x11] h4 = .next [x0, x1, some (.ref kb), x3, some v, some (.lst (refs n1)), some (.ref kh), some (.lst (refs h4.length)), x8, x9, x10, x11] (h4 ++ exs (.ref kh)) := by
    unfold S5
    rw [set_ap]
    show (f_Lmade h4 [.ref kh]).bindS _ _ = _
    rw [m5]
    rfl
  have ex5 : ∀ i c, cs7[i]? = some c → (h4 ++ exs (.ref kh))[h4.length + i]? = some (.exn c [.ref kh]) := fun i c hc => exs_at (.ref kh) h4 hc
  have fr5 : ∀ j x, h4[j]? = some x → (h4 ++ exs (.ref kh))[j]? = some x := fun j x e => hget_app e _
  have far5 : kh < h4.length := hlt hh4
  generalize h4.length = n4 at *
  generalize h4 ++ exs (.ref kh) = h5 at *
  have hh5 := fr5 _ _ hh4
  have E6 : S6 [x0, x1, some (.ref kb), x3, some v, some (.lst (refs n1)), some (.ref kh), some (.lst (refs n4)), x8, x9, x10, x11] h5 = .next [x0, x1, some (.ref kb), x3, some v, some (.lst (refs n1)), some (.ref kh), some (.lst (refs n4)), x8, x9, x10, x11] (h5.set kh (.lst [v, .int 5])) := by
    have vj : xVar 6 [x0, x1, some (.ref kb), x3, some v, some (.lst (refs n1)), some (.ref kh), some (.lst (refs n4)), x8, x9, x10, x11] h5 = .ok (.ref kh) h5 := rfl
    have ap : gAppend h5 (.ref kh) [.int 5] = some (.non, h5.set kh (.lst ([v] ++ [.int 5]))) := by
      unfold gAppend mutOf
      simp [hh5]
    unfold S6
    rw [drop_ap, bm_ap, vj]
    show ((if isTy "list" h5 (.ref kh) = true then _ else _ : Res).bindS _ _) = _
    rw [isl hh5, if_pos rfl, cons_ap]
    show (((Res.ok (.int 5) h5).bindL _).bind _).bindS _ _ = _
    rw [rl_ok, nil_ap, ll_ok, lb_ok, ap]
    rfl
  have hh6 : (h5.set kh (.lst [v, .int 5]))[kh]? = some (.lst [v, .int 5]) := hget_set hh5
  have ex6 : ∀ i c, cs7[i]? = some c → (h5.set kh (.lst [v, .int 5]))[n4 + i]? = some (.exn c [.ref kh]) := fun i c hc => hget_ne (ex5 i c hc) (by omega)
  have fr6 : ∀ j x, h3[j]? = some x → (h5.set kh (.lst [v, .int 5]))[j]? = some x := fun j x e => hget_ne (fr5 _ _ (fr4 _ _ e)) (Ne.symm (far j x e))
  generalize h5.set kh (.lst [v, .int 5]) = h6 at *
  have k7 := kept_ok ex6
  have c7 : xCallA f_Lkept [] (xCons (xVar 7) xNil) [x0, x1, some (.ref kb), x3, some v, some (.lst (refs n1)), some (.ref kh), some (.lst (refs n4)), x8, x9, x10, x11] h6 = .ok (.lst (List.replicate 7 (.ref kh))) h6 := k7
  have r7 := rows_re (v := .lst [v, .int 5]) (e := xLstF (xCons (xVar 4) (xCons (xC (.int 5)) xNil))) (k := 7) (by omega) (sg := [x0, x1, some (.ref kb), x3, some v, some (.lst (refs n1)), some (.ref kh), some (.lst (refs n4)), x8, x9, x10, x11]) (h := h6) rfl
  have hj7 : (h6 ++ [Py.Obj.lst [.lst [v, .int 5]]] ++ [Py.Obj.lst (List.replicate 7 (.lst [v, .int 5]))])[h6.length + 1]? = some (.lst (List.replicate 7 (.lst [v, .int 5]))) := by
    have := hget_end (h6 ++ [Py.Obj.lst [.lst [v, .int 5]]]) (.lst (List.replicate 7 (.lst [v, .int 5])))
    simpa using this
  have fr7 : ∀ j x, h6[j]? = some x → (h6 ++ [Py.Obj.lst [.lst [v, .int 5]]] ++ [Py.Obj.lst (List.replicate 7 (.lst [v, .int 5]))])[j]? = some x := fun j x e => hget_app (hget_app e _) _
  generalize h6 ++ [Py.Obj.lst [.lst [v, .int 5]]] ++ [Py.Obj.lst (List.replicate 7 (.lst [v, .int 5]))] = h7 at *
  have two : ∀ (H : Hh) (m : Nat), 6 ≤ m → ([v, .int 5] : List Val).mapM (dat H (m + 1)) = some [dv, .int 5] := fun H m hm => by
    rw [List.mapM_cons, dt H (m + 1) (by omega)]
    rfl
  have d6 : dat h6 29 (.ref kh) = some (.list [dv, .int 5]) := by
    show (match h6[kh]? with
      | some (.lst vs) => (vs.mapM (dat h6 28)).map PyData.list
      | _ => none) = _
    rw [hh6]
    dsimp only
    rw [two h6 27 (by omega)]
    rfl
  have d7 : dat h7 29 (.lst [v, .int 5]) = some (.list [dv, .int 5]) := by
    show (([v, .int 5] : List Val).mapM (dat h7 28)).map PyData.list = _
    rw [two h7 27 (by omega)]
    rfl
  have w5 : wZ (.list [dv, .int 5]) = true := by simp [wZ, wZs, wd]
  have z5 : szZ (.list [dv, .int 5]) ≤ 8746 := by simp only [szZ, szZs]; omega
  obtain ⟨w75, z75⟩ := rows_wz w5 7
  have E7 : S7 [x0, x1, some (.ref kb), x3, some v, some (.lst (refs n1)), some (.ref kh), some (.lst (refs n4)), x8, x9, x10, x11] h6 = .next [x0, x1, some (.ref kb), x3, some v, some (.lst (refs n1)), some (.ref kh), some (.lst (refs n4)), x8, x9, x10, x11] h7 := by
    have o := repr_ne (b := xOpH gRepA (xLst (xCons (xLstF (xCons (xVar 4) (xCons (xC (.int 5)) xNil))) xNil)) (xC (.int 7))) (d := .list (List.replicate 7 (.list [dv, .int 5]))) (by simpa [wZ] using w75) (by
      have : szZ (.list (List.replicate 7 (.list [dv, .int 5]))) = 7 * szZ (.list [dv, .int 5]) + 1 := by rw [← z75]; simp [szZ]
      rw [this]
      omega) c7 r7 (rows_lst d6 7) (rows_ref d7 hj7)
    unfold S7
    rw [xIfS_f o]
    rfl
  have frA : ∀ j x, h2[j]? = some x → h7[j]? = some x := fun j x e => fr7 _ _ (fr6 _ _ (fr3 _ _ e))
  have it : xIN (xCons (xOp gPlusA (xVar 5) (xLstF (xCons (xExn0 6) (xCons (xExn0 7) xNil)))) xNil) [x0, x1, some (.ref kb), x3, some v, some (.lst (refs n1)), some (.ref kh), some (.lst (refs n4)), x8, x9, x10, x11] h7 = .ok (.items (enumF 0 (([n1 + 0, n1 + 1, n1 + 2, n1 + 3, n1 + 4, n1 + 5, n1 + 6, h7.length, (h7 ++ [Py.Obj.exn 6 []]).length] : List Nat).map Val.ref))) (h7 ++ [.exn 6 []] ++ [.exn 7 []]) := rfl
  have hx6 : (h7 ++ [Py.Obj.exn 6 []] ++ [Py.Obj.exn 7 []])[h7.length]? = some (.exn 6 []) := hget_app (hget_end _ _) _
  have hx7 : (h7 ++ [Py.Obj.exn 6 []] ++ [Py.Obj.exn 7 []])[(h7 ++ [Py.Obj.exn 6 []]).length]? = some (.exn 7 []) := hget_end _ _
  have fr8 : ∀ j x, h7[j]? = some x → (h7 ++ [Py.Obj.exn 6 []] ++ [Py.Obj.exn 7 []])[j]? = some x := fun j x e => hget_app (hget_app e _) _
  generalize h7 ++ [Py.Obj.exn 6 []] ++ [Py.Obj.exn 7 []] = h8 at *
  generalize (h7 ++ [Py.Obj.exn 6 []]).length = m2' at *
  generalize h7.length = m1' at *
  obtain ⟨h9, y8, y9, y10, fr9, e9⟩ := rounds9 x0 x1 (some (.ref kb)) x3 (some v) (some (.lst (refs n1))) (some (.ref kh)) (some (.lst (refs n4))) x11 [n1 + 0, n1 + 1, n1 + 2, n1 + 3, n1 + 4, n1 + 5, n1 + 6, m1', m2'] 0 h8 x8 x9 x10 (fun j k hj => by
    match j, hj with
    | 0, hj => cases hj; exact ⟨1, [v], rfl, fr8 _ _ (frA _ _ (ex2 0 1 rfl))⟩
    | 1, hj => cases hj; exact ⟨2, [v], rfl, fr8 _ _ (frA _ _ (ex2 1 2 rfl))⟩
    | 2, hj => cases hj; exact ⟨3, [v], rfl, fr8 _ _ (frA _ _ (ex2 2 3 rfl))⟩
    | 3, hj => cases hj; exact ⟨4, [v], rfl, fr8 _ _ (frA _ _ (ex2 3 4 rfl))⟩
    | 4, hj => cases hj; exact ⟨5, [v], rfl, fr8 _ _ (frA _ _ (ex2 4 5 rfl))⟩
    | 5, hj => cases hj; exact ⟨8, [v], rfl, fr8 _ _ (frA _ _ (ex2 5 8 rfl))⟩
    | 6, hj => cases hj; exact ⟨9, [v], rfl, fr8 _ _ (frA _ _ (ex2 6 9 rfl))⟩
    | 7, hj => cases hj; exact ⟨6, [], rfl, hx6⟩
    | 8, hj => cases hj; exact ⟨7, [], rfl, hx7⟩
    | j + 9, hj => simp at hj)
  have E8 : S8 [x0, x1, some (.ref kb), x3, some v, some (.lst (refs n1)), some (.ref kh), some (.lst (refs n4)), x8, x9, x10, x11] h7 = .next [x0, x1, some (.ref kb), x3, some v, some (.lst (refs n1)), some (.ref kh), some (.lst (refs n4)), y8, y9, y10, x11] h9 := by
    rw [S8_is, for_ap, it, loop_items]
    exact e9
  refine ⟨h9, a1, b1, [some v, some (.lst (refs n1)), some (.ref kh), some (.lst (refs n4)), y8, y9, y10, x11], fr9 _ _ (fr8 _ _ (frA _ _ hb2)), rfl, ?_⟩
  unfold inner
  rw [xSeq_n E1, xSeq_n E2, xSeq_n E3, xSeq_n E4, xSeq_n E5, xSeq_n E6, xSeq_n E7, E8]
theorem turns (x0 x1 : Option Val) (kb : Nat) : ∀ (vs : List Val) (x3 : Option Val) (r : Sg) (h : Hh) (a b : Int), r.length = 8 → h[kb]? = some (box a b) →
    ∃ (h' : Hh) (a' b' : Int) (y3 : Option Val) (r' : Sg), h'[kb]? = some (box a' b') ∧ r'.length = 8 ∧ forItems (bodyOf (gN 3) inner) vs (x0 :: x1 :: some (.ref kb) :: x3 :: r) h = .next (x0 :: x1 :: some (.ref kb) :: y3 :: r') h'
  | [], x3, r, h, a, b, hr, hk => ⟨h, a, b, x3, r, hk, hr, rfl⟩
  | v :: vs, x3, r, h, a, b, hr, hk => by
    match r, hr with
    | [x4, x5, x6, x7, x8, x9, x10, x11], _ =>
      obtain ⟨h1, a1, b1, r1, k1, hr1, e1⟩ := turn x0 x1 (some v) kb h a b hk x4 x5 x6 x7 x8 x9 x10 x11
      obtain ⟨h2, a2, b2, y3, r2, k2, hr2, e2⟩ := turns x0 x1 kb vs (some v) r1 h1 a1 b1 hr1 k1
      refine ⟨h2, a2, b2, y3, r2, k2, hr2, ?_⟩
      unfold forItems
      have eb : bodyOf (gN 3) inner v (x0 :: x1 :: some (.ref kb) :: x3 :: [x4, x5, x6, x7, x8, x9, x10, x11]) h = inner [x0, x1, some (.ref kb), some v, x4, x5, x6, x7, x8, x9, x10, x11] h := rfl
      rw [eb, e1]
      exact e2
theorem law_says (ns : List Int) : ∃ h', f_law [] [.lst (ns.map Val.int)] = .ok (.bl true) h' := by
  rw [law_is]
  refine law_loop3 (m := 10) (fun sg => ?_) (fun k r h hr => ?_) (fun x r o t hr => ?_)
  · refine ⟨(if (2 : Int) < if (ns.length : Int) < 5 then (ns.length : Int) else 5 then if (ns.length : Int) < 5 then (ns.length : Int) else 5 else 2), ?_, ?_, ?_⟩
    · unfold cnt
      simp [gMax2, gMin2, gLenX, dctOf, gLen, lstOf]
    · unfold small62; split <;> split <;> simp <;> omega
    · split <;> split <;> omega
  · match r, hr with
    | x2 :: x3 :: r, hr =>
      obtain ⟨a, b, e⟩ := callO_seed TBf 40093 (by decide) ns k h
      have E0 : outer0 (some (.lst (ns.map Val.int)) :: some (.int k) :: x2 :: x3 :: r) h = .next (some (.lst (ns.map Val.int)) :: some (.int k) :: some (.ref h.length) :: x3 :: r) (h ++ [box a b]) := by
        unfold outer0
        rw [seed_is]
        simp [e]
      obtain ⟨h1, a1, b1, y3, r1, k1, hr1, e1⟩ := turns (some (.lst (ns.map Val.int))) (some (.int k)) h.length (rng 0 6) x3 r (h ++ [box a b]) a b (by simpa using hr) (hget_end _ _)
      cases h1 with
      | nil => simp at k1
      | cons o t =>
        refine ⟨some (.ref h.length) :: y3 :: r1, o, t, ?_, by simp [hr1]⟩
        unfold outer
        rw [xSeq_n E0, for_ap]
        have it : ∀ sg : Sg, ∀ H, xIRng1 (xCons (xC (.int 6)) xNil) sg H = .ok (.items (rng 0 6)) H := fun _ _ => rfl
        rw [it, loop_items]
        exact e1
  · exact ⟨o :: t, rfl⟩
end Law
theorem PySem.Challenge.cw_dimdays_k01_errors_and_what_they_keep_holds : PySem.Challenge.rw_dimdays_k01_errors_and_what_they_keep.Holds := by
  exact Law.ends fun ns _ _ => Law.law_says ns
