import PyProof.Rows.All
import Wide.All
import OpenK.AllK
import Wide.FinOn
import HandS.Base
import HandS.Lambda
import HandS.Call
import HandS.List
import HandS.Comp
import HandS.Ends
import HandS.Dict
import HandS.Iter
import HandS.Text
import HandS.Exc
import HandS.Words
import HandS.Defaults
import HandS.HeadHook2
import KE.KDictKeyed
import HandS.ExcOwn
import HandS.CallSlots
import HandS.HeadEnd
import HandS.EndBits
import HandS.IsInst
import HandS.Property
import HandS.Star
import HandS.SortRule
import KE.KSortTupAny
import HandS.Head2
import HandS.TryOnly
import HandS.FStr
import HandS.TupAny
import HandS.More
import HandS.RaiseMore
import HandS.OwnEq
import KE.KCallOwn
import PyProof.InstNe
import HandS.Conv
import HandS.Style
import HandS.Deep
import HandS.ClsMeth
import KE.KExcSuper
import KE.KExcInit
import KE.KNest
import HandS.DictComp
import KE.GoesEnum
import KE.GoesZip
import HandS.MakeKwOnly
import HandS.Strs
import HandS.Replace
import HandS.ReplaceLit
import HandS.ReplaceDef
import PyProof.ToksMono
import HandS.NoneIn
import HandS.SetFor
import KE.KDictCopyH
import KE.SortData
import PyProof.AutoSeq1
import PyProof.SliceList
import KE.KDictSum
import PyProof.DictMoreH
import KE.DataCmp
import KE.DataFind
import HandS.ExcInit
import HandS.ExcSuper
import HandS.ExcIs
import HandS.TryMany
import PyProof.ExcBaseAll.IndexError
import KE.KExcIs
import PyProof.DictUpdate
import KE.KStar
import KE.KParD
import PyProof.NeKinds
import PyProof.P3Eq
import PyProof.ExcBaseAll.ValueError
import HandS.TupMul
import HandS.EndTab
import PySem.Challenge.RW_dimdays_k05_days_with_one_meeting_more_o
set_option Elab.async false
set_option linter.all false
set_option maxRecDepth 100000
set_option maxHeartbeats 4000000
namespace Py
open PySem PySem.Spec PyProof.Rows L2
inductive Val where
  | non | bl (b : Bool) | int (i : Int) | str (s : List Nat) | tup (xs : List Val) | lst (xs : List Val) | obj (c : Nat) (fs : List Val) | ref (k : Nat) | glo (g : Nat) | dct (ks vs : List Val)
inductive Obj where
  | lst (xs : List Val) | ins (c : Nat) (fs : List Val) | dct (ks vs : List Val)
abbrev Hh := List Obj
abbrev Sg := List (Option Val)
inductive Res where
  | ok (v : Val) (h : Hh) | exc (c : Nat) (fs : List Val) (h : Hh) | bad
inductive ResS where
  | next (sg : Sg) (h : Hh) | ret (v : Val) (h : Hh) | brk (sg : Sg) (h : Hh) | cont (sg : Sg) (h : Hh) | exc (c : Nat) (fs : List Val) (sg : Sg) (h : Hh) | bad
inductive ResG where
  | ok (sg : Sg) (h : Hh) | bad
inductive ResL where
  | ok (vs : List Val) (h : Hh) | exc (c : Nat) (fs : List Val) (h : Hh) | bad
abbrev Ex := Sg → Hh → Res
abbrev Sx := Sg → Hh → ResS
abbrev Gx := Val → Sg → Hh → ResG
abbrev Lx := Sg → Hh → ResL
def Res.bind : Res → (Val → Hh → Res) → Res
  | .ok v h, k => k v h
  | .exc c fs h, _ => .exc c fs h
  | .bad, _ => .bad
def Res.bindS (sg : Sg) : Res → (Val → Hh → ResS) → ResS
  | .ok v h, k => k v h
  | .exc c fs h, _ => .exc c fs sg h
  | .bad, _ => .bad
def Res.bindL : Res → (Val → Hh → ResL) → ResL
  | .ok v h, k => k v h
  | .exc c fs h, _ => .exc c fs h
  | .bad, _ => .bad
def ResL.bind : ResL → (List Val → Hh → Res) → Res
  | .ok v h, k => k v h
  | .exc c fs h, _ => .exc c fs h
  | .bad, _ => .bad
def ResL.bindL : ResL → (List Val → Hh → ResL) → ResL
  | .ok v h, k => k v h
  | .exc c fs h, _ => .exc c fs h
  | .bad, _ => .bad
def ResG.bindS : ResG → (Sg → Hh → ResS) → ResS
  | .ok sg h, k => k sg h
  | .bad, _ => .bad
structure Tb where
  cn : Nat → Str
  fn : Nat → List Str
  gn : Nat → Str
  P : Program
  w : World
  ts : List (Addr × Str)
mutual
def nkV : Val → Option NestedKey
  | .non => some .none
  | .bl b => some (.num (if b = true then 1 else 0))
  | .int i => some (.num i)
  | .str s => some (.text ⟨s.toArray⟩)
  | .tup vs => (nkVs vs).map .tup
  | _ => none
def nkVs : List Val → Option (List NestedKey)
  | [] => some []
  | v :: vs => match nkV v, nkVs vs with
    | some a, some b => some (a :: b)
    | _, _ => none
end
def KeyT (k : Val) : Prop := ∃ l, nkV k = some (.tup l) ∧ (NestedKey.tup l).depth ≤ 8
def KeyL (k : Val) : Prop := (∃ i, k = .int i) ∨ ∃ s, k = .str s
def KeysOk (ks : List Val) : Prop := ((∀ k ∈ ks, KeyT k) ∨ (∀ k ∈ ks, KeyL k)) ∧ (ks.map nkV).Nodup
def hashV (w : World) (k : Val) : Int := match nkV k with
  | some n => n.hash w
  | none => 0
def DO (d : Addr) (es : Array DictEntry) (ep : Nat) : HO := .ext fun h => (d == sysModules) = false ∧ es.size ≤ sizeLine ∧ ∃ o, h.get? d = some o ∧ o.ExactDict ∧ o.data = .dict es ep
def Ents (w : World) : List DictEntry → List Val → List V → List V → Prop
  | [], [], [], [] => True
  | e :: es, k :: ks, x :: xs, y :: ys => (e.hash = hashV w k ∧ RelV x e.key ∧ RelV y e.val) ∧ Ents w es ks xs ys
  | _, _, _, _ => False
mutual
inductive VR (T : Tb) (K : PySem.W.Frag) (io : Nat → Addr) (n : Nat) (F : Hp) : Val → V → Prop where
  | non : VR T K io n F .non .non
  | bl (b : Bool) : VR T K io n F (.bl b) (.bl b)
  | int (i : Int) : VR T K io n F (.int i) (.int i)
  | str (s : List Nat) : VR T K io n F (.str s) (.str ⟨s.toArray⟩)
  | ref (k : Nat) (h : k < n) : VR T K io n F (.ref k) (.ref (io k))
  | tup {vs : List Val} {a : Addr} {xs : List V} (h : SqT K F a xs) (r : VRs T K io n F vs xs) : VR T K io n F (.tup vs) (.ref a)
  | lst {vs : List Val} {a : Addr} {xs : List V} (h : SqL K F a xs) (r : VRs T K io n F vs xs) : VR T K io n F (.lst vs) (.ref a)
  | obj {c : Nat} {vs : List Val} {a dx : Addr} {xs : List V} (h : F a = some (.ins (He.ga K (T.cn c)) dx ((T.fn c).zip xs))) (hd : F dx = some (.own a)) (r : VRs T K io n F vs xs) (hl : xs.length = (T.fn c).length ∧ PySem.W.makesIn K (He.ga K (T.cn c)) = true) : VR T K io n F (.obj c vs) (.ref a)
  | glo (g : Nat) : VR T K io n F (.glo g) (.ref (He.ga K (T.gn g)))
  | dct {ks vs : List Val} {a : Addr} {es : Array DictEntry} {ep : Nat} {xs ys : List V} (h : F a = some (DO a es ep)) (hk : KeysOk ks) (he : Ents T.w es.toList ks xs ys) (r1 : VRs T K io n F ks xs) (r2 : VRs T K io n F vs ys) : VR T K io n F (.dct ks vs) (.ref a)
inductive VRs (T : Tb) (K : PySem.W.Frag) (io : Nat → Addr) (n : Nat) (F : Hp) : List Val → List V → Prop where
  | nil : VRs T K io n F [] []
  | cons {v : Val} {x : V} {vs : List Val} {xs : List V} (h : VR T K io n F v x) (t : VRs T K io n F vs xs) : VRs T K io n F (v :: vs) (x :: xs)
end
section
variable {T : Tb} {K : PySem.W.Frag} {io io' : Nat → Addr} {n n' : Nat} {F F' H H' : Hp}
theorem sqT_mono (hF : ∀ b o, F b = some o → F' b = some o) {a : Addr} {xs : List V} (h : SqT K F a xs) : SqT K F' a xs := by
  rcases h with (h | ⟨o, h⟩) | h
  · exact .inl (.inl (hF _ _ h))
  · exact .inl (.inr ⟨o, hF _ _ h⟩)
  · exact .inr h
theorem sqL_mono (hF : ∀ b o, F b = some o → F' b = some o) {a : Addr} {xs : List V} (h : SqL K F a xs) : SqL K F' a xs := by
  rcases h with (h | ⟨o, h⟩) | h
  · exact .inl (.inl (hF _ _ h))
  · exact .inl (.inr ⟨o, hF _ _ h⟩)
  · exact .inr h
mutual
theorem VR.mono (hn : n ≤ n') (hi : ∀ k, k < n → io' k = io k) (hF : ∀ b o, F b = some o → F' b = some o) : ∀ {v : Val} {x : V}, VR T K io n F v x → VR T K io' n' F' v x
  | _, _, .non => .non
  | _, _, .bl b => .bl b
  | _, _, .int i => .int i
  | _, _, .str s => .str s
  | _, _, .ref k h => by rw [← hi k h]; exact .ref k (Nat.lt_of_lt_of_le h hn)
  | _, _, .tup h r => .tup (sqT_mono hF h) (VRs.mono hn hi hF r)
  | _, _, .lst h r => .lst (sqL_mono hF h) (VRs.mono hn hi hF r)
  | _, _, .obj h hd r hl => .obj (hF _ _ h) (hF _ _ hd) (VRs.mono hn hi hF r) hl
  | _, _, .glo g => .glo g
  | _, _, .dct h hk he r1 r2 => .dct (hF _ _ h) hk he (VRs.mono hn hi hF r1) (VRs.mono hn hi hF r2)
theorem VRs.mono (hn : n ≤ n') (hi : ∀ k, k < n → io' k = io k) (hF : ∀ b o, F b = some o → F' b = some o) : ∀ {v : List Val} {x : List V}, VRs T K io n F v x → VRs T K io' n' F' v x
  | _, _, .nil => .nil
  | _, _, .cons h t => .cons (VR.mono hn hi hF h) (VRs.mono hn hi hF t)
end
theorem VRs.length : ∀ {vs : List Val} {xs : List V}, VRs T K io n F vs xs → vs.length = xs.length
  | _, _, .nil => rfl
  | _, _, .cons _ t => congrArg Nat.succ (VRs.length t)
theorem VRs.append : ∀ {vs ws : List Val} {xs ys : List V}, VRs T K io n F vs xs → VRs T K io n F ws ys → VRs T K io n F (vs ++ ws) (xs ++ ys)
  | _, _, _, _, .nil, h => h
  | _, _, _, _, .cons a t, h => .cons a (VRs.append t h)
theorem VRs.get : ∀ {vs : List Val} {xs : List V} {i : Nat} {v : Val}, VRs T K io n F vs xs → vs[i]? = some v → ∃ x, xs[i]? = some x ∧ VR T K io n F v x
  | _, _, _, _, .nil, h => by simp at h
  | _, _, 0, _, .cons a t, h => by simp at h; subst h; exact ⟨_, rfl, a⟩
  | _, _, i + 1, v, .cons a t, h => by
    obtain ⟨x, e, r⟩ := VRs.get (i := i) (v := v) t (by simpa using h)
    exact ⟨x, by simpa using e, r⟩
theorem VRs.set {v : Val} {x : V} (r : VR T K io n F v x) : ∀ {vs : List Val} {xs : List V} (i : Nat), VRs T K io n F vs xs → VRs T K io n F (vs.set i v) (xs.set i x)
  | _, _, _, .nil => .nil
  | _, _, 0, .cons _ t => .cons r t
  | _, _, i + 1, .cons a t => .cons a (VRs.set r i t)
theorem VRs.take : ∀ {vs : List Val} {xs : List V} (i : Nat), VRs T K io n F vs xs → VRs T K io n F (vs.take i) (xs.take i)
  | _, _, 0, _ => .nil
  | _, _, _ + 1, .nil => .nil
  | _, _, i + 1, .cons a t => .cons a (VRs.take i t)
theorem VRs.drop : ∀ {vs : List Val} {xs : List V} (i : Nat), VRs T K io n F vs xs → VRs T K io n F (vs.drop i) (xs.drop i)
  | _, _, 0, h => h
  | _, _, _ + 1, .nil => .nil
  | _, _, i + 1, .cons a t => VRs.drop i t
end
def OR (T : Tb) (K : PySem.W.Frag) (io : Nat → Addr) (n : Nat) (F H : Hp) (a : Addr) : Obj → Prop
  | .lst vs => ∃ xs, H a = some (.lst xs) ∧ VRs T K io n F vs xs
  | .dct ks vs => ∃ es ep xs ys, H a = some (DO a es ep) ∧ (ep = es.size ∧ KeysOk ks) ∧ Ents T.w es.toList ks xs ys ∧ VRs T K io n F ks xs ∧ VRs T K io n F vs ys
  | .ins c vs => ∃ dx xs, H a = some (.ins (He.ga K (T.cn c)) dx (((T.fn c).take vs.length).zip xs)) ∧ H dx = some (.own a) ∧ VRs T K io n F vs xs ∧ vs.length ≤ (T.fn c).length ∧ PySem.W.makesIn K (He.ga K (T.cn c)) = true
def TabF (F H : Hp) (P : Addr) (q : Str) : Prop := F P = none ∧ ∃ ps : Array Value, H P = some (.tbl ps) ∧ TriplesOk ps.toList ∧ ∀ (pos : Pos) (cv : Value), codeAmong pos ps.toList = some cv → ∃ c, cv = .ref c ∧ F c = some (LamX.CodeO c q)
theorem TabF.mono {F F' H H' : Hp} {P : Addr} {q : Str} (t : TabF F H P q) (hn : ∀ ps o, F P = none → H P = some (.tbl ps) → F' P = some o → False) (hF : ∀ c o, F c = some o → (∀ xs, o ≠ .lst xs) → F' c = some o) (hP : ∀ ps, H P = some (.tbl ps) → H' P = some (.tbl ps)) : TabF F' H' P q := by
  obtain ⟨h0, ps, h1, h2, h3⟩ := t
  refine ⟨?_, ps, hP _ h1, h2, fun pos cv hc => ?_⟩
  · cases e : F' P with
    | none => rfl
    | some o => exact (hn ps o h0 h1 e).elim
  obtain ⟨c, e1, e2⟩ := h3 pos cv hc
  exact ⟨c, e1, hF _ _ e2 (fun xs z => by unfold LamX.CodeO at z; cases z)⟩
structure SR (T : Tb) (K : PySem.W.Frag) (io : Nat → Addr) (h : Hh) (F H : Hp) : Prop where
  sub : ∀ b o, F b = some o → H b = some o
  dis : ∀ k, k < h.length → F (io k) = none
  inj : ∀ j k, j < h.length → k < h.length → io j = io k → j = k
  obj : ∀ k o, h[k]? = some o → OR T K io h.length F H (io k) o
  tabs : ∀ p ∈ T.ts, TabF F H p.1 p.2
structure Step (io : Nat → Addr) (n : Nat) (F H : Hp) (io' : Nat → Addr) (n' : Nat) (F' H' : Hp) : Prop where
  le : n ≤ n'
  eq : ∀ k, k < n → io' k = io k
  phi : ∀ b o, F b = some o → F' b = some o
  frm : ∀ b o, H b = some o → (∀ k, k < n → io k ≠ b) → H' b = some o ∨ ∃ ps ps', o = .tbl ps ∧ H' b = some (.tbl ps')
  new : ∀ k, n ≤ k → k < n' → H (io' k) = none
  fresh : ∀ b o, F' b = some o → F b = some o ∨ H b = none ∨ ∃ y, o = .own y
theorem Step.of {io : Nat → Addr} {n : Nat} {F H : Hp} {io' : Nat → Addr} {n' : Nat} {F' H' : Hp} (le : n ≤ n') (eq : ∀ k, k < n → io' k = io k) (phi : ∀ b o, F b = some o → F' b = some o) (frame : ∀ b o, H b = some o → (∀ k, k < n → io k ≠ b) → H' b = some o)
    (new : ∀ k, n ≤ k → k < n' → H (io' k) = none) (fresh : ∀ b o, F' b = some o → F b = some o ∨ H b = none ∨ ∃ y, o = .own y) : Step io n F H io' n' F' H' :=
  ⟨le, eq, phi, fun b o e hb => .inl (frame b o e hb), new, fresh⟩
theorem Step.frame {io : Nat → Addr} {n : Nat} {F H : Hp} {io' : Nat → Addr} {n' : Nat} {F' H' : Hp} (s : Step io n F H io' n' F' H') (b : Addr) (o : HO) (e : H b = some o) (hb : ∀ k, k < n → io k ≠ b) (nt : ∀ ps, o ≠ .tbl ps := by first | nofun | (intro ps z; unfold L2.DO at z; cases z)) : H' b = some o := by
  rcases s.frm b o e hb with q | ⟨ps, _, q, _⟩
  · exact q
  · exact absurd q (nt ps)
theorem Step.dom {io : Nat → Addr} {n : Nat} {F H : Hp} {io' : Nat → Addr} {n' : Nat} {F' H' : Hp} (s : Step io n F H io' n' F' H') {b : Addr} {o : HO} (e : H b = some o) (hb : ∀ k, k < n → io k ≠ b) : ∃ u, H' b = some u := by
  rcases s.frm b o e hb with q | ⟨_, _, _, q⟩
  · exact ⟨_, q⟩
  · exact ⟨_, q⟩
section
variable {T : Tb} {K : PySem.W.Frag} {io io1 io2 : Nat → Addr} {n n1 n2 : Nat} {F F1 F2 H H1 H2 : Hp} {h h1 h2 : Hh}
theorem OR.there {a : Addr} {o : Obj} (r : OR T K io n F H a o) : ∃ u, H a = some u := by
  cases o with
  | lst vs => obtain ⟨xs, e, _⟩ := r; exact ⟨_, e⟩
  | ins c vs => obtain ⟨dx, xs, e, _⟩ := r; exact ⟨_, e⟩
  | dct ks vs => obtain ⟨es, ep, xs, ys, e, _⟩ := r; exact ⟨_, e⟩
theorem SR.there (s : SR T K io h F H) {k : Nat} (hk : k < h.length) : ∃ u, H (io k) = some u := (s.obj k h[k] (by simp [hk])).there
theorem Step.refl : Step io n F H io n F H := Step.of (Nat.le_refl _) (fun _ _ => rfl) (fun _ _ e => e) (fun _ _ e _ => e) (fun k a b => absurd b (Nat.not_lt.mpr a)) (fun _ _ e => .inl e)
theorem Step.trans (a : Step io n F H io1 h1.length F1 H1) (s : SR T K io1 h1 F1 H1) (b : Step io1 h1.length F1 H1 io2 n2 F2 H2) : Step io n F H io2 n2 F2 H2 where
  le := Nat.le_trans a.le b.le
  eq := fun k hk => (b.eq k (Nat.lt_of_lt_of_le hk a.le)).trans (a.eq k hk)
  phi := fun c o e => b.phi c o (a.phi c o e)
  frm := fun c o e hc => by
    have side : ∀ k, k < h1.length → io1 k ≠ c := fun k hk q => by
      by_cases hk' : k < n
      · exact hc k hk' ((a.eq k hk').symm.trans q)
      · have z := a.new k (by omega) hk
        rw [q, e] at z
        cases z
    rcases a.frm c o e hc with q | ⟨ps, ps1, e1, q⟩
    · exact b.frm c o q side
    · rcases b.frm c _ q side with q2 | ⟨_, ps2, _, q2⟩
      · exact .inr ⟨ps, ps1, e1, q2⟩
      · exact .inr ⟨ps, ps2, e1, q2⟩
  new := fun k h1' h2' => by
    by_cases hk : k < h1.length
    · rw [b.eq k hk]; exact a.new k h1' hk
    · have z := b.new k (by omega) h2'
      cases q : H (io2 k) with
      | none => rfl
      | some o =>
        by_cases hc : ∀ j, j < n → io j ≠ io2 k
        · obtain ⟨u0, hu0⟩ := a.dom q hc; rw [hu0] at z; cases z
        · exfalso
          apply hc
          intro j hj e
          obtain ⟨u, hu⟩ := s.there (k := j) (Nat.lt_of_lt_of_le hj a.le)
          rw [a.eq j hj, e, z] at hu
          cases hu
  fresh := fun c o e => by
    rcases b.fresh c o e with q | q | q
    · exact a.fresh c o q
    · refine .inr (.inl ?_)
      cases z : H c with
      | none => rfl
      | some u =>
        by_cases hc : ∀ j, j < n → io j ≠ c
        · obtain ⟨u0, hu0⟩ := a.dom z hc; rw [hu0] at q; cases q
        · exfalso
          apply hc
          intro j hj e2
          obtain ⟨u2, hu⟩ := s.there (k := j) (Nat.lt_of_lt_of_le hj a.le)
          rw [a.eq j hj, e2, q] at hu
          cases hu
    · exact .inr (.inr q)
theorem VR.step {v : Val} {x : V} (r : VR T K io n F v x) (a : Step io n F H io1 n1 F1 H1) : VR T K io1 n1 F1 v x := r.mono a.le a.eq a.phi
theorem VRs.step {v : List Val} {x : List V} (r : VRs T K io n F v x) (a : Step io n F H io1 n1 F1 H1) : VRs T K io1 n1 F1 v x := r.mono a.le a.eq a.phi
end
structure RSt (T : Tb) (K : PySem.W.Frag) (io : Nat → Addr) (n : Nat) (F : Hp) (sg : Sg) (σ : L2.St) : Prop where
  len : sg.length = σ.length
  at_ : ∀ (i : Nat) (v : Val), sg[i]? = some (some v) → ∃ x, σ[i]? = some (some x) ∧ VR T K io n F v x
section
variable {T : Tb} {K : PySem.W.Frag} {io io1 : Nat → Addr} {n n1 : Nat} {F F1 H H1 : Hp} {sg : Sg} {σ : L2.St}
theorem RSt.step (r : RSt T K io n F sg σ) (a : Step io n F H io1 n1 F1 H1) : RSt T K io1 n1 F1 sg σ :=
  ⟨r.len, fun i v e => let ⟨x, e1, e2⟩ := r.at_ i v e; ⟨x, e1, e2.step a⟩⟩
theorem RSt.set (r : RSt T K io n F sg σ) (i : Nat) {v : Val} {x : V} (q : VR T K io n F v x) : RSt T K io n F (sg.set i (some v)) (σ.set i (some x)) := by
  refine ⟨by simp [r.len], fun j w e => ?_⟩
  by_cases hj : i = j
  · subst hj
    by_cases hl : i < sg.length
    · rw [List.getElem?_set_self hl] at e
      obtain rfl : v = w := by simpa using e
      exact ⟨x, by rw [List.getElem?_set_self (by rw [← r.len]; exact hl)], q⟩
    · rw [List.getElem?_eq_none (by simpa using hl)] at e; cases e
  · rw [List.getElem?_set_ne hj] at e
    obtain ⟨y, e1, e2⟩ := r.at_ j w e
    exact ⟨y, by rw [List.getElem?_set_ne hj]; exact e1, e2⟩
end
def XR (T : Tb) (K : PySem.W.Frag) (io : Nat → Addr) (n : Nat) (F H : Hp) (c : Nat) (fs : List Val) (d : Option Addr) : Prop :=
  match T.fn c with
  | [] => d = none ∧ fs = []
  | f => ∃ dd xs, d = some dd ∧ H dd = some (.xd (f.zip xs)) ∧ VRs T K io n F fs xs ∧ xs.length = f.length
structure Pt where
  T : Tb
  K : PySem.W.Frag
  io : Nat → Addr
  h : Hh
  F : Hp
  H : Hp
def WExc (T : Tb) (K : PySem.W.Frag) (io : Nat → Addr) (n : Nat) (F H : Hp) (c : Nat) (fs : List Val) (h' : Hh) (W : XK) : Prop :=
  ∀ io' F' H' d, Step io n F H io' h'.length F' H' → SR T K io' h' F' H' → XR T K io' h'.length F' H' c fs d → W (.ref (He.ga K (T.cn c))) d H'
def Wants (T : Tb) (K : PySem.W.Frag) (io : Nat → Addr) (n : Nat) (F H : Hp) (W : XK) (Q : VK) : Res → Prop
  | .ok v h' => ∀ io' F' H' x, Step io n F H io' h'.length F' H' → SR T K io' h' F' H' → VR T K io' h'.length F' v x → Q x H'
  | .exc c fs h' => WExc T K io n F H c fs h' W
  | .bad => False
def WantsL (T : Tb) (K : PySem.W.Frag) (io : Nat → Addr) (n : Nat) (F H : Hp) (W : XK) (Q : List V → Hp → Prop) : ResL → Prop
  | .ok v h' => ∀ io' F' H' x, Step io n F H io' h'.length F' H' → SR T K io' h' F' H' → VRs T K io' h'.length F' v x → Q x H'
  | .exc c fs h' => WExc T K io n F H c fs h' W
  | .bad => False
def WantsB (T : Tb) (K : PySem.W.Frag) (io : Nat → Addr) (n : Nat) (F H : Hp) (W : XK) (Q : Bool → Hp → Prop) : Res → Prop
  | .ok (.bl b) h' => ∀ io' F' H', Step io n F H io' h'.length F' H' → SR T K io' h' F' H' → Q b H'
  | .exc c fs h' => WExc T K io n F H c fs h' W
  | _ => False
def WantsG (T : Tb) (K : PySem.W.Frag) (io : Nat → Addr) (n : Nat) (F H : Hp) (Q : L2.St → Hp → Prop) : ResG → Prop
  | .ok sg' h' => ∀ io' F' H' σ', Step io n F H io' h'.length F' H' → SR T K io' h' F' H' → RSt T K io' h'.length F' sg' σ' → Q σ' H'
  | .bad => False
def WantsS (T : Tb) (K : PySem.W.Frag) (io : Nat → Addr) (n : Nat) (F H : Hp) (W : WX) (D : Ends) : ResS → Prop
  | .next sg' h' => ∀ io' F' H' σ', Step io n F H io' h'.length F' H' → SR T K io' h' F' H' → RSt T K io' h'.length F' sg' σ' → D.nx σ' H'
  | .brk sg' h' => ∀ io' F' H' σ', Step io n F H io' h'.length F' H' → SR T K io' h' F' H' → RSt T K io' h'.length F' sg' σ' → D.bk σ' H'
  | .cont sg' h' => ∀ io' F' H' σ', Step io n F H io' h'.length F' H' → SR T K io' h' F' H' → RSt T K io' h'.length F' sg' σ' → D.ct σ' H'
  | .ret v h' => ∀ io' F' H' x, Step io n F H io' h'.length F' H' → SR T K io' h' F' H' → VR T K io' h'.length F' v x → D.rt x H'
  | .exc c fs sg' h' => ∀ io' F' H' σ' d, Step io n F H io' h'.length F' H' → SR T K io' h' F' H' → RSt T K io' h'.length F' sg' σ' → XR T K io' h'.length F' H' c fs d → W (.ref (He.ga K (T.cn c))) d σ' H'
  | .bad => False
def tE (T : Tb) (K : PySem.W.Frag) (W : WX) (f : Ex) : TE := fun σ H Q => ∃ io h F sg, SR T K io h F H ∧ RSt T K io h.length F sg σ ∧ Wants T K io h.length F H (fun c d H' => W c d σ H') Q (f sg h)
def tL (T : Tb) (K : PySem.W.Frag) (W : WX) (f : Lx) : TA := fun σ H Q => ∃ io h F sg, SR T K io h F H ∧ RSt T K io h.length F sg σ ∧ WantsL T K io h.length F H (fun c d H' => W c d σ H') Q (f sg h)
def tB1 (T : Tb) (K : PySem.W.Frag) (W : WX) (f : Ex) : TT := fun σ H Q => ∃ io h F sg, SR T K io h F H ∧ RSt T K io h.length F sg σ ∧ WantsB T K io h.length F H (fun c d H' => W c d σ H') Q (f sg h)
def tS (T : Tb) (K : PySem.W.Frag) (W : WX) (f : Sx) : TS := fun D σ H => ∃ io h F sg, SR T K io h F H ∧ RSt T K io h.length F sg σ ∧ WantsS T K io h.length F H W D (f sg h)
def tG1 (T : Tb) (K : PySem.W.Frag) (g : Gx) : TG := fun x σ H Q => ∃ io h F sg v, SR T K io h F H ∧ RSt T K io h.length F sg σ ∧ VR T K io h.length F v x ∧ WantsG T K io h.length F H Q (g v sg h)
theorem pe_imp {X : Cx} {e : Expr} {t t' : TE} (h : PE X e t) (i : ∀ σ H Q, t' σ H Q → t σ H Q) : PE X e t' := ⟨fun pins s σ H Q I q => h.run pins s σ H Q I (i σ H Q q)⟩
theorem pt_imp {X : Cx} {e : Expr} {t t' : TT} (h : PT X e t) (i : ∀ σ H Q, t' σ H Q → t σ H Q) : PT X e t' := ⟨fun pins s σ H Q I q => h.run pins s σ H Q I (i σ H Q q)⟩
theorem pw_imp {X : Cx} {e : Expr} {t t' : TT} (h : PW X e t) (i : ∀ σ H Q, t' σ H Q → t σ H Q) : PW X e t' := ⟨fun wh pins s σ H Q I q => h.run wh pins s σ H Q I (i σ H Q q)⟩
theorem pa_imp {X : Cx} {e : List Expr} {t t' : TA} (h : PA X e t) (i : ∀ σ H Q, t' σ H Q → t σ H Q) : PA X e t' := ⟨fun pos pins s σ H Q I q => h.run pos pins s σ H Q I (i σ H Q q)⟩
theorem ps_imp {X : Cx} {e : Stmt} {t t' : TS} (h : PS X e t) (i : ∀ D σ H, t' D σ H → t D σ H) : PS X e t' := ⟨fun pins s σ H Q I q => h.run pins s σ H Q I (i Q σ H q)⟩
theorem pss_imp {X : Cx} {e : List Stmt} {t t' : TS} (h : PSs X e t) (i : ∀ D σ H, t' D σ H → t D σ H) : PSs X e t' := ⟨fun pins s σ H Q I q => h.run pins s σ H Q I (i Q σ H q)⟩
theorem pg_imp {X : Cx} {e : Expr} {t t' : TG} (h : PG X e t) (i : ∀ x σ H Q, t' x σ H Q → t x σ H Q) : PG X e t' := ⟨fun pins s σ H v u Q I r q => h.run pins s σ H v u Q I r (i v σ H Q q)⟩
end Py
namespace Py
open PySem PySem.Spec PyProof.Rows L2
abbrev JE (T : Tb) (X : Cx) (W : WX) (e : Expr) (f : Ex) : Prop := PE X e (tE T X.K W f)
abbrev JT (T : Tb) (X : Cx) (W : WX) (e : Expr) (f : Ex) : Prop := PT X e (tB1 T X.K W f)
abbrev JW (T : Tb) (X : Cx) (W : WX) (e : Expr) (f : Ex) : Prop := PW X e (tB1 T X.K W f)
abbrev JA (T : Tb) (X : Cx) (W : WX) (e : List Expr) (f : Lx) : Prop := PA X e (tL T X.K W f)
abbrev JS (T : Tb) (X : Cx) (W : WX) (e : Stmt) (f : Sx) : Prop := PS X e (tS T X.K W f)
abbrev JSs (T : Tb) (X : Cx) (W : WX) (e : List Stmt) (f : Sx) : Prop := PSs X e (tS T X.K W f)
abbrev JG (T : Tb) (X : Cx) (e : Expr) (g : Gx) : Prop := PG X e (tG1 T X.K g)
section
variable {T : Tb} {K : PySem.W.Frag} {io io1 io2 : Nat → Addr} {n n1 n2 : Nat} {F F1 F2 H H1 H2 : Hp} {h h1 h2 : Hh} {W : XK} {Q : VK}
theorem WExc.rebase {c : Nat} {fs : List Val} {h' : Hh} (w : WExc T K io n F H c fs h' W) (a : Step io n F H io1 h1.length F1 H1) (s : SR T K io1 h1 F1 H1) : WExc T K io1 h1.length F1 H1 c fs h' W :=
  fun io' F' H' d st sr xr => w io' F' H' d (a.trans s st) sr xr
theorem Wants.rebase {r : Res} (w : Wants T K io n F H W Q r) (a : Step io n F H io1 h1.length F1 H1) (s : SR T K io1 h1 F1 H1) : Wants T K io1 h1.length F1 H1 W Q r := by
  cases r with
  | ok v h' => exact fun io' F' H' x st sr vr => w io' F' H' x (a.trans s st) sr vr
  | exc c fs h' => exact WExc.rebase w a s
  | bad => exact w
theorem WantsL.rebase {Q : List V → Hp → Prop} {r : ResL} (w : WantsL T K io n F H W Q r) (a : Step io n F H io1 h1.length F1 H1) (s : SR T K io1 h1 F1 H1) : WantsL T K io1 h1.length F1 H1 W Q r := by
  cases r with
  | ok v h' => exact fun io' F' H' x st sr vr => w io' F' H' x (a.trans s st) sr vr
  | exc c fs h' => exact WExc.rebase w a s
  | bad => exact w
theorem WantsB.rebase {Q : Bool → Hp → Prop} {r : Res} (w : WantsB T K io n F H W Q r) (a : Step io n F H io1 h1.length F1 H1) (s : SR T K io1 h1 F1 H1) : WantsB T K io1 h1.length F1 H1 W Q r := by
  cases r with
  | ok v h' => cases v with
    | bl b => exact fun io' F' H' st sr => w io' F' H' (a.trans s st) sr
    | _ => exact w
  | exc c fs h' => exact WExc.rebase w a s
  | bad => exact w
theorem WantsG.rebase {Q : L2.St → Hp → Prop} {r : ResG} (w : WantsG T K io n F H Q r) (a : Step io n F H io1 h1.length F1 H1) (s : SR T K io1 h1 F1 H1) : WantsG T K io1 h1.length F1 H1 Q r := by
  cases r with
  | ok v h' => exact fun io' F' H' x st sr vr => w io' F' H' x (a.trans s st) sr vr
  | bad => exact w
theorem WantsS.rebase {W : WX} {D : Ends} {r : ResS} (w : WantsS T K io n F H W D r) (a : Step io n F H io1 h1.length F1 H1) (s : SR T K io1 h1 F1 H1) : WantsS T K io1 h1.length F1 H1 W D r := by
  cases r with
  | next v h' => exact fun io' F' H' x st sr vr => w io' F' H' x (a.trans s st) sr vr
  | brk v h' => exact fun io' F' H' x st sr vr => w io' F' H' x (a.trans s st) sr vr
  | cont v h' => exact fun io' F' H' x st sr vr => w io' F' H' x (a.trans s st) sr vr
  | ret v h' => exact fun io' F' H' x st sr vr => w io' F' H' x (a.trans s st) sr vr
  | exc c fs sg h' => exact fun io' F' H' x d st sr rs xr => w io' F' H' x d (a.trans s st) sr rs xr
  | bad => exact w
theorem Wants.bind {R : VK} {r : Res} {k : Val → Hh → Res} (w : Wants T K io n F H W Q (r.bind k))
    (hk : ∀ v h1 io1 F1 H1 x, Step io n F H io1 h1.length F1 H1 → SR T K io1 h1 F1 H1 → VR T K io1 h1.length F1 v x → Wants T K io1 h1.length F1 H1 W Q (k v h1) → R x H1) : Wants T K io n F H W R r := by
  cases r with
  | ok v h1 => exact fun io1 F1 H1 x st sr vr => hk v h1 io1 F1 H1 x st sr vr (Wants.rebase w st sr)
  | exc c fs h' => exact w
  | bad => exact w
theorem WantsL.ofBind {R : VK} {Q : List V → Hp → Prop} {r : Res} {k : Val → Hh → ResL} (w : WantsL T K io n F H W Q (r.bindL k))
    (hk : ∀ v h1 io1 F1 H1 x, Step io n F H io1 h1.length F1 H1 → SR T K io1 h1 F1 H1 → VR T K io1 h1.length F1 v x → WantsL T K io1 h1.length F1 H1 W Q (k v h1) → R x H1) : Wants T K io n F H W R r := by
  cases r with
  | ok v h1 => exact fun io1 F1 H1 x st sr vr => hk v h1 io1 F1 H1 x st sr vr (WantsL.rebase w st sr)
  | exc c fs h' => exact w
  | bad => exact w
theorem WantsL.bindL {R Q : List V → Hp → Prop} {r : ResL} {k : List Val → Hh → ResL} (w : WantsL T K io n F H W Q (r.bindL k))
    (hk : ∀ v h1 io1 F1 H1 x, Step io n F H io1 h1.length F1 H1 → SR T K io1 h1 F1 H1 → VRs T K io1 h1.length F1 v x → WantsL T K io1 h1.length F1 H1 W Q (k v h1) → R x H1) : WantsL T K io n F H W R r := by
  cases r with
  | ok v h1 => exact fun io1 F1 H1 x st sr vr => hk v h1 io1 F1 H1 x st sr vr (WantsL.rebase w st sr)
  | exc c fs h' => exact w
  | bad => exact w
theorem Wants.bindOfL {R : List V → Hp → Prop} {r : ResL} {k : List Val → Hh → Res} (w : Wants T K io n F H W Q (r.bind k))
    (hk : ∀ v h1 io1 F1 H1 x, Step io n F H io1 h1.length F1 H1 → SR T K io1 h1 F1 H1 → VRs T K io1 h1.length F1 v x → Wants T K io1 h1.length F1 H1 W Q (k v h1) → R x H1) : WantsL T K io n F H W R r := by
  cases r with
  | ok v h1 => exact fun io1 F1 H1 x st sr vr => hk v h1 io1 F1 H1 x st sr vr (Wants.rebase w st sr)
  | exc c fs h' => exact w
  | bad => exact w
theorem WantsB.bind {R : VK} {Q : Bool → Hp → Prop} {r : Res} {k : Val → Hh → Res} (w : WantsB T K io n F H W Q (r.bind k))
    (hk : ∀ v h1 io1 F1 H1 x, Step io n F H io1 h1.length F1 H1 → SR T K io1 h1 F1 H1 → VR T K io1 h1.length F1 v x → WantsB T K io1 h1.length F1 H1 W Q (k v h1) → R x H1) : Wants T K io n F H W R r := by
  cases r with
  | ok v h1 => exact fun io1 F1 H1 x st sr vr => hk v h1 io1 F1 H1 x st sr vr (WantsB.rebase w st sr)
  | exc c fs h' => exact w
  | bad => exact w
end
def Res.test (r : Res) (a b : Hh → Res) : Res := match r with
  | .ok (.bl true) h => a h
  | .ok (.bl false) h => b h
  | .ok _ _ => .bad
  | .exc c fs h => .exc c fs h
  | .bad => .bad
def Res.testS (sg : Sg) (r : Res) (a b : Hh → ResS) : ResS := match r with
  | .ok (.bl true) h => a h
  | .ok (.bl false) h => b h
  | .ok _ _ => .bad
  | .exc c fs h => .exc c fs sg h
  | .bad => .bad
section
variable {T : Tb} {K : PySem.W.Frag} {io io1 io2 : Nat → Addr} {n n1 n2 : Nat} {F F1 F2 H H1 H2 : Hp} {h h1 h2 : Hh} {W : XK} {Q : VK}
theorem Wants.test {R : Bool → Hp → Prop} {r : Res} {a b : Hh → Res} (w : Wants T K io n F H W Q (r.test a b))
    (hk : ∀ v h1 io1 F1 H1, Step io n F H io1 h1.length F1 H1 → SR T K io1 h1 F1 H1 → Wants T K io1 h1.length F1 H1 W Q (if v = true then a h1 else b h1) → R v H1) : WantsB T K io n F H W R r := by
  cases r with
  | ok v h1 => cases v with
    | bl v =>
      cases v with
      | true => exact fun io1 F1 H1 st sr => hk true h1 io1 F1 H1 st sr (Wants.rebase w st sr)
      | false => exact fun io1 F1 H1 st sr => hk false h1 io1 F1 H1 st sr (Wants.rebase w st sr)
    | _ => exact w
  | exc c fs h' => exact w
  | bad => exact w
theorem WantsB.test {R Q : Bool → Hp → Prop} {r : Res} {a b : Hh → Res} (w : WantsB T K io n F H W Q (r.test a b))
    (hk : ∀ v h1 io1 F1 H1, Step io n F H io1 h1.length F1 H1 → SR T K io1 h1 F1 H1 → WantsB T K io1 h1.length F1 H1 W Q (if v = true then a h1 else b h1) → R v H1) : WantsB T K io n F H W R r := by
  cases r with
  | ok v h1 => cases v with
    | bl v =>
      cases v with
      | true => exact fun io1 F1 H1 st sr => hk true h1 io1 F1 H1 st sr (WantsB.rebase w st sr)
      | false => exact fun io1 F1 H1 st sr => hk false h1 io1 F1 H1 st sr (WantsB.rebase w st sr)
    | _ => exact w
  | exc c fs h' => exact w
  | bad => exact w
end
section
variable {T : Tb} {K : PySem.W.Frag} {io : Nat → Addr} {F H : Hp} {h : Hh} {p : Addr} {o : HO}
theorem SR.none_of (s : SR T K io h F H) (hp : H p = none) : F p = none := by
  cases q : F p with
  | none => rfl
  | some u => rw [s.sub p u q] at hp; cases hp
theorem upd_sub (F : Hp) (hp : F p = none) : ∀ b u, F b = some u → upd F p o b = some u := fun b u e => by
  rw [upd_ne (ne_of_none e hp)]; exact e
theorem OR.mono {io io' : Nat → Addr} {n n' : Nat} {F F' H H' : Hp} (hn : n ≤ n') (hi : ∀ k, k < n → io' k = io k) (hF : ∀ b o, F b = some o → F' b = some o) (hH : ∀ b o, H b = some o → H' b = some o) {a : Addr} {ob : Obj} (r : OR T K io n F H a ob) : OR T K io' n' F' H' a ob := by
  cases ob with
  | lst vs => obtain ⟨xs, e, r⟩ := r; exact ⟨xs, hH _ _ e, r.mono hn hi hF⟩
  | ins c vs => obtain ⟨dx, xs, e, d, r, l⟩ := r; exact ⟨dx, xs, hH _ _ e, hH _ _ d, r.mono hn hi hF, l⟩
  | dct ks vs => obtain ⟨es, ep, xs, ys, e, hk, he, r1, r2⟩ := r; exact ⟨es, ep, xs, ys, hH _ _ e, hk, he, r1.mono hn hi hF, r2.mono hn hi hF⟩
theorem OR.monoN {io io' : Nat → Addr} {n n' : Nat} {F F' H H' : Hp} (hn : n ≤ n') (hi : ∀ k, k < n → io' k = io k) (hF : ∀ b o, F b = some o → F' b = some o) (hH : ∀ b o, H b = some o → (∀ ps, o ≠ .tbl ps) → H' b = some o) {a : Addr} {ob : Obj} (r : OR T K io n F H a ob) : OR T K io' n' F' H' a ob := by
  cases ob with
  | lst vs => obtain ⟨xs, e, r⟩ := r; exact ⟨xs, hH _ _ e (fun ps z => by cases z), r.mono hn hi hF⟩
  | ins c vs => obtain ⟨dx, xs, e, d, r, l⟩ := r; exact ⟨dx, xs, hH _ _ e (fun ps z => by cases z), hH _ _ d (fun ps z => by cases z), r.mono hn hi hF, l⟩
  | dct ks vs => obtain ⟨es, ep, xs, ys, e, hk, he, r1, r2⟩ := r; exact ⟨es, ep, xs, ys, hH _ _ e (fun ps z => by unfold DO at z; cases z), hk, he, r1.mono hn hi hF, r2.mono hn hi hF⟩
theorem OR.notTbl {io : Nat → Addr} {n : Nat} {F H : Hp} {a : Addr} {o : Obj} (r : OR T K io n F H a o) {u : HO} (hu : H a = some u) : ∀ ps, u ≠ .tbl ps := fun ps z => by
  subst z
  cases o with
  | lst vs => obtain ⟨xs, q, _⟩ := r; rw [q] at hu; cases hu
  | ins c vs => obtain ⟨dx, xs, q, _⟩ := r; rw [q] at hu; cases hu
  | dct ks vs => obtain ⟨es, ep, xs, ys, q, _⟩ := r; rw [q] at hu; unfold DO at hu; cases hu
theorem SR.alloc (s : SR T K io h F H) (hp : H p = none) (o : HO) : SR T K io h (upd F p o) (upd H p o) := by
  have fp := s.none_of hp
  refine ⟨fun b u e => ?_, fun k hk => ?_, s.inj, fun k ob e => (s.obj k ob e).mono (Nat.le_refl _) (fun _ _ => rfl) (upd_sub F fp) (upd_sub H hp), fun pq hq => (s.tabs pq hq).mono (fun _ _ h hp' e => by rw [upd_ne (fun z => by rw [z, hp] at hp'; cases hp'), h] at e; cases e) (fun c o e _ => upd_sub F fp c o e) fun ps e => upd_sub H hp _ _ e⟩
  · by_cases hb : b = p
    · subst hb; rw [upd_same] at e ⊢; exact e
    · rw [upd_ne hb] at e ⊢; exact s.sub b u e
  · obtain ⟨u, e⟩ := s.there hk
    rw [upd_ne (ne_of_none e hp)]; exact s.dis k hk
theorem SR.allocStep (s : SR T K io h F H) (hp : H p = none) (o : HO) : Step io h.length F H io h.length (upd F p o) (upd H p o) :=
  Step.of (Nat.le_refl _) (fun _ _ => rfl) (upd_sub F (s.none_of hp)) (fun b u e _ => upd_sub H hp b u e) (fun k a b => absurd b (Nat.not_lt.mpr a)) (fun b u e => by
    by_cases hb : b = p
    · subst hb; exact .inr (.inl hp)
    · rw [upd_ne hb] at e; exact .inl e)
theorem SR.garb (s : SR T K io h F H) (hp : H p = none) (o : HO) : SR T K io h F (upd H p o) :=
  ⟨fun b u e => upd_sub H hp b u (s.sub b u e), s.dis, s.inj, fun k ob e => (s.obj k ob e).mono (Nat.le_refl _) (fun _ _ => rfl) (fun _ _ e => e) (upd_sub H hp), fun pq hq => (s.tabs pq hq).mono (fun _ _ h _ e => by rw [h] at e; cases e) (fun _ _ e _ => e) fun ps e => upd_sub H hp _ _ e⟩
theorem SR.garbStep (s : SR T K io h F H) (hp : H p = none) (o : HO) : Step io h.length F H io h.length F (upd H p o) :=
  Step.of (Nat.le_refl _) (fun _ _ => rfl) (fun _ _ e => e) (fun b u e _ => upd_sub H hp b u e) (fun k a b => absurd b (Nat.not_lt.mpr a)) (fun _ _ e => .inl e)
def ioPush (io : Nat → Addr) (n : Nat) (p : Addr) : Nat → Addr := fun k => if k = n then p else io k
theorem ioPush_lt (io : Nat → Addr) (p : Addr) {n k : Nat} (hk : k < n) : ioPush io n p k = io k := by unfold ioPush; rw [if_neg (Nat.ne_of_lt hk)]
theorem ioPush_at (io : Nat → Addr) (p : Addr) (n : Nat) : ioPush io n p n = p := by unfold ioPush; rw [if_pos rfl]
theorem SR.push (s : SR T K io h F H) (hp : H p = none) {H' : Hp} {ob : Obj} (hH : ∀ b u, H b = some u → H' b = some u) (new : OR T K (ioPush io h.length p) (h.length + 1) F H' p ob) : SR T K (ioPush io h.length p) (h ++ [ob]) F H' := by
  have nek : ∀ k, k < h.length → io k ≠ p := fun k hk => by obtain ⟨u, e⟩ := s.there hk; exact ne_of_none e hp
  have len : (h ++ [ob]).length = h.length + 1 := by simp
  refine ⟨fun b u e => hH b u (s.sub b u e), fun k hk => ?_, fun j k hj hk e => ?_, fun k o e => ?_, fun pq hq => (s.tabs pq hq).mono (fun _ _ h _ e => by rw [h] at e; cases e) (fun _ _ e _ => e) fun ps e => hH _ _ e⟩
  · rw [len] at hk
    by_cases q : k = h.length
    · subst q; rw [ioPush_at]; exact s.none_of hp
    · rw [ioPush_lt io p (by omega)]; exact s.dis k (by omega)
  · rw [len] at hj hk
    by_cases qj : j = h.length
    · by_cases qk : k = h.length
      · rw [qj, qk]
      · rw [qj, ioPush_at, ioPush_lt io p (by omega)] at e; exact absurd e.symm (nek k (by omega))
    · by_cases qk : k = h.length
      · rw [qk, ioPush_at, ioPush_lt io p (by omega)] at e; exact absurd e (nek j (by omega))
      · rw [ioPush_lt io p (by omega), ioPush_lt io p (by omega)] at e; exact s.inj j k (by omega) (by omega) e
  · rw [len]
    by_cases q : k < h.length
    · rw [List.getElem?_append_left q] at e
      rw [ioPush_lt io p q]
      exact (s.obj k o e).mono (Nat.le_succ _) (fun j hj => ioPush_lt io p hj) (fun _ _ e => e) hH
    · rw [List.getElem?_append_right (by omega)] at e
      by_cases q2 : k = h.length
      · subst q2
        simp at e
        subst e
        rw [ioPush_at]; exact new
      · rw [List.getElem?_eq_none (by simp; omega)] at e; cases e
theorem SR.pushStep (s : SR T K io h F H) (hp : H p = none) {H' : Hp} {ob : Obj} (hH : ∀ b u, H b = some u → H' b = some u) : Step io h.length F H (ioPush io h.length p) (h ++ [ob]).length F H' := by
  refine Step.of (by simp) (fun k hk => ioPush_lt io p hk) (fun _ _ e => e) (fun b u e _ => hH b u e) (fun k a b => ?_) (fun _ _ e => .inl e)
  have : k = h.length := by simp at b; omega
  subst this
  rw [ioPush_at]; exact hp
theorem SR.write (s : SR T K io h F H) {k : Nat} (hk : k < h.length) {o' : HO} {ob : Obj} (hno : ∀ y, H (io k) ≠ some (.own y)) (new : OR T K io h.length F (upd H (io k) o') (io k) ob) : SR T K io (h.set k ob) F (upd H (io k) o') := by
  have len : (h.set k ob).length = h.length := by simp
  refine ⟨fun b u e => ?_, fun j hj => s.dis j (by rwa [len] at hj), fun i j hi hj e => s.inj i j (by rwa [len] at hi) (by rwa [len] at hj) e, fun j o e => ?_, fun pq hq => (s.tabs pq hq).mono (fun _ _ h _ e => by rw [h] at e; cases e) (fun _ _ e _ => e) fun ps e => by rw [upd_ne (fun z => (s.obj k h[k] (by simp [hk])).notTbl (by rw [← z]; exact e) ps rfl)]; exact e⟩
  · have : b ≠ io k := fun z => by rw [z, s.dis k hk] at e; cases e
    rw [upd_ne this]; exact s.sub b u e
  · rw [len]
    by_cases q : k = j
    · subst q
      rw [List.getElem?_set_self hk] at e
      cases e; exact new
    · rw [List.getElem?_set_ne q] at e
      have hj : j < h.length := (List.getElem?_eq_some_iff.mp e).1
      have ne : io j ≠ io k := fun z => q (s.inj k j hk hj z.symm)
      have r := s.obj j o e
      cases o with
      | lst vs => obtain ⟨xs, e1, r⟩ := r; exact ⟨xs, by rw [upd_ne ne]; exact e1, r⟩
      | dct ks vs => obtain ⟨es, ep, xs, ys, e1, r⟩ := r; exact ⟨es, ep, xs, ys, by rw [upd_ne ne]; exact e1, r⟩
      | ins c vs =>
        obtain ⟨dx, xs, e1, d, r, l⟩ := r
        exact ⟨dx, xs, by rw [upd_ne ne]; exact e1, by rw [upd_ne (fun z => hno _ (z ▸ d))]; exact d, r, l⟩
theorem SR.writeStep (s : SR T K io h F H) {k : Nat} (hk : k < h.length) {o' : HO} {ob : Obj} : Step io h.length F H io (h.set k ob).length F (upd H (io k) o') := by
  refine Step.of (by simp) (fun _ _ => rfl) (fun _ _ e => e) (fun b u e hb => ?_) (fun j a b => absurd (by simpa using b) (Nat.not_lt.mpr a)) (fun _ _ e => .inl e)
  rw [upd_ne (fun z => hb k hk z.symm)]; exact e
end
def xVar (i : Nat) : Ex := fun sg h => match sg[i]? with
  | some (some v) => .ok v h
  | _ => .bad
def xC (v : Val) : Ex := fun _ h => .ok v h
section
variable {T : Tb} {X : Cx} {W : WX}
theorem je_var (i : Nat) {x : Str} {pos : Pos} (hN : X.N[i]? = some x := by rfl) (hv : Vis X.env.scope x := by first | exact Or.inl rfl | exact Or.inr (Or.inl rfl) | exact Or.inr (Or.inr rfl)) (hd : (x == ("__debug__" : Str)) = false := by decide)
    (hcd : (x == ("__classdict__" : Str)) = false := by decide) : JE T X W (.Name x pos) (xVar i) := by
  refine pe_imp (pe_var hN hv hd hcd) fun σ H Q ⟨io, h, F, sg, sr, rs, w⟩ => ?_
  unfold xVar at w
  cases e : sg[i]? with
  | none => rw [e] at w; exact w.elim
  | some o =>
    cases o with
    | none => rw [e] at w; exact w.elim
    | some v =>
      rw [e] at w
      obtain ⟨x', e1, r⟩ := rs.at_ i v e
      exact ⟨x', e1, w io F H x' .refl sr r⟩
theorem je_int {i j pos} : JE T X W (.Constant (.int i) j pos) (xC (.int i)) := pe_imp pe_int fun σ H Q ⟨io, h, F, sg, sr, rs, w⟩ => w io F H _ .refl sr (.int i)
theorem je_bl {i j pos} : JE T X W (.Constant (.bool i) j pos) (xC (.bl i)) := pe_imp pe_bl fun σ H Q ⟨io, h, F, sg, sr, rs, w⟩ => w io F H _ .refl sr (.bl i)
theorem je_non {j pos} : JE T X W (.Constant .none j pos) (xC .non) := pe_imp pe_non fun σ H Q ⟨io, h, F, sg, sr, rs, w⟩ => w io F H _ .refl sr .non
theorem je_str (s : List Nat) {x : Str} {j pos} (hx : x = ⟨s.toArray⟩ := by decide +kernel) : JE T X W (.Constant (.str x) j pos) (xC (.str s)) := by
  subst hx
  exact pe_imp pe_str fun σ H Q ⟨io, h, F, sg, sr, rs, w⟩ => w io F H _ .refl sr (.str s)
def GV (T : Tb) (X : Cx) (x : Str) (v : Val) : Prop := ∃ (u : Value) (y : V), X.mg x = some u ∧ RelV y u ∧ ∀ io n F, VR T X.K io n F v y
theorem je_glob {x : Str} {v : Val} {pos : Pos} (hg : Gl X x) (g : GV T X x v) (hd : (x == ("__debug__" : Str)) = false := by decide) : JE T X W (.Name x pos) (xC v) := by
  obtain ⟨u, y, hm, r, q⟩ := g
  exact pe_imp (pe_glob hg hm r hd) fun σ H Q ⟨io, h, F, sg, sr, rs, w⟩ => w io F H _ .refl sr (q io h.length F)
abbrev G2 := Hh → Val → Val → Option Val
def Lift2 (T : Tb) (K : PySem.W.Frag) (r : R2) (g : G2) : Prop :=
  ∀ io h F H v u x y z Q, SR T K io h F H → VR T K io h.length F v x → VR T K io h.length F u y → g h v u = some z →
    (∀ F' H' x', Step io h.length F H io h.length F' H' → SR T K io h F' H' → VR T K io h.length F' z x' → Q x' H') → r x y H Q
def Res.ofO (o : Option Val) (h : Hh) : Res := match o with
  | some v => .ok v h
  | none => .bad
def xOp (g : G2) (a b : Ex) : Ex := fun sg h => (a sg h).bind fun x h1 => (b sg h1).bind fun y h2 => .ofO (g h2 x y) h2
variable {a b c : Expr} {fa fb fc : Ex} {pos : Pos} {r r' : R2} {g g' : G2}
theorem wants_ofO {K : PySem.W.Frag} {io : Nat → Addr} {n : Nat} {F H : Hp} {W : XK} {Q : VK} {o : Option Val} {h : Hh} (w : Wants T K io n F H W Q (.ofO o h)) : ∃ z, o = some z ∧ Wants T K io n F H W Q (.ok z h) := by
  cases o with
  | none => exact w.elim
  | some z => exact ⟨z, rfl, w⟩
theorem tOp_of (hl : Lift2 T X.K r g) {σ : L2.St} {H : Hp} {Q : VK} : tE T X.K W (xOp g fa fb) σ H Q → tOp r (tE T X.K W fa) (tE T X.K W fb) σ H Q := by
  rintro ⟨io, h, F, sg, sr, rs, w⟩
  refine ⟨io, h, F, sg, sr, rs, Wants.bind w fun v h1 io1 F1 H1 x st sr1 vr w1 => ⟨io1, h1, F1, sg, sr1, rs.step st, Wants.bind w1 fun u h2 io2 F2 H2 y st2 sr2 vr2 w2 => ?_⟩⟩
  obtain ⟨z, e, w3⟩ := wants_ofO w2
  exact hl io2 h2 F2 H2 v u x y z Q sr2 (vr.step st2) vr2 e fun F' H' x' st' sr' vr' => w3 io2 F' H' x' st' sr' vr'
theorem je_op {op : Operator} (ho : OpR X (binaryOp op) r) (hl : Lift2 T X.K r g) (ha : JE T X W a fa) (hb : JE T X W b fb) : JE T X W (.BinOp a op b pos) (xOp g fa fb) :=
  pe_imp (pe_op ho ha hb) fun _ _ _ => tOp_of hl
theorem je_cmp {op : CmpOp} (ho : OpR X (compareOp op) r) (hl : Lift2 T X.K r g) (ha : JE T X W a fa) (hb : JE T X W b fb) (hm : behindInMarks op b = false := by first | exact nomark _ | rfl | with_unfolding_all rfl) : JE T X W (.Compare a [op] [b] pos) (xOp g fa fb) :=
  pe_imp (pe_cmpR ho ha hb hm) fun _ _ _ => tOp_of hl
theorem tTest_of {t : TE} {f : Ex} (ht : ∀ σ H Q, tE T X.K W f σ H Q → t σ H Q) {σ : L2.St} {H : Hp} {Q : Bool → Hp → Prop} : tB1 T X.K W f σ H Q → tTest t σ H Q := by
  rintro ⟨io, h, F, sg, sr, rs, w⟩
  refine ht σ H _ ⟨io, h, F, sg, sr, rs, ?_⟩
  cases e : f sg h with
  | ok v h' =>
    rw [e] at w
    cases v with
    | bl k => exact fun io' F' H' x st sr' vr => by cases vr; exact ⟨k, rfl, w io' F' H' st sr'⟩
    | _ => exact False.elim w
  | exc c fs h' => rw [e] at w; exact w
  | bad => rw [e] at w; exact w
theorem jt_cmp {op : CmpOp} (ho : OpR X (compareOp op) r) (hl : Lift2 T X.K r g) (ha : JE T X W a fa) (hb : JE T X W b fb) (hm : behindInMarks op b = false := by first | exact nomark _ | rfl | with_unfolding_all rfl) : JT T X W (.Compare a [op] [b] pos) (xOp g fa fb) :=
  pt_imp (pt_cmpR ho ha hb hm) fun _ _ _ => tTest_of fun _ _ _ => tOp_of hl
theorem jt_val {f : Ex} (h : JE T X W a f) (he : ∀ whole, isTrue a X.env whole = (do let v ← whole; standAt a.pos; holding [v] (truthy v)) := by intro _; rfl) : JT T X W a f :=
  pt_imp (pt_val h he) fun _ _ _ q => tTest_of (T := T) (X := X) (W := W) (fun _ _ _ z => z) q
def xChain (g g' : G2) (a b c : Ex) : Ex := fun sg h => (a sg h).bind fun x h1 => (b sg h1).bind fun y h2 => match g h2 x y with
  | some (.bl true) => (c sg h2).bind fun z h3 => .ofO (g' h3 y z) h3
  | some (.bl false) => .ok (.bl false) h2
  | _ => .bad
theorem tChain_of (hl : Lift2 T X.K r g) (hl' : Lift2 T X.K r' g') {σ : L2.St} {H : Hp} {Q : VK} : tE T X.K W (xChain g g' fa fb fc) σ H Q → tChain r r' (tE T X.K W fa) (tE T X.K W fb) (tE T X.K W fc) σ H Q := by
  rintro ⟨io, h, F, sg, sr, rs, w⟩
  refine ⟨io, h, F, sg, sr, rs, Wants.bind w fun v h1 io1 F1 H1 x st sr1 vr w1 => ⟨io1, h1, F1, sg, sr1, rs.step st, Wants.bind w1 fun u h2 io2 F2 H2 y st2 sr2 vr2 w2 => ?_⟩⟩
  have rs2 := (rs.step st).step st2
  cases e : g h2 v u with
  | none => rw [e] at w2; exact w2.elim
  | some z =>
    rw [e] at w2
    refine hl io2 h2 F2 H2 v u x y z _ sr2 (vr.step st2) vr2 e fun F' H' x' st' sr' vr' => ?_
    cases z with
    | bl k =>
      cases vr'
      refine ⟨k, rfl, ?_⟩
      cases k with
      | false => rw [if_neg Bool.false_ne_true]; exact w2 io2 F' H' _ st' sr' (.bl false)
      | true =>
        rw [if_pos rfl]
        refine ⟨io2, h2, F', sg, sr', rs2.step st', Wants.bind (Wants.rebase w2 st' sr') fun q h3 io3 F3 H3 y3 st3 sr3 vr3 w3 => ?_⟩
        obtain ⟨z, e, w4⟩ := wants_ofO w3
        exact hl' io3 h3 F3 H3 u q y y3 z Q sr3 ((vr2.step st').step st3) vr3 e fun F' H' x' st' sr' vr' => w4 io3 F' H' x' st' sr' vr'
    | _ => exact w2.elim
theorem jt_chain {op op' : CmpOp} (ho : OpR X (compareOp op) r) (hl : Lift2 T X.K r g) (ho' : OpR X (compareOp op') r') (hl' : Lift2 T X.K r' g') (ha : JE T X W a fa) (hb : JE T X W b fb) (hc : JE T X W c fc)
    (hm : lastMarks [op, op'] [b, c] = false := by with_unfolding_all rfl) : JT T X W (.Compare a [op, op'] [b, c] pos) (xChain g g' fa fb fc) := pt_imp (pt_chain ho ho' ha hb hc hm) fun _ _ _ => tTest_of fun _ _ _ => tChain_of hl hl'
def xAnd (a b : Ex) : Ex := fun sg h => (a sg h).test (fun h1 => b sg h1) (fun h1 => .ok (.bl false) h1)
def xOr (a b : Ex) : Ex := fun sg h => (a sg h).test (fun h1 => .ok (.bl true) h1) (fun h1 => b sg h1)
def xNot (a : Ex) : Ex := fun sg h => (a sg h).test (fun h1 => .ok (.bl false) h1) (fun h1 => .ok (.bl true) h1)
def xIf (c a b : Ex) : Ex := fun sg h => (c sg h).test (fun h1 => a sg h1) (fun h1 => b sg h1)
variable {rest : List Expr}
theorem jw_one {op} (ha : JT T X W a fa) : JW T X W (.BoolOp op [a] pos) fa := by
  cases op with
  | And => exact pw_and1 ha
  | Or => exact pw_or1 ha
theorem jw_and (ha : JT T X W a fa) (hb : JW T X W (.BoolOp .And (b :: rest) pos) fb) : JW T X W (.BoolOp .And (a :: b :: rest) pos) (xAnd fa fb) := by
  refine pw_imp (pw_and ha hb) fun σ H Q ⟨io, h, F, sg, sr, rs, w⟩ => ⟨io, h, F, sg, sr, rs, WantsB.test w fun v h1 io1 F1 H1 st sr1 w1 => ?_⟩
  cases v with
  | true => rw [if_pos rfl] at w1 ⊢; exact ⟨io1, h1, F1, sg, sr1, rs.step st, w1⟩
  | false => rw [if_neg Bool.false_ne_true] at w1 ⊢; exact w1 io1 F1 H1 .refl sr1
theorem jw_or (ha : JT T X W a fa) (hb : JW T X W (.BoolOp .Or (b :: rest) pos) fb) : JW T X W (.BoolOp .Or (a :: b :: rest) pos) (xOr fa fb) := by
  refine pw_imp (pw_or ha hb) fun σ H Q ⟨io, h, F, sg, sr, rs, w⟩ => ⟨io, h, F, sg, sr, rs, WantsB.test w fun v h1 io1 F1 H1 st sr1 w1 => ?_⟩
  cases v with
  | true => rw [if_pos rfl] at w1 ⊢; exact w1 io1 F1 H1 .refl sr1
  | false => rw [if_neg Bool.false_ne_true] at w1 ⊢; exact ⟨io1, h1, F1, sg, sr1, rs.step st, w1⟩
theorem jt_w {f : Ex} (h : JW T X W a f) : JT T X W a f := h.pt
theorem jt_not (ha : JT T X W a fa) : JT T X W (.UnaryOp .Not a pos) (xNot fa) := by
  refine pt_imp (pt_not ha) fun σ H Q ⟨io, h, F, sg, sr, rs, w⟩ => ⟨io, h, F, sg, sr, rs, WantsB.test w fun v h1 io1 F1 H1 st sr1 w1 => ?_⟩
  cases v with
  | true => rw [if_pos rfl] at w1; exact w1 io1 F1 H1 .refl sr1
  | false => rw [if_neg Bool.false_ne_true] at w1; exact w1 io1 F1 H1 .refl sr1
theorem Wants.boolV {K : PySem.W.Frag} {io : Nat → Addr} {n : Nat} {F H : Hp} {W : XK} {Q : VK} {R : VK} {r : Res} {a b : Hh → Res} (w : Wants T K io n F H W Q (r.test a b))
    (hk : ∀ v h1 io1 F1 H1, Step io n F H io1 h1.length F1 H1 → SR T K io1 h1 F1 H1 → Wants T K io1 h1.length F1 H1 W Q (if v = true then a h1 else b h1) → R (.bl v) H1) : Wants T K io n F H W R r := by
  cases r with
  | ok v h1 => cases v with
    | bl v =>
      intro io1 F1 H1 x st sr vr
      cases vr
      cases v with
      | true => exact hk true h1 io1 F1 H1 st sr (Wants.rebase w st sr)
      | false => exact hk false h1 io1 F1 H1 st sr (Wants.rebase w st sr)
    | _ => exact False.elim w
  | exc c fs h' => exact w
  | bad => exact w
theorem je_one {op} (ha : JE T X W a fa) : JE T X W (.BoolOp op [a] pos) fa := pe_one ha
theorem je_and (ha : JE T X W a fa) (hb : JE T X W (.BoolOp .And (b :: rest) pos) fb) : JE T X W (.BoolOp .And (a :: b :: rest) pos) (xAnd fa fb) := by
  refine pe_imp (pe_and ha hb) fun σ H Q ⟨io, h, F, sg, sr, rs, w⟩ => ⟨io, h, F, sg, sr, rs, Wants.boolV w fun v h1 io1 F1 H1 st sr1 w1 => ⟨v, rfl, ?_⟩⟩
  cases v with
  | true => rw [if_pos rfl] at w1 ⊢; exact ⟨io1, h1, F1, sg, sr1, rs.step st, w1⟩
  | false => rw [if_neg Bool.false_ne_true] at w1 ⊢; exact w1 io1 F1 H1 _ .refl sr1 (.bl false)
theorem je_not (ha : JE T X W a fa) : JE T X W (.UnaryOp .Not a pos) (xNot fa) := by
  refine pe_imp (pe_not ha) fun σ H Q ⟨io, h, F, sg, sr, rs, w⟩ => ⟨io, h, F, sg, sr, rs, Wants.boolV w fun v h1 io1 F1 H1 st sr1 w1 => ⟨v, rfl, ?_⟩⟩
  cases v with
  | true => rw [if_pos rfl] at w1; exact w1 io1 F1 H1 _ .refl sr1 (.bl false)
  | false => rw [if_neg Bool.false_ne_true] at w1; exact w1 io1 F1 H1 _ .refl sr1 (.bl true)
theorem je_if (hc : JT T X W c fc) (ha : JE T X W a fa) (hb : JE T X W b fb) : JE T X W (.IfExp c a b pos) (xIf fc fa fb) := by
  refine pe_imp (pe_ifExp hc ha hb) fun σ H Q ⟨io, h, F, sg, sr, rs, w⟩ => ⟨io, h, F, sg, sr, rs, Wants.test w fun v h1 io1 F1 H1 st sr1 w1 => ?_⟩
  cases v with
  | true => rw [if_pos rfl] at w1 ⊢; exact ⟨io1, h1, F1, sg, sr1, rs.step st, w1⟩
  | false => rw [if_neg Bool.false_ne_true] at w1 ⊢; exact ⟨io1, h1, F1, sg, sr1, rs.step st, w1⟩
def xUn (g : Hh → Val → Option Val) (a : Ex) : Ex := fun sg h => (a sg h).bind fun x h1 => .ofO (g h1 x) h1
def xNil : Lx := fun _ h => .ok [] h
def xCons (a : Ex) (r : Lx) : Lx := fun sg h => (a sg h).bindL fun v h1 => (r sg h1).bindL fun vs h2 => .ok (v :: vs) h2
variable {e : Expr} {es : List Expr} {fe : Ex} {fr : Lx}
theorem ja_nil : JA T X W [] xNil := pa_imp pa_nil fun σ H Q ⟨io, h, F, sg, sr, rs, w⟩ => w io F H _ .refl sr .nil
theorem ja_cons (ha : JE T X W e fe) (hr : JA T X W es fr) (hs : starEach (e :: es) X.env = (false, eval e X.env) :: starEach es X.env := by rfl) : JA T X W (e :: es) (xCons fe fr) := by
  refine pa_imp (pa_cons ha hr hs) fun σ H Q ⟨io, h, F, sg, sr, rs, w⟩ => ⟨io, h, F, sg, sr, rs, WantsL.ofBind w fun v h1 io1 F1 H1 x st sr1 vr w1 => ⟨io1, h1, F1, sg, sr1, rs.step st, WantsL.bindL w1 fun vs h2 io2 F2 H2 xs st2 sr2 vrs w2 => ?_⟩⟩
  exact w2 io2 F2 H2 _ .refl sr2 (.cons (vr.step st2) vrs)
def xTup (r : Lx) : Ex := fun sg h => (r sg h).bind fun vs h1 => if vs.length ≤ 1000000 then .ok (.tup vs) h1 else .bad
theorem sizeOk {n : Nat} (h : n ≤ 1000000) : n ≤ sizeLine := by rw [sizeLine_eq]; omega
theorem je_tup {x1} (hr : JA T X W es fr) : JE T X W (.Tuple es x1 pos) (xTup fr) := by
  refine pe_imp (pe_tup hr) fun σ H Q ⟨io, h, F, sg, sr, rs, w⟩ => ⟨io, h, F, sg, sr, rs, Wants.bindOfL w fun vs h1 io1 F1 H1 xs st sr1 vrs w1 => ?_⟩
  by_cases hz : vs.length ≤ 1000000
  · rw [if_pos hz] at w1
    refine ⟨by rw [← vrs.length]; exact sizeOk hz, fun p hp => ?_⟩
    exact w1 io1 _ _ _ (sr1.allocStep hp _) (sr1.alloc hp _) (.tup (.inl (.inl upd_same)) (vrs.step (sr1.allocStep hp (.tup xs))))
  · rw [if_neg hz] at w1; exact w1.elim
def xLst (r : Lx) : Ex := fun sg h => (r sg h).bind fun vs h1 => if vs.length ≤ 1000000 then .ok (.ref h1.length) (h1 ++ [.lst vs]) else .bad
theorem je_lst (hr : JA T X W es fr) : JE T X W (.List es pos) (xLst fr) := by
  refine pe_imp (pe_lst hr) fun σ H Q ⟨io, h, F, sg, sr, rs, w⟩ => ⟨io, h, F, sg, sr, rs, Wants.bindOfL w fun vs h1 io1 F1 H1 xs st sr1 vrs w1 => ?_⟩
  by_cases hz : vs.length ≤ 1000000
  · rw [if_pos hz] at w1
    refine ⟨by rw [← vrs.length]; exact sizeOk hz, fun p hp => ?_⟩
    have hH : ∀ b u, H1 b = some u → upd H1 p (.lst xs) b = some u := upd_sub H1 hp
    have vp : VR T X.K (ioPush io1 h1.length p) (h1 ++ [Obj.lst vs]).length F1 (.ref h1.length) (.ref (ioPush io1 h1.length p h1.length)) := .ref _ (by simp)
    rw [ioPush_at] at vp
    exact w1 _ _ _ _ (sr1.pushStep hp hH) (sr1.push hp hH ⟨xs, upd_same, vrs.mono (Nat.le_succ _) (fun k hk => ioPush_lt io1 p hk) (fun _ _ e => e)⟩) vp
  · rw [if_neg hz] at w1; exact w1.elim
def xLstF (r : Lx) : Ex := fun sg h => (r sg h).bind fun vs h1 => if vs.length ≤ 1000000 then .ok (.lst vs) h1 else .bad
theorem je_lstF (hr : JA T X W es fr) : JE T X W (.List es pos) (xLstF fr) := by
  refine pe_imp (pe_lst hr) fun σ H Q ⟨io, h, F, sg, sr, rs, w⟩ => ⟨io, h, F, sg, sr, rs, Wants.bindOfL w fun vs h1 io1 F1 H1 xs st sr1 vrs w1 => ?_⟩
  by_cases hz : vs.length ≤ 1000000
  · rw [if_pos hz] at w1
    refine ⟨by rw [← vrs.length]; exact sizeOk hz, fun p hp => ?_⟩
    exact w1 io1 _ _ _ (sr1.allocStep hp _) (sr1.alloc hp _) (.lst (.inl (.inl upd_same)) (vrs.step (sr1.allocStep hp (.lst xs))))
  · rw [if_neg hz] at w1; exact w1.elim
end
end Py
namespace Py
open PySem PySem.Spec PyProof.Rows L2
def xSeq (a b : Sx) : Sx := fun sg h => match a sg h with
  | .next sg1 h1 => b sg1 h1
  | r => r
def xSkip : Sx := fun sg h => .next sg h
def xDrop (e : Ex) : Sx := fun sg h => (e sg h).bindS sg fun _ h1 => .next sg h1
def xRet (e : Ex) : Sx := fun sg h => (e sg h).bindS sg fun v h1 => .ret v h1
def xIfS (c : Ex) (a b : Sx) : Sx := fun sg h => (c sg h).testS sg (fun h1 => a sg h1) (fun h1 => b sg h1)
def xAsg (e : Ex) (g : Gx) : Sx := fun sg h => (e sg h).bindS sg fun v h1 => (g v sg h1).bindS fun sg2 h2 => .next sg2 h2
def gN (i : Nat) : Gx := fun v sg h => .ok (sg.set i (some v)) h
def xSet (i : Nat) (e : Ex) : Sx := fun sg h => (e sg h).bindS sg fun v h1 => .next (sg.set i (some v)) h1
section
variable {T : Tb} {K : PySem.W.Frag} {io io1 io2 : Nat → Addr} {n n1 n2 : Nat} {F F1 F2 H H1 H2 : Hp} {h h1 h2 : Hh} {W : WX} {D : Ends}
theorem WantsS.ofRes {R : VK} {sg : Sg} {σ : L2.St} {r : Res} {k : Val → Hh → ResS} (rs : RSt T K io n F sg σ) (w : WantsS T K io n F H W D (r.bindS sg k))
    (hk : ∀ v h1 io1 F1 H1 x, Step io n F H io1 h1.length F1 H1 → SR T K io1 h1 F1 H1 → VR T K io1 h1.length F1 v x → WantsS T K io1 h1.length F1 H1 W D (k v h1) → R x H1) : Wants T K io n F H (fun c d H' => W c d σ H') R r := by
  cases r with
  | ok v h1 => exact fun io1 F1 H1 x st sr vr => hk v h1 io1 F1 H1 x st sr vr (WantsS.rebase w st sr)
  | exc c fs h' => exact fun io' F' H' d st sr xr => w io' F' H' σ d st sr (rs.step st) xr
  | bad => exact w
theorem WantsS.ofTest {R : Bool → Hp → Prop} {sg : Sg} {σ : L2.St} {r : Res} {a b : Hh → ResS} (rs : RSt T K io n F sg σ) (w : WantsS T K io n F H W D (r.testS sg a b))
    (hk : ∀ v h1 io1 F1 H1, Step io n F H io1 h1.length F1 H1 → SR T K io1 h1 F1 H1 → WantsS T K io1 h1.length F1 H1 W D (if v = true then a h1 else b h1) → R v H1) : WantsB T K io n F H (fun c d H' => W c d σ H') R r := by
  cases r with
  | ok v h1 => cases v with
    | bl v =>
      cases v with
      | true => exact fun io1 F1 H1 st sr => hk true h1 io1 F1 H1 st sr (WantsS.rebase w st sr)
      | false => exact fun io1 F1 H1 st sr => hk false h1 io1 F1 H1 st sr (WantsS.rebase w st sr)
    | _ => exact w
  | exc c fs h' => exact fun io' F' H' d st sr xr => w io' F' H' σ d st sr (rs.step st) xr
  | bad => exact w
end
section
variable {T : Tb} {X : Cx} {W : WX} {a b c e : Expr} {fa fb fc fe : Ex} {pos : Pos} {st : Stmt} {rest : List Stmt} {f g : Sx}
theorem jss_nil : JSs T X W [] xSkip := pss_imp pss_nil fun D σ H ⟨io, h, F, sg, sr, rs, w⟩ => w io F H σ .refl sr rs
theorem jss_cons (h1 : JS T X W st f) (h2 : JSs T X W rest g) : JSs T X W (st :: rest) (xSeq f g) := by
  refine pss_imp (pss_cons h1 h2) fun D σ H ⟨io, h, F, sg, sr, rs, w⟩ => ⟨io, h, F, sg, sr, rs, ?_⟩
  unfold xSeq at w
  cases e : f sg h with
  | next sg1 h1 =>
    rw [e] at w
    exact fun io' F' H' σ' st sr' rs' => ⟨io', h1, F', sg1, sr', rs', WantsS.rebase w st sr'⟩
  | ret v h1 => rw [e] at w; exact w
  | brk v h1 => rw [e] at w; exact w
  | cont v h1 => rw [e] at w; exact w
  | exc c fs sg1 h1 => rw [e] at w; exact w
  | bad => rw [e] at w; exact w
theorem jss_one (h1 : JS T X W st f) : JSs T X W [st] f := pss_one h1
theorem js_expr (he : JE T X W e fe) (hs : swapsWith e none pos.line X.env = pure false := by rfl) : JS T X W (.Expr e pos) (xDrop fe) :=
  ps_imp (ps_expr he hs) fun D σ H ⟨io, h, F, sg, sr, rs, w⟩ => ⟨io, h, F, sg, sr, rs, WantsS.ofRes rs w fun v h1 io1 F1 H1 x st sr1 vr w1 => w1 io1 F1 H1 σ .refl sr1 (rs.step st)⟩
theorem js_ret (he : JE T X W e fe) : JS T X W (.Return (some e) pos) (xRet fe) :=
  ps_imp (ps_ret he) fun D σ H ⟨io, h, F, sg, sr, rs, w⟩ => ⟨io, h, F, sg, sr, rs, WantsS.ofRes rs w fun v h1 io1 F1 H1 x st sr1 vr w1 => w1 io1 F1 H1 x .refl sr1 vr⟩
theorem js_if {sa sb : List Stmt} (hc : JT T X W c fc) (ha : JSs T X W sa f) (hb : JSs T X W sb g) : JS T X W (.If c sa sb pos) (xIfS fc f g) := by
  refine ps_imp (ps_if hc ha hb) fun D σ H ⟨io, h, F, sg, sr, rs, w⟩ => ⟨io, h, F, sg, sr, rs, WantsS.ofTest rs w fun v h1 io1 F1 H1 st sr1 w1 => ?_⟩
  cases v with
  | true => rw [if_pos rfl] at w1 ⊢; exact ⟨io1, h1, F1, sg, sr1, rs.step st, w1⟩
  | false => rw [if_neg Bool.false_ne_true] at w1 ⊢; exact ⟨io1, h1, F1, sg, sr1, rs.step st, w1⟩
theorem jg_name (i : Nat) {x : Str} (hN : X.N.Nodup) (hi : X.N[i]? = some x := by rfl) (hx : Loc X.env.scope x := by first | exact .inl rfl | exact .inr rfl) (hf : X.fn x = true ∨ X.env.scope.names.lookup x = some .local := by first | exact .inl rfl | exact .inr rfl | assumption) : JG T X (.Name x pos) (gN i) :=
  pg_imp (pg_name hN hi hx hf) fun x σ H Q ⟨io, h, F, sg, v, sr, rs, vr, w⟩ => w io F H _ .refl sr (rs.set i vr)
abbrev Gs := List Val → Sg → Hh → ResG
def tGs (T : Tb) (K : PySem.W.Frag) (g : Gs) : TGs := fun xs σ H Q => ∃ io h F sg vs, SR T K io h F H ∧ RSt T K io h.length F sg σ ∧ VRs T K io h.length F vs xs ∧ WantsG T K io h.length F H Q (g vs sg h)
abbrev JGs (T : Tb) (X : Cx) (es : List Expr) (g : Gs) : Prop := PGs X es (tGs T X.K g)
def gsNil : Gs := fun vs sg h => match vs with
  | [] => .ok sg h
  | _ => .bad
def gsCons (g : Gx) (r : Gs) : Gs := fun vs sg h => match vs with
  | v :: vs => (match g v sg h with
    | .ok sg1 h1 => r vs sg1 h1
    | .bad => .bad)
  | [] => .bad
theorem jgs_nil : JGs T X [] gsNil := by
  refine ⟨fun pins s σ H xs us Q I r h => pgs_nil.run pins s σ H xs us Q I r ?_⟩
  obtain ⟨io, hh, F, sg, vs, sr, rs, vr, w⟩ := h
  cases vr with
  | nil => exact ⟨rfl, w io F H σ .refl sr rs⟩
  | cons a b => exact w.elim
theorem jgs_cons {tg : Expr} {tgs : List Expr} {g : Gx} {r : Gs} (h1 : JG T X tg g) (h2 : JGs T X tgs r) (hs : (assignEach (tg :: tgs) X.env).map (·.2) = assign tg X.env :: (assignEach tgs X.env).map (·.2) := by rfl) : JGs T X (tg :: tgs) (gsCons g r) := by
  refine ⟨fun pins s σ H xs us Q I rl h => (pgs_cons h1 h2 hs).run pins s σ H xs us Q I rl ?_⟩
  obtain ⟨io, hh, F, sg, vs, sr, rs, vr, w⟩ := h
  cases vr with
  | nil => exact w.elim
  | @cons v x vs' xs' a b =>
    refine ⟨x, xs', rfl, ⟨io, hh, F, sg, v, sr, rs, a, ?_⟩⟩
    have w' : WantsG T X.K io hh.length F H Q (match g v sg hh with
      | .ok sg1 h1 => r vs' sg1 h1
      | .bad => .bad) := w
    cases e : g v sg hh with
    | ok sg1 h1 =>
      rw [e] at w'
      exact fun io' F' H' σ' st sr' rs' => ⟨io', h1, F', sg1, vs', sr', rs', b.step st, WantsG.rebase w' st sr'⟩
    | bad => rw [e] at w'; exact w'
def gTu (n : Nat) (r : Gs) : Gx := fun v sg h => match v with
  | .tup vs => if vs.length = n then r vs sg h else .bad
  | _ => .bad
theorem jg_tup {tgs : List Expr} {k : Nat} {r : Gs} {n : Nat} (hc : X.calm = true) (h : JGs T X tgs r) (hn : (assignEach tgs X.env).length = n := by rfl) (hst : (assignEach tgs X.env).findIdx? (·.1) = none := by rfl) : JG T X (.Tuple tgs k pos) (gTu n r) := by
  refine pg_imp (pg_tup hc h hn hst) fun x σ H Q ⟨io, hh, F, sg, v, sr, rs, vr, w⟩ => ?_
  cases vr with
  | @tup vs a xs q r' =>
    have w' : WantsG T X.K io hh.length F H Q (if vs.length = n then r vs sg hh else .bad) := w
    by_cases hl : vs.length = n
    · rw [if_pos hl] at w'
      exact ⟨a, xs, rfl, sqT_mono sr.sub q, by rw [← r'.length]; exact hl, io, hh, F, sg, vs, sr, rs, r', w'⟩
    · rw [if_neg hl] at w'; exact w'.elim
  | _ => exact w.elim
theorem js_asg {tg : Expr} {g : Gx} (he : JE T X W e fe) (hg : JG T X tg g) (hs : swapsWithSole [tg] e pos.line X.env = pure false := by rfl) (hw : swappedStores [tg] e X.env = pure none := by rfl)
    (h1 : (assignEach [tg] X.env).map (·.2) = [assign tg X.env] := by rfl) : JS T X W (.Assign [tg] e pos) (xAsg fe g) := by
  refine ps_imp (ps_asg he hg hs hw h1) fun D σ H ⟨io, h, F, sg, sr, rs, w⟩ => ⟨io, h, F, sg, sr, rs, WantsS.ofRes rs w fun v h1 io1 F1 H1 x st sr1 vr w1 => ⟨io1, h1, F1, sg, v, sr1, rs.step st, vr, ?_⟩⟩
  cases e : g v sg h1 with
  | ok sg2 h2 => rw [e] at w1; exact w1
  | bad => rw [e] at w1; exact w1
theorem js_set (i : Nat) {x : Str} {pos' : Pos} (hN : X.N.Nodup) (he : JE T X W e fe) (hi : X.N[i]? = some x := by rfl) (hx : Loc X.env.scope x := by first | exact .inl rfl | exact .inr rfl) (hs : swapsWith e (some (.Name x pos')) pos.line X.env = pure false := by rfl)
    (hf : X.fn x = true ∨ X.env.scope.names.lookup x = some .local := by first | exact .inl rfl | exact .inr rfl | assumption) : JS T X W (.Assign [.Name x pos'] e pos) (xSet i fe) :=
  ps_imp (ps_set hN hi hx he hs hf) fun D σ H ⟨io, h, F, sg, sr, rs, w⟩ => ⟨io, h, F, sg, sr, rs, WantsS.ofRes rs w fun v h1 io1 F1 H1 x st sr1 vr w1 => w1 io1 F1 H1 _ .refl sr1 ((rs.step st).set i vr)⟩
inductive Src where
  | items (vs : List Val) | ref (c : Hh → Option (List Val))
def curL (k : Nat) : Hh → Option (List Val) := fun h => match h[k]? with
  | some (.lst xs) => some xs
  | _ => none
theorem curL_ok {k : Nat} {h : Hh} {xs : List Val} (e : curL k h = some xs) : h[k]? = some (.lst xs) := by
  unfold curL at e
  split at e
  · rename_i q; cases e; exact q
  · cases e
inductive ResI where
  | ok (s : Src) (h : Hh) | exc (c : Nat) (fs : List Val) (h : Hh) | bad
abbrev Ix := Sg → Hh → ResI
def YldOk (T : Tb) (K : PySem.W.Frag) (J : It) (i : Nat) (o : Option Val) (io : Nat → Addr) (h : Hh) (F H : Hp) : Prop :=
  match o with
  | none => J.stop i H
  | some v => J.go i H ∧ ∀ x H', J.yld i H x H' → ∃ F', Step io h.length F H io h.length F' H' ∧ SR T K io h F' H' ∧ VR T K io h.length F' v x
def SrcOk (T : Tb) (K : PySem.W.Frag) (io0 : Nat → Addr) (n0 : Nat) (F0 : Hp) (J : It) : Src → Prop
  | .items vs => ∀ i io h F H, SR T K io h F H → n0 ≤ h.length → (∀ k, k < n0 → io k = io0 k) → (∀ b o, F0 b = some o → F b = some o) → i ≤ vs.length → YldOk T K J i vs[i]? io h F H
  | .ref c => ∀ i io h F H xs, SR T K io h F H → n0 ≤ h.length → (∀ k, k < n0 → io k = io0 k) → (∀ b o, F0 b = some o → F b = some o) → c h = some xs → YldOk T K J i xs[i]? io h F H
def tI (T : Tb) (K : PySem.W.Frag) (W : WX) (f : Ix) : TI := fun σ H R => ∃ io h F sg, SR T K io h F H ∧ RSt T K io h.length F sg σ ∧ match f sg h with
  | .ok s h' => ∀ io' F' H' J, Step io h.length F H io' h'.length F' H' → SR T K io' h' F' H' → SrcOk T K io' h'.length F' J s → R J H'
  | .exc c fs h' => WExc T K io h.length F H c fs h' (fun c d H' => W c d σ H')
  | .bad => False
abbrev JI (T : Tb) (X : Cx) (W : WX) (tg iter : Expr) (f : Ix) : Prop := PI X tg iter (tI T X.K W f)
theorem pi_imp {tg iter : Expr} {t t' : TI} (h : PI X tg iter t) (i : ∀ σ H Q, t' σ H Q → t σ H Q) : PI X tg iter t' := ⟨fun pins s σ H Q I q => h.run pins s σ H Q I (i σ H Q q)⟩
def forItems (body : Val → Sg → Hh → ResS) : List Val → Sg → Hh → ResS
  | [], sg, h => .next sg h
  | v :: r, sg, h => match body v sg h with
    | .next sg1 h1 => forItems body r sg1 h1
    | .cont sg1 h1 => forItems body r sg1 h1
    | .brk sg1 h1 => .next sg1 h1
    | .ret v h1 => .ret v h1
    | .exc c fs sg1 h1 => .exc c fs sg1 h1
    | .bad => .bad
def forRef (body : Val → Sg → Hh → ResS) (c : Hh → Option (List Val)) : Nat → Nat → Sg → Hh → ResS
  | 0, _, _, _ => .bad
  | m + 1, i, sg, h => match c h with
    | some xs => (match xs[i]? with
      | none => .next sg h
      | some v => match body v sg h with
        | .next sg1 h1 => forRef body c m (i + 1) sg1 h1
        | .cont sg1 h1 => forRef body c m (i + 1) sg1 h1
        | .brk sg1 h1 => .next sg1 h1
        | .ret v h1 => .ret v h1
        | .exc c fs sg1 h1 => .exc c fs sg1 h1
        | .bad => .bad)
    | none => .bad
def bodyOf (g : Gx) (b : Sx) : Val → Sg → Hh → ResS := fun v sg h => (g v sg h).bindS fun sg1 h1 => b sg1 h1
def xFor (fi : Ix) (g : Gx) (b : Sx) : Sx := fun sg h => match fi sg h with
  | .ok (.items vs) h1 => forItems (bodyOf g b) vs sg h1
  | .ok (.ref k) h1 => forRef (bodyOf g b) k 1000000 0 sg h1
  | .exc c fs h1 => .exc c fs sg h1
  | .bad => .bad
theorem turn_of {K : PySem.W.Frag} {W : WX} {D : Ends} {tbody : Gx} {b : Sx} {J : It} {io : Nat → Addr} {h : Hh} {F H : Hp} {sg : Sg} {σ : L2.St} {v : Val} {i : Nat} {N : L2.St → Hp → Prop} (sr : SR T K io h F H) (rs : RSt T K io h.length F sg σ)
    (y : YldOk T K J i (some v) io h F H)
    (nxt : ∀ sg1 h1 io1 F1 H1 σ1, (bodyOf tbody b v sg h = .next sg1 h1 ∨ bodyOf tbody b v sg h = .cont sg1 h1) → Step io h.length F H io1 h1.length F1 H1 → SR T K io1 h1 F1 H1 → RSt T K io1 h1.length F1 sg1 σ1 → N σ1 H1)
    (brk : ∀ sg1 h1, bodyOf tbody b v sg h = .brk sg1 h1 → WantsS T K io h.length F H W D (.next sg1 h1))
    (oth : ∀ r, bodyOf tbody b v sg h = r → (match r with | .next _ _ => False | .cont _ _ => False | .brk _ _ => False | _ => True) → WantsS T K io h.length F H W D r) :
    ∀ x H', J.yld i H x H' → tG1 T K tbody x σ H' fun σ2 H2 => tS T K W b { D with nx := N, ct := N, bk := D.nx } σ2 H2 := by
  intro x H' hy
  obtain ⟨F', st, sr', vr⟩ := y.2 x H' hy
  refine ⟨io, h, F', sg, v, sr', rs.step st, vr, ?_⟩
  have tr : ∀ {io1 : Nat → Addr} {h1 : Hh} {F1 H1 : Hp}, Step io h.length F' H' io1 h1.length F1 H1 → Step io h.length F H io1 h1.length F1 H1 := fun s => st.trans sr' s
  cases eg : tbody v sg h with
  | bad =>
    have eb : bodyOf tbody b v sg h = .bad := by unfold bodyOf; rw [eg]; rfl
    exact (oth _ eb trivial : False).elim
  | ok sg2 h2 =>
    intro io2 F2 H2 σ2 st2 sr2 rs2
    refine ⟨io2, h2, F2, sg2, sr2, rs2, ?_⟩
    have st02 : Step io h.length F H io2 h2.length F2 H2 := tr st2
    have eb : bodyOf tbody b v sg h = b sg2 h2 := by unfold bodyOf; rw [eg]; rfl
    cases e : b sg2 h2 with
    | next sg3 h3 => exact fun io3 F3 H3 σ3 st3 sr3 rs3 => nxt sg3 h3 io3 F3 H3 σ3 (.inl (eb.trans e)) (st02.trans sr2 st3) sr3 rs3
    | cont sg3 h3 => exact fun io3 F3 H3 σ3 st3 sr3 rs3 => nxt sg3 h3 io3 F3 H3 σ3 (.inr (eb.trans e)) (st02.trans sr2 st3) sr3 rs3
    | brk sg3 h3 => exact fun io3 F3 H3 σ3 st3 sr3 rs3 => brk sg3 h3 (eb.trans e) io3 F3 H3 σ3 (st02.trans sr2 st3) sr3 rs3
    | ret u h3 => exact WantsS.rebase (D := D) (r := .ret u h3) (oth _ (eb.trans e) trivial) st02 sr2
    | exc c fs sg3 h3 => exact WantsS.rebase (D := D) (r := .exc c fs sg3 h3) (oth _ (eb.trans e) trivial) st02 sr2
    | bad => exact (oth _ (eb.trans e) trivial : False).elim
theorem js_for {tg iter : Expr} {body : List Stmt} {fi : Ix} {g : Gx} {b : Sx} (hp : PassesOwn (model X.prog X.w) X.A X.env X.xe) (hc : X.calm = true) (hi : JI T X W tg iter fi) (hg : JG T X tg g) (hb : JSs T X W body b)
    (hs : ∀ x, foldedSetIterable iter X.env x = pure x := by intro _; rfl) : JS T X W (.For tg iter body [] pos) (xFor fi g b) := by
  refine ps_imp (ps_for hp hc hi hg hb hs) fun D σ H ⟨io, h, F, sg, sr, rs, w⟩ => ⟨io, h, F, sg, sr, rs, ?_⟩
  unfold xFor at w
  cases e : fi sg h with
  | bad => rw [e] at w; exact w
  | exc c fs h1 => rw [e] at w; exact fun io' F' H' d st sr xr => w io' F' H' σ d st sr (rs.step st) xr
  | ok s h1 =>
    rw [e] at w
    intro io1 F1 H1 J st1 sr1 so
    have rs1 := rs.step st1
    cases s with
    | items vs =>
      have w1 := WantsS.rebase w st1 sr1
      refine ⟨fun i m σ H => m = vs.length - i ∧ i ≤ vs.length ∧ ∃ io h F sg, SR T X.K io h F H ∧ RSt T X.K io h.length F sg σ ∧ h1.length ≤ h.length ∧ (∀ k, k < h1.length → io k = io1 k) ∧ (∀ b o, F1 b = some o → F b = some o) ∧ WantsS T X.K io h.length F H W D (forItems (bodyOf g b) (vs.drop i) sg h),
        ⟨vs.length, by simp, Nat.zero_le _, io1, h1, F1, sg, sr1, rs1, Nat.le_refl _, fun _ _ => rfl, fun _ _ e => e, by simpa using w1⟩, ?_⟩
      rintro i m σ2 H2 ⟨rfl, hi', io2, h2, F2, sg2, sr2, rs2, hn2, he2, hF2, w2⟩
      have y := so i io2 h2 F2 H2 sr2 hn2 he2 hF2 hi'
      by_cases hlt : i < vs.length
      · have ev : vs[i]? = some vs[i] := by simp [hlt]
        rw [ev] at y
        rw [List.drop_eq_getElem_cons hlt] at w2
        refine .inr ⟨y.1, fun σ3 H3 => ∃ io h F sg, SR T X.K io h F H3 ∧ RSt T X.K io h.length F sg σ3 ∧ h1.length ≤ h.length ∧ (∀ k, k < h1.length → io k = io1 k) ∧ (∀ b o, F1 b = some o → F b = some o) ∧ WantsS T X.K io h.length F H3 W D (forItems (bodyOf g b) (vs.drop (i + 1)) sg h),
          fun σ' H' n' => ⟨vs.length - (i + 1), by omega, rfl, hlt, n'⟩, turn_of sr2 rs2 y (fun sg3 h3 io3 F3 H3 σ3 eb st3 sr3 rs3 => ?_) (fun sg3 h3 eb => ?_) (fun r eb hr => ?_)⟩
        · unfold forItems at w2
          refine ⟨io3, h3, F3, sg3, sr3, rs3, Nat.le_trans hn2 st3.le, fun k hk => (st3.eq k (Nat.lt_of_lt_of_le hk hn2)).trans (he2 k hk), fun b o e => st3.phi b o (hF2 b o e), ?_⟩
          rcases eb with eb | eb
          · rw [eb] at w2; exact WantsS.rebase w2 st3 sr3
          · rw [eb] at w2; exact WantsS.rebase w2 st3 sr3
        · unfold forItems at w2; rw [eb] at w2; exact w2
        · unfold forItems at w2; rw [eb] at w2
          cases r with
          | next _ _ => exact hr.elim
          | cont _ _ => exact hr.elim
          | brk _ _ => exact hr.elim
          | ret v h3 => exact w2
          | exc c fs sg3 h3 => exact w2
          | bad => exact w2
      · have : i = vs.length := by omega
        subst this
        rw [List.getElem?_eq_none (Nat.le_refl _)] at y
        rw [List.drop_length] at w2
        exact .inl ⟨y, w2 io2 F2 H2 σ2 .refl sr2 rs2⟩
    | ref k =>
      have w1 := WantsS.rebase w st1 sr1
      refine ⟨fun i m σ H => ∃ io h F sg, SR T X.K io h F H ∧ RSt T X.K io h.length F sg σ ∧ h1.length ≤ h.length ∧ (∀ k, k < h1.length → io k = io1 k) ∧ (∀ b o, F1 b = some o → F b = some o) ∧ WantsS T X.K io h.length F H W D (forRef (bodyOf g b) k m i sg h),
        ⟨1000000, io1, h1, F1, sg, sr1, rs1, Nat.le_refl _, fun _ _ => rfl, fun _ _ e => e, w1⟩, ?_⟩
      rintro i m σ2 H2 ⟨io2, h2, F2, sg2, sr2, rs2, hn2, he2, hF2, w2⟩
      cases m with
      | zero => exact w2.elim
      | succ m =>
        unfold forRef at w2
        cases ek : k h2 with
        | none => rw [ek] at w2; exact w2.elim
        | some xs =>
          rw [ek] at w2
          · have y := so i io2 h2 F2 H2 xs sr2 hn2 he2 hF2 ek
            dsimp only at w2
            cases ev : xs[i]? with
            | none => rw [ev] at w2 y; exact .inl ⟨y, w2 io2 F2 H2 σ2 .refl sr2 rs2⟩
            | some v =>
              rw [ev] at w2 y
              dsimp only at w2
              refine .inr ⟨y.1, fun σ3 H3 => ∃ io h F sg, SR T X.K io h F H3 ∧ RSt T X.K io h.length F sg σ3 ∧ h1.length ≤ h.length ∧ (∀ k, k < h1.length → io k = io1 k) ∧ (∀ b o, F1 b = some o → F b = some o) ∧ WantsS T X.K io h.length F H3 W D (forRef (bodyOf g b) k m (i + 1) sg h),
                fun σ' H' n' => ⟨m, Nat.lt_succ_self _, n'⟩, turn_of sr2 rs2 y (fun sg3 h3 io3 F3 H3 σ3 eb st3 sr3 rs3 => ?_) (fun sg3 h3 eb => ?_) (fun r eb hr => ?_)⟩
              · refine ⟨io3, h3, F3, sg3, sr3, rs3, Nat.le_trans hn2 st3.le, fun k hk => (st3.eq k (Nat.lt_of_lt_of_le hk hn2)).trans (he2 k hk), fun b o e => st3.phi b o (hF2 b o e), ?_⟩
                rcases eb with eb | eb
                · rw [eb] at w2; exact WantsS.rebase w2 st3 sr3
                · rw [eb] at w2; exact WantsS.rebase w2 st3 sr3
              · rw [eb] at w2; exact w2
              · rw [eb] at w2
                cases r with
                | next _ _ => exact hr.elim
                | cont _ _ => exact hr.elim
                | brk _ _ => exact hr.elim
                | ret v h3 => exact w2
                | exc c fs sg3 h3 => exact w2
                | bad => exact w2
      /-! the things that are walked -/
def xISeq (e : Ex) : Ix := fun sg h => match e sg h with
  | .ok v h1 => (match v with
    | .lst vs => .ok (.items vs) h1
    | .ref k => (match h1[k]? with
      | some (.lst _) => .ok (.ref (curL k)) h1
      | _ => .bad)
    | _ => .bad)
  | .exc c fs h1 => .exc c fs h1
  | .bad => .bad
def xITup (e : Ex) : Ix := fun sg h => match e sg h with
  | .ok v h1 => (match v with
    | .tup vs => .ok (.items vs) h1
    | _ => .bad)
  | .exc c fs h1 => .exc c fs h1
  | .bad => .bad
theorem ji_list {tg iter : Expr} (he : JE T X W iter fe) : JI T X W tg iter (xISeq fe) := by
  refine pi_imp (pi_list he) fun σ H R ⟨io, h, F, sg, sr, rs, w⟩ => ⟨io, h, F, sg, sr, rs, ?_⟩
  unfold xISeq at w
  cases e : fe sg h with
  | bad => rw [e] at w; exact w
  | exc c fs h1 => rw [e] at w; exact w
  | ok v h1 =>
    rw [e] at w
    intro io1 F1 H1 x st1 sr1 vr
    cases vr with
    | @lst vs a xs q r =>
      refine ⟨a, rfl, ⟨xs, sqL_mono sr1.sub q⟩, w io1 F1 H1 _ st1 sr1 fun i io2 h2 F2 H2 sr2 hn he hF hi => ?_⟩
      have q2 : SqL X.K H2 a xs := sqL_mono sr2.sub (sqL_mono hF q)
      by_cases hlt : i < vs.length
      · have ev : vs[i]? = some vs[i] := by simp [hlt]
        obtain ⟨x', ex, rx⟩ := r.get ev
        rw [ev]
        refine ⟨⟨xs, x', q2, ex⟩, fun x H' ⟨e', y⟩ => ?_⟩
        subst e'
        have : x = x' := Option.some.inj ((y xs q2).symm.trans ex)
        subst this
        exact ⟨F2, .refl, sr2, rx.mono hn he hF⟩
      · rw [List.getElem?_eq_none (by omega)]
        exact ⟨xs, q2, by rw [← r.length]; omega⟩
    | ref k hk =>
      dsimp only at w
      cases ek : h1[k]? with
      | none => rw [ek] at w; exact w.elim
      | some ob =>
        rw [ek] at w
        cases ob with
        | ins c vs => exact w.elim
        | dct ks vs => exact w.elim
        | lst vs =>
          obtain ⟨xs, ea, r⟩ := sr1.obj k _ ek
          refine ⟨io1 k, rfl, ⟨xs, SqL.of ea⟩, w io1 F1 H1 _ st1 sr1 fun i io2 h2 F2 H2 ys sr2 hn he hF ek2 => ?_⟩
          obtain ⟨xs2, ea2, r2⟩ := sr2.obj k _ (curL_ok ek2)
          rw [he k hk] at ea2
          cases ev : ys[i]? with
          | none => exact ⟨xs2, SqL.of ea2, by rw [← r2.length]; exact List.getElem?_eq_none_iff.mp ev⟩
          | some v =>
            obtain ⟨x', ex, rx⟩ := r2.get ev
            refine ⟨⟨xs2, x', SqL.of ea2, ex⟩, fun x H' ⟨e', y⟩ => ?_⟩
            subst e'
            have : x = x' := Option.some.inj ((y xs2 (SqL.of ea2)).symm.trans ex)
            subst this
            exact ⟨F2, .refl, sr2, rx⟩
    | _ => exact w.elim
theorem ji_tup {tg iter : Expr} (he : JE T X W iter fe) : JI T X W tg iter (xITup fe) := by
  refine pi_imp (pi_tup he) fun σ H R ⟨io, h, F, sg, sr, rs, w⟩ => ⟨io, h, F, sg, sr, rs, ?_⟩
  unfold xITup at w
  cases e : fe sg h with
  | bad => rw [e] at w; exact w
  | exc c fs h1 => rw [e] at w; exact w
  | ok v h1 =>
    rw [e] at w
    intro io1 F1 H1 x st1 sr1 vr
    cases vr with
    | @tup vs a xs q r =>
      refine ⟨a, rfl, ⟨xs, sqT_mono sr1.sub q⟩, w io1 F1 H1 _ st1 sr1 fun i io2 h2 F2 H2 sr2 hn he hF hi => ?_⟩
      have q2 : SqT X.K H2 a xs := sqT_mono sr2.sub (sqT_mono hF q)
      by_cases hlt : i < vs.length
      · have ev : vs[i]? = some vs[i] := by simp [hlt]
        obtain ⟨x', ex, rx⟩ := r.get ev
        rw [ev]
        refine ⟨⟨xs, x', q2, ex⟩, fun x H' ⟨e', y⟩ => ?_⟩
        subst e'
        have : x = x' := Option.some.inj ((y xs q2).symm.trans ex)
        subst this
        exact ⟨F2, .refl, sr2, rx.mono hn he hF⟩
      · rw [List.getElem?_eq_none (by omega)]
        exact ⟨xs, q2, by rw [← r.length]; omega⟩
    | _ => exact w.elim
def rng (lo : Int) : Nat → List Val
  | 0 => []
  | n + 1 => .int lo :: rng (lo + 1) n
theorem rng_len : ∀ (lo : Int) (n : Nat), (rng lo n).length = n
  | _, 0 => rfl
  | lo, n + 1 => by simp [rng, rng_len (lo + 1) n]
theorem rng_get : ∀ (lo : Int) (n i : Nat), i < n → (rng lo n)[i]? = some (.int (lo + i))
  | _, 0, _, h => absurd h (Nat.not_lt_zero _)
  | lo, n + 1, 0, _ => by simp [rng]
  | lo, n + 1, i + 1, h => by
    have := rng_get (lo + 1) n i (by omega)
    simp only [rng, List.getElem?_cons_succ, this]
    congr 2
    omega
theorem src_rng {K : PySem.W.Frag} {io0 : Nat → Addr} {n0 : Nat} {F0 : Hp} (lo : Int) (n : Nat) : SrcOk T K io0 n0 F0 (Itr lo n) (.items (rng lo n)) := by
  intro i io h F H sr hn he hF hi
  rw [rng_len] at hi
  by_cases hlt : i < n
  · rw [rng_get lo n i hlt]
    refine ⟨hlt, fun x H' ⟨e1, e2⟩ => ?_⟩
    subst e1 e2
    exact ⟨F, .refl, sr, .int _⟩
  · rw [List.getElem?_eq_none (by rw [rng_len]; omega)]
    exact Nat.not_lt.mp hlt
def small62 (i : Int) : Bool := decide (-4611686018427387904 ≤ i) && decide (i < 4611686018427387904)
theorem small62_ok {i : Int} (h : small62 i = true) : -(2 ^ 62) ≤ i ∧ i < 2 ^ 62 := by
  unfold small62 at h
  simp only [Bool.and_eq_true, decide_eq_true_eq] at h
  have e : (2 : Int) ^ 62 = 4611686018427387904 := by decide
  omega
def xIRng1 (l : Lx) : Ix := fun sg h => match l sg h with
  | .ok [.int j] h1 => if small62 j then .ok (.items (rng 0 j.toNat)) h1 else .bad
  | .ok _ _ => .bad
  | .exc c fs h1 => .exc c fs h1
  | .bad => .bad
theorem ji_range1 {tg : Expr} {fl : Lx} {p : Pos} (hg : Gl X "range") (hm : X.mg "range" = none) (ha : JA T X W [a] fl) (hs : starEach [a] X.env = [(false, eval a X.env)] := by rfl) : JI T X W tg (.Call (.Name "range" p) [a] [] pos) (xIRng1 fl) := by
  refine pi_imp (pi_range1 hg hm ha hs) fun σ H R ⟨io, h, F, sg, sr, rs, w⟩ => ⟨io, h, F, sg, sr, rs, ?_⟩
  unfold xIRng1 at w
  cases e : fl sg h with
  | bad => rw [e] at w; exact w
  | exc c fs h1 => rw [e] at w; exact w
  | ok vs h1 =>
    rw [e] at w
    intro io1 F1 H1 xs st1 sr1 vrs
    match vs, vrs, w with
    | [.int j], .cons (.int _) .nil, w =>
      by_cases hj : small62 j = true
      · simp only [hj, if_true] at w
        obtain ⟨h1, h2⟩ := small62_ok hj
        exact ⟨j, rfl, h1, h2, w io1 F1 H1 _ st1 sr1 (src_rng 0 j.toNat)⟩
      · simp only [hj] at w; exact w.elim
    | [], _, w => exact w.elim
    | .non :: _, _, w => exact w.elim
    | .bl _ :: _, _, w => exact w.elim
    | .str _ :: _, _, w => exact w.elim
    | .tup _ :: _, _, w => exact w.elim
    | .lst _ :: _, _, w => exact w.elim
    | .obj _ _ :: _, _, w => exact w.elim
    | .ref _ :: _, _, w => exact w.elim
    | .glo _ :: _, _, w => exact w.elim
    | .dct _ _ :: _, _, w => exact w.elim
    | .int _ :: _ :: _, _, w => exact w.elim
end
end Py
namespace Py
open PySem PySem.Spec PyProof.Rows L2
structure RoomG (k : Nat) (A : Around) : Prop where
  rm : Room k A
  gd : A.guards = some []
theorem RoomG.mono {j k : Nat} {A : Around} (r : RoomG k A) (h : j ≤ k) : RoomG j A := ⟨r.rm.mono h, r.gd⟩
theorem RoomG.deeper {k : Nat} {A : Around} (r : RoomG (k + 1) A) (env : Env) : RoomG k (A.deeper env) := ⟨r.rm.deeper env, r.gd⟩
theorem RoomG.in1 {k : Nat} {A : Around} (r : RoomG (k + 1) A) : RoomG k A.in1 := ⟨r.rm.in1, r.gd⟩
theorem RoomG.make {k : Nat} {A : Around} (r : RoomG (k + 1) A) (C : Addr) (us : List Value) (kw : List (Str × Value)) : RoomG k (A.under (.builtin "type.__call__" ⟨.ref C :: us, kw⟩)) := ⟨r.rm.make C us kw, r.gd⟩
theorem RoomG.units {k : Nat} {A : Around} (r : RoomG k A) : A.units + 64 < cLine := r.rm.units
theorem RoomG.units0 {k : Nat} {A : Around} (r : RoomG k A) : A.units < cLine := r.rm.units0
theorem RoomG.un {k : Nat} {A : Around} (r : RoomG k A) : A.units + 16 * k + 200 < cLine := r.rm.un
structure FnG (P : Program) (w : World) (K : PySem.W.Frag) (mg : Str → Option Value) (base : Heap) (C : CXT) (k : Nat) (f : Addr) (fd : FuncData) (ps : List Str) (sp : Sp) : Prop where
  len : ∀ vs H Q E, sp vs H Q E → vs.length = ps.length
  run : ∀ (A : Around) (outer : List Env) (s : Shared) (H : Hp) (args : Args) (us : List Value) (vs : List V) (Q : VK) (E : XK), RoomG k A → Env0 P w K mg base A outer s H → BindsTo s fd args (ps.zip us) → Vals vs us → sp vs H Q E →
    codeAny (model P w) A (.call (.ref f) args) (CR C outer P w H s Q E) s
section
variable {P : Program} {w : World} {K : PySem.W.Frag} {mg : Str → Option Value} {base : Heap} {C : CXT} {k : Nat} {f : Addr} {x qual : Str} {params : Arguments} {body : List Stmt} {scope : Scope} {dvs : List V} {kws : List (Str × V)} {fd : FuncData} {N ps : List Str} {sp : Sp}
theorem fnG_of (FD : FunD K x qual params body scope dvs kws f fd) (S : FnScope N ps scope) (hlen : ∀ vs H Q E, sp vs H Q E → vs.length = ps.length)
    (hbd : ∀ (cdv : Value) (A : Around) (outer : List Env) (s : Shared) (H : Hp) (vs : List V) (Q : VK) (E : XK), RoomG k (A.deeper (envOfC qual scope s.heap.objs.size f cdv)) → sp vs H Q E →
      ∃ t, PSs (cxOf C P w K mg base N qual scope f cdv A outer s H E) body t ∧ t { nx := fun _ H' => Q .non H', rt := Q } (start N vs) H) : FnG P w K mg base C (k + 1) f fd ps sp := by
  obtain ⟨oc, od, dV, kV, doc, pm, an, cdv, ct, osl, rfl, lk, hcd, _, _⟩ := FD.ex
  refine ⟨hlen, fun A outer s H args us vs Q E room e0 hbind rel hs => ?_⟩
  have KI : K.In s.heap := e0.mod.kin.keeps fun b o z => (e0.bs b o z).1
  have nolim : s.heap.NoLimit := e0.mod.nolimit.keeps fun b o z => (e0.bs b o z).1
  have kinds : ∀ y ∈ ps.zip us, scope.names.lookup y.1 = some .local ∨ (scope.names.lookup y.1 = some .cell ∧ ((cellsFrom (s.heap.objs.size + 1) scope.names []).lookup y.1).isSome = true) := by
    rintro ⟨n, v⟩ hy
    have hn := S.par n (List.of_mem_zip hy).1
    exact hn.elim .inl fun z => .inr ⟨z, PySem.W.cellsFrom_some _ _ _ (.inl z)⟩
  refine codeAny_call_function room.rm.depth (KI _ _ lk) rfl S.co S.gen rfl (PySem.W.codeRec_of KI hcd) (hbind _ _ _ _ (wpAny_newFunctionEnv_cells S.kind kinds fun env henv s1 new => ?_))
  subst henv
  refine ⟨nolim.keeps new.toInCall.keep, codeAny_func ?_⟩
  obtain ⟨t, rt, wt⟩ := hbd cdv A outer s H vs Q E (room.deeper _) hs
  have I0 : L2.Inv (cxOf C P w K mg base N qual scope f cdv A outer s H E) [] (start N vs) H s1 := inv_start S room.rm.hd e0 (hlen _ _ _ _ hs) rel new
  refine wpAny_mono (rt.run [] s1 _ H _ I0 wt) (fun flow s2 h2 => ?_) fun _ _ z => z
  match flow, h2 with
  | .ret u, ⟨v, σ2, H2, J, rv, q⟩ => exact ⟨v, H2, J.os, J.bare, J.base, J.hok, rv, q⟩
  | .next, ⟨σ2, H2, J, q⟩ => exact ⟨V.non, H2, J.os, J.bare, J.base, J.hok, rfl, q⟩
  | .brk, ⟨_, _, _, q⟩ => exact False.elim q
  | .cont, ⟨_, _, _, q⟩ => exact False.elim q
end
section
variable {X : Cx} {C : CXT} {k : Nat} {f : Addr} {fd : FuncData} {ps : List Str} {sp : Sp} {dvs : List V} {ds : List Value} {E : L2.St → XK} {x : Str} {p pos : Pos} {e : Expr} {es : List Expr} {t : TA}
theorem run_fnG {pins : List (Addr × PySem.Obj)} {σ : L2.St} {H : Hp} {s : Shared} {Q : VK} {us : List Value} {vs : List V} (F : FnG X.prog X.w X.K X.mg X.base C k f fd ps sp) (hr : RoomG k X.A) (hb : Binds X.K fd ps ds) (hd : Vals dvs ds) (hx : PassesAt C X σ (E σ))
    (I : L2.Inv X pins σ H s) (r : Vals vs us) (h : sp (vs ++ dvs) H Q (E σ)) : wpAny (model X.prog X.w) X.A (call (.ref f) us) (EP X pins σ Q) X.xe s := by
  have both : Vals (vs ++ dvs) (us ++ ds) := r.append hd
  have many : (us ++ ds).length = ps.length := both.length.symm.trans (F.len _ _ _ _ h)
  refine wpAny_call (codeAny_mono (F.run X.A X.stack s H ⟨us, []⟩ (us ++ ds) (vs ++ dvs) Q (E σ) hr I.env0 (hb s us I.kIn many) both h) fun res s' hres => ?_)
  match res, hres with
  | .error er, z => exact hx pins H s er s' I z
  | .ok (.ret u), z => exact I.after z
  | .ok .next, z => exact False.elim z
  | .ok .brk, z => exact False.elim z
  | .ok .cont, z => exact False.elim z
theorem pe_callG (F : FnG X.prog X.w X.K X.mg X.base C k f fd ps sp) (hr : RoomG k X.A) (hg : Gl X x) (hm : X.mg x = some (.ref f)) (hk : PySem.W.keepIn X.K (.ref f) = true) (hb : Binds X.K fd ps ds) (hd : Vals dvs ds) (hx : ∀ σ, PassesAt C X σ (E σ))
    (ha : PA X (e :: es) t) (hdb : (x == ("__debug__" : Str)) = false) (he : starEach (e :: es) X.env = (false, eval e X.env) :: starEach es X.env) (hpl : (backTo pos (starEach es X.env)).any (·.1) = false) :
    PE X (.Call (.Name x p) (e :: es) [] pos) (tCallSD sp dvs E t) :=
  ⟨fun pins s σ H Q I h => wpAny_Call_Name_kw (ld_glob I hg hm (PySem.W.callWith_K (h₀ := X.base) I.ok.mod.kin hk (thn (ha.run pos pins s σ H _ I h) fun us s1 ⟨vs, H1, I1, r, q⟩ => ⟨I1.kIn, run_fnG F hr hb hd (hx σ) I1 r q⟩) he hpl) hdb)⟩
end
end Py
namespace Py
open PySem PySem.Spec PyProof.Rows L2
abbrev Fx := Hh → List Val → Res
def fnOf (np nN : Nat) (body : Sx) : Fx := fun h as => if as.length = np then (match body (as.map some ++ List.replicate (nN - np) none) h with
  | .ret v h' => .ok v h'
  | .next _ h' => .ok .non h'
  | .exc c fs _ h' => .exc c fs h'
  | _ => .bad) else .bad
def spF (T : Tb) (K : PySem.W.Frag) (f : Fx) : Sp := fun vs H Q E => ∃ io h F as, SR T K io h F H ∧ VRs T K io h.length F as vs ∧ Wants T K io h.length F H E Q (f h as)
theorem rst_start {T : Tb} {K : PySem.W.Frag} {io : Nat → Addr} {n : Nat} {F : Hp} {as : List Val} {vs : List V} (r : VRs T K io n F as vs) (m : Nat) : RSt T K io n F (as.map some ++ List.replicate m none) (vs.map some ++ List.replicate m none) := by
  have hl := r.length
  refine ⟨by simp [hl], fun i v e => ?_⟩
  by_cases hi : i < as.length
  · rw [List.getElem?_append_left (by simpa using hi), List.getElem?_map] at e
    have ev : as[i]? = some v := by
      cases q : as[i]? with
      | none => rw [q] at e; simp at e
      | some u => rw [q] at e; simp at e; rw [e]
    obtain ⟨x, ex, rx⟩ := r.get ev
    exact ⟨x, by rw [List.getElem?_append_left (by simp; omega), List.getElem?_map, ex]; rfl, rx⟩
  · rw [List.getElem?_append_right (by simp; omega)] at e
    rw [List.getElem?_replicate] at e
    split at e <;> simp at e
theorem fn_ok {P : Program} {w : World} {K : PySem.W.Frag} {mg : Str → Option Value} {base : Heap} {x qual : Str} {params : Arguments} {body : List Stmt} {scope : Scope} {dvs : List V} {kws : List (Str × V)} {f : Addr} {fd : FuncData} {T : Tb} {N ps : List Str} {k : Nat} {fb : Sx}
    (FD : FunD K x qual params body scope dvs kws f fd) (S : FnScope N ps scope)
    (hb : ∀ (cdv : Value) (A : Around) (outer : List Env) (s : Shared) (H : Hp) (E : XK), RoomG k (A.deeper (envOfC qual scope s.heap.objs.size f cdv)) →
      JSs T (cxOf (CX P w) P w K mg base N qual scope f cdv A outer s H E) (fun c d _ H => E c d H) body fb) :
    FnG P w K mg base (CX P w) (k + 1) f fd ps (spF T K (fnOf ps.length N.length fb)) := by
  refine fnG_of FD S (fun vs H Q E ⟨io, h, F, as, sr, vrs, w⟩ => ?_) fun cdv A outer s H vs Q E hr ⟨io, h, F, as, sr, vrs, w⟩ => ⟨_, hb cdv A outer s H E hr, ?_⟩
  · unfold fnOf at w
    by_cases hl : as.length = ps.length
    · rw [← vrs.length]; exact hl
    · rw [if_neg hl] at w; exact w.elim
  · unfold fnOf at w
    by_cases hl : as.length = ps.length
    · rw [if_pos hl] at w
      have e : L2.start N vs = vs.map some ++ List.replicate (N.length - ps.length) none := by unfold L2.start; rw [← vrs.length, hl]
      rw [e]
      refine ⟨io, h, F, _, sr, rst_start vrs _, ?_⟩
      cases q : fb (as.map some ++ List.replicate (N.length - ps.length) none) h with
      | next sg h1 => rw [q] at w; exact fun io' F' H' σ' st sr' rs' => w io' F' H' _ st sr' .non
      | ret v h1 => rw [q] at w; exact w
      | brk sg h1 => rw [q] at w; exact w.elim
      | cont sg h1 => rw [q] at w; exact w.elim
      | exc c fs sg h1 => rw [q] at w; exact fun io' F' H' σ' d st sr' rs' xr => w io' F' H' d st sr' xr
      | bad => rw [q] at w; exact w.elim
    · rw [if_neg hl] at w; exact w.elim
mutual
def pureV : Val → Bool
  | .ref _ => false
  | .tup vs => pureVs vs
  | .lst vs => pureVs vs
  | .obj _ vs => pureVs vs
  | .dct _ vs => pureVs vs
  | _ => true
def pureVs : List Val → Bool
  | [] => true
  | v :: vs => pureV v && pureVs vs
end
mutual
theorem nkV_pure : ∀ {v : Val} {n : NestedKey}, nkV v = some n → pureV v = true
  | .non, _, _ => rfl
  | .bl _, _, _ => rfl
  | .int _, _, _ => rfl
  | .str _, _, _ => rfl
  | .tup vs, _, e => by
    unfold nkV at e
    cases q : nkVs vs with
    | none => rw [q] at e; cases e
    | some l => unfold pureV; exact nkVs_pure q
  | .lst _, _, e => by simp [nkV] at e
  | .obj _ _, _, e => by simp [nkV] at e
  | .ref _, _, e => by simp [nkV] at e
  | .glo _, _, e => by simp [nkV] at e
  | .dct _ _, _, e => by simp [nkV] at e
theorem nkVs_pure : ∀ {vs : List Val} {n : List NestedKey}, nkVs vs = some n → pureVs vs = true
  | [], _, _ => rfl
  | v :: vs, _, e => by
    unfold nkVs at e
    cases q : nkV v with
    | none => rw [q] at e; cases e
    | some a =>
      cases q2 : nkVs vs with
      | none => rw [q, q2] at e; cases e
      | some b => simp [pureVs, nkV_pure q, nkVs_pure q2]
end
theorem pureVs_mem : ∀ {vs : List Val}, (∀ v ∈ vs, pureV v = true) → pureVs vs = true
  | [], _ => rfl
  | v :: vs, h => by simp [pureVs, h v (by simp), pureVs_mem fun u hu => h u (List.mem_cons_of_mem _ hu)]
theorem KeysOk.pure {ks : List Val} (h : KeysOk ks) : pureVs ks = true := pureVs_mem fun k hk => by
  rcases h.1 with z | z
  · obtain ⟨l, e, _⟩ := z k hk; exact nkV_pure e
  · rcases z k hk with ⟨i, rfl⟩ | ⟨s, rfl⟩ <;> rfl
section
variable {T : Tb} {K : PySem.W.Frag} {io io' : Nat → Addr} {n m : Nat} {F : Hp}
mutual
theorem VR.pure : ∀ {v : Val} {x : V}, VR T K io n F v x → pureV v = true → VR T K io' m F v x
  | _, _, .non, _ => .non
  | _, _, .bl b, _ => .bl b
  | _, _, .int i, _ => .int i
  | _, _, .str s, _ => .str s
  | _, _, .ref k h, e => by simp [pureV] at e
  | _, _, .tup h r, e => .tup h (VRs.pure r (by simpa [pureV] using e))
  | _, _, .lst h r, e => .lst h (VRs.pure r (by simpa [pureV] using e))
  | _, _, .obj h hd r hl, e => .obj h hd (VRs.pure r (by simpa [pureV] using e)) hl
  | _, _, .glo g, _ => .glo g
  | _, _, .dct h hk he r1 r2, e => .dct h hk he (VRs.pure r1 hk.pure) (VRs.pure r2 (by simpa [pureV] using e))
theorem VRs.pure : ∀ {v : List Val} {x : List V}, VRs T K io n F v x → pureVs v = true → VRs T K io' m F v x
  | _, _, .nil, _ => .nil
  | _, _, .cons h t, e => by
    simp [pureVs] at e
    exact .cons (VR.pure h e.1) (VRs.pure t e.2)
end
end
def frz (T : Nat → List Str) (h : Hh) : Nat → Val → Option Val
  | 0, _ => none
  | n + 1, v => match v with
    | .ref k => (match h[k]? with
      | some (.lst vs) => (vs.mapM (frz T h n)).map .lst
      | some (.ins c vs) => if vs.length = (T c).length then (vs.mapM (frz T h n)).map (.obj c) else none
      | some (.dct ks vs) => (vs.mapM (frz T h n)).map (.dct ks)
      | none => none)
    | .tup vs => (vs.mapM (frz T h n)).map .tup
    | .lst vs => (vs.mapM (frz T h n)).map .lst
    | .obj c vs => (vs.mapM (frz T h n)).map (.obj c)
    | .dct ks vs => (vs.mapM (frz T h n)).map (.dct ks)
    | v => some v
def frzTop (T : Nat → List Str) (h : Hh) (v : Val) : Option Val := match h with
  | [] => some v
  | _ => frz T h 30 v
def frzTops (T : Nat → List Str) (h : Hh) (vs : List Val) : Option (List Val) := match h with
  | [] => some vs
  | _ => vs.mapM (frz T h 30)
section
variable {T : Tb} {K : PySem.W.Frag} {io io' : Nat → Addr} {n m : Nat} {F F' F2 H H' : Hp} {h h' : Hh}
theorem mapM_VRs {g : Val → Option Val} (hg : ∀ v v' x, g v = some v' → VR T K io n F v x → VR T K io' m F2 v' x) : ∀ {vs vs' : List Val} {xs : List V}, vs.mapM g = some vs' → VRs T K io n F vs xs → VRs T K io' m F2 vs' xs
  | [], vs', xs, e, r => by
    simp at e; subst e
    cases r; exact .nil
  | v :: vs, vs', xs, e, r => by
    rw [List.mapM_cons] at e
    cases q : g v with
    | none => rw [q] at e; simp at e
    | some v' =>
      rw [q] at e
      cases q2 : vs.mapM g with
      | none => rw [q2] at e; simp at e
      | some us =>
        rw [q2] at e
        simp at e
        subst e
        cases r with
        | cons a b => exact .cons (hg v v' _ q a) (mapM_VRs hg q2 b)
theorem map_some {α β : Type} {o : Option α} {f : α → β} {b : β} (e : o.map f = some b) : ∃ a, o = some a ∧ f a = b := by
  cases o with
  | none => cases e
  | some a => exact ⟨a, rfl, Option.some.inj e⟩
theorem frz_ok (sr : SR T K io h F H) (hF : ∀ b o, F b = some o → F2 b = some o) (ht : ∀ k, k < h.length → F2 (io k) = H (io k)) (ho : ∀ k dx, k < h.length → H dx = some (.own (io k)) → F2 dx = some (.own (io k))) :
    ∀ (fu : Nat) (v v' : Val) (x : V), frz T.fn h fu v = some v' → VR T K io h.length F v x → VR T K io' 0 F2 v' x
  | 0, _, _, _, e, _ => by cases e
  | fu + 1, v, v', x, e, r => by
    have ih := frz_ok sr hF ht ho fu
    unfold frz at e
    cases r with
    | non => cases e; exact .non
    | bl b => cases e; exact .bl b
    | int i => cases e; exact .int i
    | str s => cases e; exact .str s
    | glo g => cases e; exact .glo g
    | @tup vs a xs q rr =>
      obtain ⟨us, e1, rfl⟩ := map_some e
      exact .tup (sqT_mono hF q) (mapM_VRs ih e1 rr)
    | @lst vs a xs q rr =>
      obtain ⟨us, e1, rfl⟩ := map_some e
      exact .lst (sqL_mono hF q) (mapM_VRs ih e1 rr)
    | @obj c vs a dx xs q qd rr hl =>
      obtain ⟨us, e1, rfl⟩ := map_some e
      exact .obj (hF _ _ q) (hF _ _ qd) (mapM_VRs ih e1 rr) hl
    | @dct ks vs a es ep xs ys q hk he r1 r2 =>
      obtain ⟨us, e1, rfl⟩ := map_some e
      exact .dct (hF _ _ q) hk he ((r1.pure (io' := io') (m := 0) hk.pure).mono (Nat.le_refl _) (fun _ _ => rfl) hF) (mapM_VRs ih e1 r2)
    | ref k hk =>
      dsimp only at e
      cases ek : h[k]? with
      | none => rw [ek] at e; cases e
      | some ob =>
        rw [ek] at e
        have o := sr.obj k ob ek
        cases ob with
        | lst vs =>
          obtain ⟨xs, ea, rr⟩ := o
          obtain ⟨us, e1, rfl⟩ := map_some e
          exact .lst (SqL.of (by rw [ht k hk]; exact ea)) (mapM_VRs ih e1 rr)
        | dct ks vs =>
          obtain ⟨es, ep, xs, ys, ea, hkk, he, r1, r2⟩ := o
          obtain ⟨us, e1, rfl⟩ := map_some e
          exact .dct (by rw [ht k hk]; exact ea) hkk.2 he ((r1.pure (io' := io') (m := 0) hkk.2.pure).mono (Nat.le_refl _) (fun _ _ => rfl) hF) (mapM_VRs ih e1 r2)
        | ins c vs =>
          obtain ⟨dx, xs, ea, ed, rr, hl⟩ := o
          dsimp only at e
          by_cases hz : vs.length = (T.fn c).length
          · rw [if_pos hz] at e
            obtain ⟨us, e1, rfl⟩ := map_some e
            refine .obj (dx := dx) (xs := xs) (by rw [ht k hk, ea, hz, List.take_length]) (ho k dx hk ed) (mapM_VRs ih e1 rr) ⟨by rw [← rr.length]; exact hz, hl.2⟩
          · rw [if_neg hz] at e; cases e
theorem VR.ofEmpty {v : Val} {x : V} (r : VR T K io n F v x) (hn : n = 0) : VR T K io' m F v x := r.mono (by omega) (fun k hk => absurd hk (by omega)) (fun _ _ e => e)
theorem VRs.ofEmpty {v : List Val} {x : List V} (r : VRs T K io n F v x) (hn : n = 0) : VRs T K io' m F v x := r.mono (by omega) (fun k hk => absurd hk (by omega)) (fun _ _ e => e)
open Classical in
/-- all that the callee leaves, frozen -/
noncomputable def F2of (io' : Nat → Addr) (n' : Nat) (F' H' : Hp) : Hp := fun b => match F' b with
  | some o => some o
  | none => if (∃ k, k < n' ∧ io' k = b) ∨ (∃ k, k < n' ∧ H' b = some (.own (io' k))) then H' b else none
theorem F2of_sub {n' : Nat} : ∀ b o, F' b = some o → F2of io' n' F' H' b = some o := fun b o e => by unfold F2of; rw [e]
theorem F2of_in {n' : Nat} (s : ∀ b o, F' b = some o → H' b = some o) : ∀ b o, F2of io' n' F' H' b = some o → H' b = some o := fun b o e => by
  unfold F2of at e
  cases q : F' b with
  | some u => rw [q] at e; cases e; exact s b _ q
  | none =>
    rw [q] at e
    dsimp only at e
    split at e
    · exact e
    · cases e
theorem F2of_at (sr : SR T K io' h' F' H') {k : Nat} (hk : k < h'.length) : F2of io' h'.length F' H' (io' k) = H' (io' k) := by
  unfold F2of
  rw [sr.dis k hk]
  dsimp only
  rw [if_pos (.inl ⟨k, hk, rfl⟩)]
theorem F2of_own (sr : SR T K io' h' F' H') {k : Nat} {dx : Addr} (hk : k < h'.length) (e : H' dx = some (.own (io' k))) : F2of io' h'.length F' H' dx = some (.own (io' k)) := by
  unfold F2of
  cases q : F' dx with
  | some u => have := sr.sub dx u q; rw [e] at this; cases this; rfl
  | none =>
    dsimp only
    rw [if_pos (.inr ⟨k, hk, e⟩)]
    exact e
theorem F2of_fresh {io0 : Nat → Addr} {n0 : Nat} (sr : SR T K io' h' F' H') (st : Step io0 n0 F H io' h'.length F' H') : ∀ b o, F2of io' h'.length F' H' b = some o → (∀ k, k < n0 → io0 k ≠ b) → F b = some o ∨ H b = none ∨ ∃ y, o = .own y := fun b o e hb => by
  unfold F2of at e
  cases q : F' b with
  | some u => rw [q] at e; cases e; exact st.fresh b _ q
  | none =>
    rw [q] at e
    dsimp only at e
    split at e
    · rename_i z
      rcases z with ⟨k, hk, rfl⟩ | ⟨k, hk, z⟩
      · by_cases hk0 : k < n0
        · exact absurd (st.eq k hk0).symm (hb k hk0)
        · exact .inr (.inl (st.new k (by omega) hk))
      · rw [z] at e; cases e; exact .inr (.inr ⟨_, rfl⟩)
    · cases e
theorem OR.notOwn {a : Addr} {o : Obj} (r : OR T K io n F H a o) : ∀ y, H a ≠ some (.own y) := fun y e => by
  cases o with
  | lst vs => obtain ⟨xs, q, _⟩ := r; rw [q] at e; cases e
  | ins c vs => obtain ⟨dx, xs, q, _⟩ := r; rw [q] at e; cases e
  | dct ks vs => obtain ⟨es, ep, xs, ys, q, _⟩ := r; rw [q] at e; unfold DO at e; cases e
end
def callP (T : Nat → List Str) (f : Fx) (as : List Val) (h : Hh) : Res := if (h.isEmpty || pureVs as) = true then (match f [] as with
  | .ok v h' => .ofO (frzTop T h' v) h
  | .exc c fs h' => (match frzTops T h' fs with
    | some fs' => .exc c fs' h
    | none => .bad)
  | .bad => .bad) else .bad
section
variable {T : Tb} {K : PySem.W.Frag} {io io' : Nat → Addr} {n m : Nat} {F F' H H' : Hp} {h h' : Hh} {W : XK} {Q : VK}
theorem sr_back (sr : SR T K io h F H) (st : Step io 0 F H io' h'.length F' H') (sr' : SR T K io' h' F' H') : SR T K io h (F2of io' h'.length F' H') H' ∧ Step io h.length F H io h.length (F2of io' h'.length F' H') H' := by
  have hH : ∀ b o, H b = some o → (∀ ps, o ≠ .tbl ps) → H' b = some o := fun b o e nt => st.frame b o e (fun k hk => absurd hk (Nat.not_lt_zero _)) nt
  have hF : ∀ b o, F b = some o → F2of io' h'.length F' H' b = some o := fun b o e => F2of_sub b o (st.phi b o e)
  have fr := F2of_fresh (io0 := io) (n0 := 0) sr' st
  refine ⟨⟨F2of_in sr'.sub, fun k hk => ?_, sr.inj, fun k o e => (sr.obj k o e).monoN (Nat.le_refl _) (fun _ _ => rfl) hF hH, fun pq hq => (sr'.tabs pq hq).mono (fun ps o h hp' e => by
    rcases F2of_fresh (io0 := io') (n0 := h'.length) sr' Step.refl _ _ e (fun k hk z => (sr'.obj k h'[k] (by simp [hk])).notTbl (by rw [z]; exact hp') ps rfl) with z | z | ⟨y, z⟩
    · rw [h] at z; cases z
    · rw [hp'] at z; cases z
    · have e3 := F2of_in sr'.sub _ _ e
      rw [hp', z] at e3; cases e3) (fun c o e _ => F2of_sub c o e) fun _ e => e⟩, ⟨Nat.le_refl _, fun _ _ => rfl, hF, fun b o e _ => st.frm b o e fun k hk => absurd hk (Nat.not_lt_zero _), fun k a b => absurd b (Nat.not_lt.mpr a), fun b o e => fr b o e fun k hk => absurd hk (Nat.not_lt_zero _)⟩⟩
  cases q : F2of io' h'.length F' H' (io k) with
  | none => rfl
  | some o =>
    exfalso
    obtain ⟨u, hu⟩ := sr.there hk
    rcases fr (io k) o q fun k hk => absurd hk (Nat.not_lt_zero _) with z | z | ⟨y, z⟩
    · rw [sr.dis k hk] at z; cases z
    · rw [hu] at z; cases z
    · subst z
      have e3 := F2of_in sr'.sub _ _ q
      have e2 : h[k]? = some h[k] := by simp [hk]
      rw [hH _ _ hu ((sr.obj k _ e2).notTbl hu)] at e3
      exact (sr.obj k _ e2).notOwn y (hu.trans e3)
theorem frzTop_ok (sr : SR T K io' h' F' H') {v v' : Val} {x : V} (e : frzTop T.fn h' v = some v') (r : VR T K io' h'.length F' v x) : VR T K io n (F2of io' h'.length F' H') v' x := by
  cases h' with
  | nil =>
    cases e
    exact r.mono (Nat.zero_le _) (fun k hk => absurd hk (Nat.not_lt_zero _)) F2of_sub
  | cons o t =>
    exact (frz_ok (io' := io) sr F2of_sub (fun k hk => F2of_at sr hk) (fun k dx hk e => F2of_own sr hk e) 30 v v' x e r).ofEmpty rfl
theorem frzTops_ok (sr : SR T K io' h' F' H') {v v' : List Val} {x : List V} (e : frzTops T.fn h' v = some v') (r : VRs T K io' h'.length F' v x) : VRs T K io n (F2of io' h'.length F' H') v' x := by
  cases h' with
  | nil =>
    cases e
    exact r.mono (Nat.zero_le _) (fun k hk => absurd hk (Nat.not_lt_zero _)) F2of_sub
  | cons o t =>
    exact (mapM_VRs (io' := io) (m := 0) (frz_ok (io' := io) sr F2of_sub (fun k hk => F2of_at sr hk) (fun k dx hk e => F2of_own sr hk e) 30) e r).ofEmpty rfl
theorem XR.change {F2 : Hp} {c : Nat} {fs fs' : List Val} {d : Option Addr} (x : XR T K io n F H c fs d) (hf : fs = [] → fs' = []) (hr : ∀ xs, VRs T K io n F fs xs → VRs T K io' m F2 fs' xs) : XR T K io' m F2 H c fs' d := by
  unfold XR at x ⊢
  cases hfn : T.fn c with
  | nil => rw [hfn] at x; exact ⟨x.1, hf x.2⟩
  | cons f r =>
    rw [hfn] at x
    obtain ⟨dd, xs, e1, e2, r, l⟩ := x
    exact ⟨dd, xs, e1, e2, hr xs r, l⟩
theorem frzTops_nil {T : Nat → List Str} {vs : List Val} (e : frzTops T h [] = some vs) : vs = [] := by
  cases h with
  | nil => cases e; rfl
  | cons o t => simpa [frzTops] using e.symm
theorem callP_ok {f : Fx} {as : List Val} {vs : List V} (sr : SR T K io h F H) (r : VRs T K io h.length F as vs) (w : Wants T K io h.length F H W Q (callP T.fn f as h)) : spF T K f vs H Q W := by
  unfold callP at w
  by_cases hp : (h.isEmpty || pureVs as) = true
  · rw [if_pos hp] at w
    have r0 : VRs T K io ([] : Hh).length F as vs := by
      rcases Bool.or_eq_true_iff.mp hp with z | z
      · have : h = [] := List.isEmpty_iff.mp z
        subst this; exact r
      · exact r.pure z
    refine ⟨io, [], F, as, ⟨sr.sub, fun k hk => absurd hk (Nat.not_lt_zero _), fun j k hj => absurd hj (Nat.not_lt_zero _), fun k o e => by simp at e, sr.tabs⟩, r0, ?_⟩
    cases e : f [] as with
    | bad => rw [e] at w; exact w
    | ok v h' =>
      rw [e] at w
      obtain ⟨z, ez, w1⟩ := wants_ofO w
      intro io1 F1 H1 x st sr1 vr
      obtain ⟨a, b⟩ := sr_back sr st sr1
      exact w1 io _ H1 x b a (frzTop_ok sr1 ez vr)
    | exc c fs h' =>
      rw [e] at w
      intro io1 F1 H1 d st sr1 xr
      dsimp only at w
      cases ez : frzTops T.fn h' fs with
      | none => rw [ez] at w; exact w.elim
      | some fs' =>
        rw [ez] at w
        obtain ⟨a, b⟩ := sr_back sr st sr1
        exact w io _ H1 d b a (xr.change (fun z => by subst z; exact frzTops_nil ez) fun xs r => frzTops_ok sr1 ez r)
  · rw [if_neg hp] at w; exact w.elim
end
theorem callP_heap {T : Nat → List Str} {f : Fx} {as : List Val} {h h2 : Hh} {v : Val} (e : callP T f as h = .ok v h2) : h2 = h := by
  unfold callP at e
  split at e
  · split at e
    · unfold Res.ofO at e
      split at e
      · cases e; rfl
      · cases e
    · split at e <;> cases e
    · cases e
  · cases e
mutual
def noLst : Val → Bool
  | .lst _ => false
  | .dct _ _ => false
  | .ref _ => false
  | .tup vs => noLsts vs
  | .obj _ vs => noLsts vs
  | _ => true
def noLsts : List Val → Bool
  | [] => true
  | v :: vs => noLst v && noLsts vs
end
open Classical in
noncomputable def FL (io : Nat → Addr) (n : Nat) (F H : Hp) : Hp := fun b => match F b with
  | some o => some o
  | none => if ∃ k xs, k < n ∧ io k = b ∧ H b = some (.lst xs) then H b else none
open Classical in
noncomputable def FB (F H F1 : Hp) : Hp := fun b => match F b with
  | some o => some o
  | none => if H b = none ∨ ∃ y, F1 b = some (.own y) then F1 b else none
section
variable {T : Tb} {K : PySem.W.Frag} {io io1 : Nat → Addr} {n : Nat} {F H F1 H1 : Hp} {h : Hh}
theorem FL_sub : ∀ b o, F b = some o → FL io n F H b = some o := fun b o e => by unfold FL; rw [e]
theorem FL_in (s : ∀ b o, F b = some o → H b = some o) : ∀ b o, FL io n F H b = some o → H b = some o := fun b o e => by
  unfold FL at e
  cases q : F b with
  | some u => rw [q] at e; cases e; exact s b _ q
  | none =>
    rw [q] at e
    dsimp only at e
    split at e
    · exact e
    · cases e
theorem FL_or (b : Addr) (o : HO) (e : FL io n F H b = some o) : F b = some o ∨ ∃ xs, o = .lst xs := by
  unfold FL at e
  cases q : F b with
  | some u => rw [q] at e; cases e; exact .inl rfl
  | none =>
    rw [q] at e
    dsimp only at e
    split at e
    · rename_i z
      obtain ⟨k, xs, _, _, z⟩ := z
      rw [z] at e
      cases e
      exact .inr ⟨xs, rfl⟩
    · cases e
theorem FL_at (sr : SR T K io h F H) {k : Nat} {xs : List V} (hk : k < h.length) (e : H (io k) = some (.lst xs)) : FL io h.length F H (io k) = some (.lst xs) := by
  unfold FL
  rw [sr.dis k hk]
  dsimp only
  rw [if_pos ⟨k, xs, hk, rfl, e⟩]
  exact e
theorem FB_sub : ∀ b o, F b = some o → FB F H F1 b = some o := fun b o e => by unfold FB; rw [e]
theorem FB_of (s : ∀ b o, F b = some o → H b = some o) (st : Step io 0 (FL io n F H) H io1 0 F1 H1) {b : Addr} {o : HO} (e : F1 b = some o) (hn : ∀ xs, o ≠ .lst xs) : FB F H F1 b = some o := by
  unfold FB
  cases q : F b with
  | some u =>
    have z := st.phi b u (FL_sub b u q)
    rw [e] at z
    cases z
    rfl
  | none =>
    dsimp only
    rcases st.fresh b o e with z | z | ⟨y, z⟩
    · rcases FL_or b o z with z | ⟨xs, z⟩
      · rw [q] at z; cases z
      · exact absurd z (hn xs)
    · rw [if_pos (.inl z)]; exact e
    · rw [if_pos (.inr ⟨y, by rw [e, z]⟩)]; exact e
mutual
theorem VR.back (s : ∀ b o, F b = some o → H b = some o) (st : Step io 0 (FL io n F H) H io1 0 F1 H1) : ∀ {v : Val} {x : V}, VR T K io1 0 F1 v x → noLst v = true → VR T K io n (FB F H F1) v x
  | _, _, .non, _ => .non
  | _, _, .bl b, _ => .bl b
  | _, _, .int i, _ => .int i
  | _, _, .str t, _ => .str t
  | _, _, .glo g, _ => .glo g
  | _, _, .ref k hk, _ => absurd hk (Nat.not_lt_zero _)
  | _, _, .lst q r, e => by simp [noLst] at e
  | _, _, .dct q _ _ _ _, e => by simp [noLst] at e
  | _, _, .tup q r, e => .tup (by
      rcases q with (q | ⟨o, q⟩) | q
      · exact .inl (.inl (FB_of s st q fun xs z => by cases z))
      · exact .inl (.inr ⟨o, FB_of s st q fun xs z => by cases z⟩)
      · exact .inr q) (VRs.back s st r (by simpa [noLst] using e))
  | _, _, .obj q qd r hl, e => .obj (FB_of s st q fun xs z => by cases z) (FB_of s st qd fun xs z => by cases z) (VRs.back s st r (by simpa [noLst] using e)) hl
theorem VRs.back (s : ∀ b o, F b = some o → H b = some o) (st : Step io 0 (FL io n F H) H io1 0 F1 H1) : ∀ {v : List Val} {x : List V}, VRs T K io1 0 F1 v x → noLsts v = true → VRs T K io n (FB F H F1) v x
  | _, _, .nil, _ => .nil
  | _, _, .cons a t, e => by
    simp [noLsts] at e
    exact .cons (VR.back s st a e.1) (VRs.back s st t e.2)
end
theorem lend_back (sr : SR T K io h F H) (st : Step io 0 (FL io h.length F H) H io1 0 F1 H1) (sr1 : SR T K io1 [] F1 H1) : SR T K io h (FB F H F1) H1 ∧ Step io h.length F H io h.length (FB F H F1) H1 := by
  have hH : ∀ b o, H b = some o → (∀ ps, o ≠ .tbl ps) → H1 b = some o := fun b o e nt => st.frame b o e (fun k hk => absurd hk (Nat.not_lt_zero _)) nt
  have inn : ∀ b o, FB F H F1 b = some o → H1 b = some o := fun b o e => by
    unfold FB at e
    cases q : F b with
    | some u => rw [q] at e; cases e; exact sr1.sub _ _ (st.phi _ _ (FL_sub _ _ q))
    | none =>
      rw [q] at e
      dsimp only at e
      split at e
      · exact sr1.sub _ _ e
      · cases e
  have fr : ∀ b o, FB F H F1 b = some o → F b = some o ∨ H b = none ∨ ∃ y, o = .own y := fun b o e => by
    unfold FB at e
    cases q : F b with
    | some u => rw [q] at e; cases e; exact .inl rfl
    | none =>
      rw [q] at e
      dsimp only at e
      split at e
      · rename_i z
        rcases z with z | ⟨y, z⟩
        · exact .inr (.inl z)
        · rw [z] at e; cases e; exact .inr (.inr ⟨y, rfl⟩)
      · cases e
  refine ⟨⟨inn, fun k hk => ?_, sr.inj, fun k o e => (sr.obj k o e).monoN (Nat.le_refl _) (fun _ _ => rfl) FB_sub hH, fun pq hq => (sr1.tabs pq hq).mono (fun ps o h hp' e => by
    obtain ⟨f0, ps0, hp0, _⟩ := sr.tabs pq hq
    rcases fr _ _ e with z | z | ⟨y, z⟩
    · rw [f0] at z; cases z
    · rw [hp0] at z; cases z
    · have e3 := inn _ _ e
      rw [hp', z] at e3; cases e3) (fun c o e nl => FB_of sr.sub st e nl) fun _ e => e⟩, ⟨Nat.le_refl _, fun _ _ => rfl, FB_sub, fun b o e _ => st.frm b o e fun k hk => absurd hk (Nat.not_lt_zero _), fun k a b => absurd b (Nat.not_lt.mpr a), fr⟩⟩
  cases q : FB F H F1 (io k) with
  | none => rfl
  | some o =>
    exfalso
    obtain ⟨u, hu⟩ := sr.there hk
    rcases fr _ _ q with z | z | ⟨y, z⟩
    · rw [sr.dis k hk] at z; cases z
    · rw [hu] at z; cases z
    · subst z
      have e3 := inn _ _ q
      have e2 : h[k]? = some h[k] := by simp [hk]
      rw [hH _ _ hu ((sr.obj k _ e2).notTbl hu)] at e3
      exact (sr.obj k _ e2).notOwn y (hu.trans e3)
end
def lend (h : Hh) (v : Val) : Option Val := if pureV v = true then some v else match v with
  | .ref k => (match h[k]? with
    | some (.lst vs) => if pureVs vs = true then some (.lst vs) else none
    | _ => none)
  | _ => none
theorem lend_ok {T : Tb} {K : PySem.W.Frag} {io : Nat → Addr} {F H : Hp} {h : Hh} (sr : SR T K io h F H) (v v' : Val) (x : V) (e : lend h v = some v') (r : VR T K io h.length F v x) : VR T K io 0 (FL io h.length F H) v' x := by
  unfold lend at e
  by_cases hp : pureV v = true
  · rw [if_pos hp] at e
    cases e
    exact (r.pure (io' := io) (m := 0) hp).mono (Nat.le_refl _) (fun _ _ => rfl) FL_sub
  · rw [if_neg hp] at e
    cases r with
    | ref k hk =>
      dsimp only at e
      cases ek : h[k]? with
      | none => rw [ek] at e; cases e
      | some ob =>
        rw [ek] at e
        cases ob with
        | ins c vs => cases e
        | dct ks vs => cases e
        | lst vs =>
          dsimp only at e
          split at e
          · rename_i hv
            cases e
            obtain ⟨xs, ea, rr⟩ := sr.obj k _ ek
            exact .lst (SqL.of (FL_at sr hk ea)) ((rr.pure (io' := io) (m := 0) hv).mono (Nat.le_refl _) (fun _ _ => rfl) FL_sub)
          · cases e
    | _ => cases e
def callQ (T : Nat → List Str) (f : Fx) (as : List Val) (h : Hh) : Res := if pureVs as = true then callP T f as h else match as.mapM (lend h) with
  | some bs => (match callP T f bs [] with
    | .ok v _ => if noLst v = true then .ok v h else .bad
    | _ => .bad)
  | none => .bad
theorem callQ_ok {T : Tb} {K : PySem.W.Frag} {io : Nat → Addr} {F H : Hp} {h : Hh} {W : XK} {Q : VK} {f : Fx} {as : List Val} {vs : List V} (sr : SR T K io h F H) (r : VRs T K io h.length F as vs) (w : Wants T K io h.length F H W Q (callQ T.fn f as h)) : spF T K f vs H Q W := by
  unfold callQ at w
  by_cases hp : pureVs as = true
  · rw [if_pos hp] at w
    exact callP_ok sr r w
  · rw [if_neg hp] at w
    cases em : as.mapM (lend h) with
    | none => rw [em] at w; exact w.elim
    | some bs =>
      rw [em] at w
      dsimp only at w
      have r0 : VRs T K io ([] : Hh).length (FL io h.length F H) bs vs := mapM_VRs (lend_ok sr) em r
      have s0 : SR T K io [] (FL io h.length F H) H := ⟨FL_in sr.sub, fun k hk => absurd hk (Nat.not_lt_zero _), fun j k hj => absurd hj (Nat.not_lt_zero _), fun k o e => by simp at e, fun pq hq => (sr.tabs pq hq).mono (fun ps o h hp' e => by
    rcases FL_or _ _ e with z | ⟨xs, z⟩
    · rw [h] at z; cases z
    · have e3 := FL_in sr.sub _ _ e
      rw [hp', z] at e3; cases e3) (fun c o e _ => FL_sub c o e) fun _ e => e⟩
      refine callP_ok s0 r0 ?_
      cases ec : callP T.fn f bs [] with
      | bad => rw [ec] at w; exact w.elim
      | exc c fs h' => rw [ec] at w; exact w.elim
      | ok v h2 =>
        have eh := callP_heap ec
        subst eh
        rw [ec] at w
        dsimp only at w
        split at w
        · rename_i hz
          intro io1 F1 H1 x st sr1 vr
          obtain ⟨a, b⟩ := lend_back sr st sr1
          exact w io _ H1 x b a (vr.back sr.sub st hz)
        · exact w.elim
structure Fn (T : Tb) (X : Cx) (x : Str) (ps : List Str) (k : Nat) (f : Fx) : Prop where
  ex : ∃ (a : Addr) (fd : FuncData), FnG X.prog X.w X.K X.mg X.base (CX X.prog X.w) k a fd ps (spF T X.K f) ∧ X.mg x = some (.ref a) ∧ PySem.W.keepIn X.K (.ref a) = true ∧ ∃ (dv : List V) (ds : List Value), True
section
variable {T : Tb} {X : Cx} {W : WX} {e : Expr} {es : List Expr} {fl : Lx} {pos : Pos} {ps : List Str} {k : Nat} {f : Fx} {x : Str} {a : Addr} {fd : FuncData} {dvs : List V} {ds : List Value}
def xCallP (T : Nat → List Str) (f : Fx) (dfl : List Val) (l : Lx) : Ex := fun sg h => (l sg h).bind fun as h1 => callQ T f (as ++ dfl) h1
def Dfl (T : Tb) (K : PySem.W.Frag) (dfl : List Val) (dvs : List V) : Prop := ∀ io n F, VRs T K io n F dfl dvs
theorem Dfl.nil {K : PySem.W.Frag} : Dfl T K [] [] := fun _ _ _ => .nil
theorem je_callP (G : FnG X.prog X.w X.K X.mg X.base (CX X.prog X.w) k a fd ps (spF T X.K f)) (hr : RoomG k X.A) (hm : X.mg x = some (.ref a)) (hk : PySem.W.keepIn X.K (.ref a) = true) {dfl : List Val} (hD : Dfl T X.K dfl dvs) (hb : Binds X.K fd ps ds) (hd : Vals dvs ds) (tk : Takes X W)
    (ha : JA T X W (e :: es) fl) {p : Pos} (hg : Gl X x := by rfl) (hdb : (x == ("__debug__" : Str)) = false := by decide) (he : starEach (e :: es) X.env = (false, eval e X.env) :: starEach es X.env := by rfl) (hpl : (backTo pos (starEach es X.env)).any (·.1) = false := by rfl) :
    JE T X W (.Call (.Name x p) (e :: es) [] pos) (xCallP T.fn f dfl fl) :=
  pe_imp (pe_callG (E := fun σ c d H => W c d σ H) G hr hg hm hk hb hd (fun σ => passAt tk σ) ha hdb he hpl) fun σ H Q ⟨io, h, F, sg, sr, rs, w⟩ =>
    ⟨io, h, F, sg, sr, rs, Wants.bindOfL w fun vs h1 io1 F1 H1 xs st sr1 vr w1 => callQ_ok sr1 (vr.append (hD _ _ _)) w1⟩
end
end Py
namespace Py
open PySem PySem.Spec PyProof.Rows L2
def WantsGw (T : Tb) (K : PySem.W.Frag) (io : Nat → Addr) (n : Nat) (F H : Hp) (σ : L2.St) (ws : List Nat) (Q : L2.St → Hp → Prop) : ResG → Prop
  | .ok sg' h' => ∀ io' F' H' σ', Step io n F H io' h'.length F' H' → SR T K io' h' F' H' → RSt T K io' h'.length F' sg' σ' → (∀ j, j ∉ ws → σ'[j]? = σ[j]?) → σ'.length = σ.length → Q σ' H'
  | .bad => False
def tGw (T : Tb) (K : PySem.W.Frag) (ws : List Nat) (g : Gx) : TG := fun x σ H Q => ∃ io h F sg v, SR T K io h F H ∧ RSt T K io h.length F sg σ ∧ VR T K io h.length F v x ∧ WantsGw T K io h.length F H σ ws Q (g v sg h)
def tGsw (T : Tb) (K : PySem.W.Frag) (ws : List Nat) (g : Gs) : TGs := fun xs σ H Q => ∃ io h F sg vs, SR T K io h F H ∧ RSt T K io h.length F sg σ ∧ VRs T K io h.length F vs xs ∧ WantsGw T K io h.length F H σ ws Q (g vs sg h)
abbrev JGw (T : Tb) (X : Cx) (ws : List Nat) (e : Expr) (g : Gx) : Prop := PG X e (tGw T X.K ws g)
abbrev JGsw (T : Tb) (X : Cx) (ws : List Nat) (es : List Expr) (g : Gs) : Prop := PGs X es (tGsw T X.K ws g)
section
variable {T : Tb} {X : Cx} {W : WX} {a b c e : Expr} {fa fb fc fe : Ex} {pos : Pos}
theorem WantsGw.rebase {K : PySem.W.Frag} {io io1 : Nat → Addr} {n : Nat} {F F1 H H1 : Hp} {h1 : Hh} {σ : L2.St} {ws : List Nat} {Q : L2.St → Hp → Prop} {r : ResG} (w : WantsGw T K io n F H σ ws Q r) (a : Step io n F H io1 h1.length F1 H1) (s : SR T K io1 h1 F1 H1) : WantsGw T K io1 h1.length F1 H1 σ ws Q r := by
  cases r with
  | ok v h' => exact fun io' F' H' x st sr vr hj hl => w io' F' H' x (a.trans s st) sr vr hj hl
  | bad => exact w
theorem jgw_name (i : Nat) {x : Str} (hN : X.N.Nodup) (hi : X.N[i]? = some x := by rfl) (hx : Loc X.env.scope x := by first | exact .inl rfl | exact .inr rfl) (hf : X.fn x = true ∨ X.env.scope.names.lookup x = some .local := by first | exact .inl rfl | exact .inr rfl | assumption) : JGw T X [i] (.Name x pos) (gN i) :=
  pg_imp (pg_name hN hi hx hf) fun x σ H Q ⟨io, h, F, sg, v, sr, rs, vr, w⟩ => w io F H _ .refl sr (rs.set i vr) (fun j hj => by rw [List.getElem?_set_ne (fun z => hj (by simp [z]))]) (by simp)
theorem jgsw_nil : JGsw T X [] [] gsNil := by
  refine ⟨fun pins s σ H xs us Q I r h => pgs_nil.run pins s σ H xs us Q I r ?_⟩
  obtain ⟨io, hh, F, sg, vs, sr, rs, vr, w⟩ := h
  cases vr with
  | nil => exact ⟨rfl, w io F H σ .refl sr rs (fun _ _ => rfl) rfl⟩
  | cons a b => exact w.elim
theorem jgsw_cons {tg : Expr} {tgs : List Expr} {g : Gx} {r : Gs} {w1 w2 : List Nat} (h1 : JGw T X w1 tg g) (h2 : JGsw T X w2 tgs r) (hs : (assignEach (tg :: tgs) X.env).map (·.2) = assign tg X.env :: (assignEach tgs X.env).map (·.2) := by rfl) : JGsw T X (w1 ++ w2) (tg :: tgs) (gsCons g r) := by
  refine ⟨fun pins s σ H xs us Q I rl h => (pgs_cons h1 h2 hs).run pins s σ H xs us Q I rl ?_⟩
  obtain ⟨io, hh, F, sg, vs, sr, rs, vr, w⟩ := h
  cases vr with
  | nil => exact w.elim
  | @cons v x vs' xs' a b =>
    refine ⟨x, xs', rfl, ⟨io, hh, F, sg, v, sr, rs, a, ?_⟩⟩
    have w' : WantsGw T X.K io hh.length F H σ (w1 ++ w2) Q (match g v sg hh with
      | .ok sg1 h1 => r vs' sg1 h1
      | .bad => .bad) := w
    cases e : g v sg hh with
    | ok sg1 h1 =>
      rw [e] at w'
      intro io' F' H' σ' st sr' rs' hj hl
      refine ⟨io', h1, F', sg1, vs', sr', rs', b.step st, ?_⟩
      have w2' := WantsGw.rebase w' st sr'
      dsimp only at w2'
      cases er : r vs' sg1 h1 with
      | ok sg2 h2 =>
        rw [er] at w2'
        exact fun io2 F2 H2 σ2 st2 sr2 rs2 hj2 hl2 => w2' io2 F2 H2 σ2 st2 sr2 rs2 (fun j hjj => by
          rw [List.mem_append, not_or] at hjj
          rw [hj2 j hjj.2, hj j hjj.1]) (hl2.trans hl)
      | bad => rw [er] at w2'; exact w2'
    | bad => rw [e] at w'; exact w'
theorem jgw_tup {tgs : List Expr} {k : Nat} {r : Gs} {n : Nat} {ws : List Nat} (hc : X.calm = true) (h : JGsw T X ws tgs r) (hn : (assignEach tgs X.env).length = n := by rfl) (hst : (assignEach tgs X.env).findIdx? (·.1) = none := by rfl) : JGw T X ws (.Tuple tgs k pos) (gTu n r) := by
  refine pg_imp (pg_tup hc h hn hst) fun x σ H Q ⟨io, hh, F, sg, v, sr, rs, vr, w⟩ => ?_
  cases vr with
  | @tup vs a xs q r' =>
    have w' : WantsGw T X.K io hh.length F H σ ws Q (if vs.length = n then r vs sg hh else .bad) := w
    by_cases hl : vs.length = n
    · rw [if_pos hl] at w'
      exact ⟨a, xs, rfl, sqT_mono sr.sub q, by rw [← r'.length]; exact hl, io, hh, F, sg, vs, sr, rs, r', w'⟩
    · rw [if_neg hl] at w'; exact w'.elim
  | _ => exact w.elim
abbrev Wno : WX := fun _ _ _ _ => False
def wipeG (sg : Sg) : List Nat → Sg
  | [] => sg
  | v :: vs => (wipeG sg vs).set v none
theorem wipeG_ok {K : PySem.W.Frag} {io : Nat → Addr} {n : Nat} {F : Hp} {sg : Sg} {σ : L2.St} (r : RSt T K io n F sg σ) : ∀ vs : List Nat, RSt T K io n F (wipeG sg vs) (wipe σ vs)
  | [] => r
  | v :: vs => by
    have ih := wipeG_ok r vs
    refine ⟨by simp [wipeG, wipe, ih.len], fun i u e => ?_⟩
    unfold wipeG at e
    by_cases hv : v = i
    · subst hv
      by_cases hl : v < (wipeG sg vs).length
      · rw [List.getElem?_set_self hl] at e; cases e
      · rw [List.getElem?_eq_none (by simpa using hl)] at e; cases e
    · rw [List.getElem?_set_ne hv] at e
      obtain ⟨x, e1, e2⟩ := ih.at_ i u e
      exact ⟨x, by unfold wipe; rw [List.getElem?_set_ne hv]; exact e1, e2⟩
theorem wipe_at {σ : L2.St} {i : Nat} : ∀ {vs : List Nat}, i ∉ vs → (wipe σ vs)[i]? = σ[i]?
  | [], _ => rfl
  | v :: vs, h => by
    unfold wipe
    rw [List.getElem?_set_ne (fun z => h (by simp [z])), wipe_at (fun z => h (List.mem_cons_of_mem _ z))]
theorem wipe_in {σ : L2.St} {i : Nat} : ∀ {vs : List Nat}, i ∈ vs → i < σ.length → (wipe σ vs)[i]? = some none
  | v :: vs, h, hl => by
    unfold wipe
    by_cases hv : v = i
    · subst hv; rw [List.getElem?_set_self (by rw [wipe_length]; exact hl)]
    · rw [List.getElem?_set_ne hv, wipe_in ((List.mem_cons.mp h).resolve_left (fun z => hv z.symm)) hl]
theorem wipe_eq {σ σ' : L2.St} {vs ws : List Nat} (hw : ∀ j, j ∈ ws → j ∈ vs) (hj : ∀ j, j ∉ ws → σ'[j]? = (wipe σ vs)[j]?) (hl : σ'.length = (wipe σ vs).length) : wipe σ' vs = wipe σ vs := by
  apply List.ext_getElem?
  intro j
  by_cases h : j ∈ vs
  · by_cases hs : j < σ.length
    · rw [wipe_in h hs, wipe_in h (by rw [hl, wipe_length]; exact hs)]
    · rw [List.getElem?_eq_none (by rw [wipe_length, hl, wipe_length]; omega), List.getElem?_eq_none (by rw [wipe_length]; omega)]
  · rw [wipe_at h, hj j (fun z => h (hw j z))]
def compItems (g : Gx) (t e : Ex) (sg : Sg) : List Val → List Val → Hh → ResL
  | [], acc, h => .ok acc h
  | v :: r, acc, h => match g v sg h with
    | .ok sg1 h1 => (match t sg1 h1 with
      | .ok (.bl true) h2 => (match e sg1 h2 with
        | .ok y h3 => compItems g t e sg r (acc ++ [y]) h3
        | _ => .bad)
      | .ok (.bl false) h2 => compItems g t e sg r acc h2
      | _ => .bad)
    | .bad => .bad
def compRef (g : Gx) (t e : Ex) (sg : Sg) (k : Hh → Option (List Val)) : Nat → Nat → List Val → Hh → ResL
  | 0, _, _, _ => .bad
  | m + 1, i, acc, h => match k h with
    | some xs => (match xs[i]? with
      | none => .ok acc h
      | some v => match g v sg h with
        | .ok sg1 h1 => (match t sg1 h1 with
          | .ok (.bl true) h2 => (match e sg1 h2 with
            | .ok y h3 => compRef g t e sg k m (i + 1) (acc ++ [y]) h3
            | _ => .bad)
          | .ok (.bl false) h2 => compRef g t e sg k m (i + 1) acc h2
          | _ => .bad)
        | .bad => .bad)
    | _ => .bad
def xCompL (own : List Nat) (fi : Ix) (g : Gx) (t e : Ex) : Lx := fun sg h => match fi sg h with
  | .ok (.items vs) h1 => if vs.length ≤ 1000000 then compItems g t e (wipeG sg own) vs [] h1 else .bad
  | .ok (.ref k) h1 => compRef g t e (wipeG sg own) k 1000000 0 [] h1
  | .exc c fs h1 => .exc c fs h1
  | .bad => .bad
def xComp (own : List Nat) (fi : Ix) (g : Gx) (t e : Ex) : Ex := fun sg h => (xCompL own fi g t e sg h).bind fun vs h1 => .ok (.ref h1.length) (h1 ++ [.lst vs])
def xCompF (own : List Nat) (fi : Ix) (g : Gx) (t e : Ex) : Ex := fun sg h => (xCompL own fi g t e sg h).bind fun vs h1 => .ok (.lst vs) h1
abbrev JTs (T : Tb) (X : Cx) (W : WX) (es : List Expr) (f : Ex) : Prop := PTs X es (tB1 T X.K W f)
theorem jts_nil : JTs T X W [] (xC (.bl true)) := ⟨fun pins s σ H Q I ⟨io, h, F, sg, sr, rs, w⟩ => pts_nil.run pins s σ H Q I (w io F H .refl sr)⟩
theorem jts_one (h : JT T X W c fc) : JTs T X W [c] fc := pts_one h
def WantsD (T : Tb) (K : PySem.W.Frag) (io1 : Nat → Addr) (n1 : Nat) (F1 H1 : Hp) (D : Addr) (Q : VK) : ResL → Prop
  | .ok acc h' => ∀ io' F' H' xs, Step io1 n1 F1 H1 io' h'.length F' H' → SR T K io' h' F' H' → H' D = some (.lst xs) → VRs T K io' h'.length F' acc xs → F' D = none → (∀ k, k < h'.length → io' k ≠ D) → Q (.ref D) H'
  | _ => False
structure CInv (T : Tb) (K : PySem.W.Frag) (io1 : Nat → Addr) (n1 : Nat) (F1 H1 : Hp) (D : Addr) (io : Nat → Addr) (h : Hh) (F H : Hp) : Prop where
  sr : SR T K io h F H
  st : Step io1 n1 F1 H1 io h.length F H
  fd : F D = none
  nd : ∀ k, k < h.length → io k ≠ D
theorem CInv.go {K : PySem.W.Frag} {io1 io io' : Nat → Addr} {n1 : Nat} {F1 H1 F H F' H' : Hp} {D : Addr} {h h' : Hh} {xs : List V} (c : CInv T K io1 n1 F1 H1 D io h F H) (hD : H D = some (.lst xs)) (st : Step io h.length F H io' h'.length F' H') (sr : SR T K io' h' F' H') :
    CInv T K io1 n1 F1 H1 D io' h' F' H' ∧ H' D = some (.lst xs) := by
  have e := st.frame D _ hD c.nd
  refine ⟨⟨sr, c.st.trans c.sr st, ?_, fun k hk z => ?_⟩, e⟩
  · cases q : F' D with
    | none => rfl
    | some o =>
      exfalso
      rcases st.fresh D o q with z | z | ⟨y, z⟩
      · rw [c.fd] at z; cases z
      · rw [hD] at z; cases z
      · subst z
        have := sr.sub D _ q
        rw [e] at this; cases this
  · by_cases hk' : k < h.length
    · exact c.nd k hk' ((st.eq k hk').symm.trans z)
    · have := st.new k (by omega) hk
      rw [z, hD] at this; cases this
theorem CInv.app {K : PySem.W.Frag} {io1 io : Nat → Addr} {n1 : Nat} {F1 H1 F H : Hp} {D : Addr} {h : Hh} {xs : List V} (hD1 : H1 D = none) (c : CInv T K io1 n1 F1 H1 D io h F H) (hD : H D = some (.lst xs)) (ys : List V) : CInv T K io1 n1 F1 H1 D io h F (upd H D (.lst ys)) := by
  refine ⟨⟨fun b o e => ?_, c.sr.dis, c.sr.inj, fun k o e => ?_, fun pq hq => (c.sr.tabs pq hq).mono (fun _ _ h _ e => by rw [h] at e; cases e) (fun _ _ e _ => e) fun ps e => by rw [upd_ne (fun z => by rw [z, hD] at e; cases e)]; exact e⟩, ⟨c.st.le, c.st.eq, c.st.phi, fun b o e hb => ?_, c.st.new, c.st.fresh⟩, c.fd, c.nd⟩
  · have : b ≠ D := fun z => by rw [z, c.fd] at e; cases e
    rw [upd_ne this]; exact c.sr.sub b o e
  · have hk : k < h.length := (List.getElem?_eq_some_iff.mp e).1
    have r := c.sr.obj k o e
    cases o with
    | lst vs => obtain ⟨zs, e1, r⟩ := r; exact ⟨zs, by rw [upd_ne (c.nd k hk)]; exact e1, r⟩
    | dct ks vs => obtain ⟨es, ep, zs, us, e1, r⟩ := r; exact ⟨es, ep, zs, us, by rw [upd_ne (c.nd k hk)]; exact e1, r⟩
    | ins cc vs =>
      obtain ⟨dx, zs, e1, d, r, l⟩ := r
      exact ⟨dx, zs, by rw [upd_ne (c.nd k hk)]; exact e1, by rw [upd_ne (fun z => by rw [z, hD] at d; cases d)]; exact d, r, l⟩
  · rw [upd_ne (ne_of_none e hD1)]; exact c.st.frm b o e hb
theorem comp_turn {K : PySem.W.Frag} {io1 io : Nat → Addr} {n1 : Nat} {F1 H1 F H : Hp} {D : Addr} {h : Hh} {xs : List V} {acc : List Val} {sg : Sg} {σ : L2.St} {own ws : List Nat} {g : Gx} {t el : Ex} {Q : VK} {J : It} {i : Nat} {v : Val} {rest : List Val → Hh → ResL} {Nx : Hp → Prop}
    (hw : ∀ j, j ∈ ws → j ∈ own) (hD1 : H1 D = none) (c : CInv T K io1 n1 F1 H1 D io h F H) (hD : H D = some (.lst xs)) (va : VRs T K io h.length F acc xs) (rs : RSt T K io h.length F sg (wipe σ own)) (hz : acc.length < 1000000)
    (y : YldOk T K J i (some v) io h F H)
    (w : WantsD T K io1 n1 F1 H1 D Q (match g v sg h with
      | .ok sg1 h1 => (match t sg1 h1 with
        | .ok (.bl true) h2 => (match el sg1 h2 with
          | .ok y h3 => rest (acc ++ [y]) h3
          | _ => .bad)
        | .ok (.bl false) h2 => rest acc h2
        | _ => .bad)
      | .bad => .bad))
    (hN : ∀ acc' h' io' F' H' xs', acc'.length ≤ acc.length + 1 → CInv T K io1 n1 F1 H1 D io' h' F' H' → H' D = some (.lst xs') → VRs T K io' h'.length F' acc' xs' → RSt T K io' h'.length F' sg (wipe σ own) → (h.length ≤ h'.length ∧ (∀ k, k < h.length → io' k = io k) ∧ ∀ b o, F b = some o → F' b = some o) → WantsD T K io1 n1 F1 H1 D Q (rest acc' h') → Nx H') :
    ∀ x H', J.yld i H x H' → tGw T K ws g x (wipe σ own) H' fun σ2 H2 => wipe σ2 own = wipe σ own ∧ tB1 T K Wno t σ2 H2 fun b H3 =>
      if b = true then tE T K Wno el σ2 H3 fun y H4 => ∃ acc, H4 D = some (.lst acc) ∧ acc.length < sizeLine ∧ Nx (upd H4 D (.lst (acc ++ [y]))) else Nx H3 := by
  intro x H' hy
  obtain ⟨F', st, sr', vr⟩ := y.2 x H' hy
  obtain ⟨c1, hD'⟩ := c.go hD st sr'
  refine ⟨io, h, F', sg, v, sr', rs.step st, vr, ?_⟩
  cases eg : g v sg h with
  | bad => rw [eg] at w; exact w.elim
  | ok sg1 h1 =>
    rw [eg] at w
    intro io2 F2 H2 σ2 st2 sr2 rs2 hj hl
    obtain ⟨c2, hD2⟩ := c1.go hD' st2 sr2
    refine ⟨wipe_eq hw hj hl, io2, h1, F2, sg1, sr2, rs2, ?_⟩
    dsimp only at w
    cases et : t sg1 h1 with
    | bad => rw [et] at w; exact w.elim
    | exc cc fs hh => rw [et] at w; exact w.elim
    | ok tv h2 =>
      rw [et] at w
      cases tv with
      | bl tb =>
        intro io3 F3 H3 st3 sr3
        obtain ⟨c3, hD3⟩ := c2.go hD2 st3 sr3
        have st03 := ((st.trans sr' st2).trans sr2 st3)
        cases tb with
        | false =>
          rw [if_neg Bool.false_ne_true]
          exact hN acc h2 io3 F3 H3 xs (Nat.le_succ _) c3 hD3 (va.step st03) (rs.step st03) ⟨st03.le, st03.eq, st03.phi⟩ w
        | true =>
          rw [if_pos rfl]
          refine ⟨io3, h2, F3, sg1, sr3, rs2.step st3, ?_⟩
          dsimp only at w
          cases ee : el sg1 h2 with
          | bad => rw [ee] at w; exact w.elim
          | exc cc fs hh => rw [ee] at w; exact w.elim
          | ok yv h3 =>
            rw [ee] at w
            intro io4 F4 H4 y4 st4 sr4 vr4
            obtain ⟨c4, hD4⟩ := c3.go hD3 st4 sr4
            have st04 := st03.trans sr3 st4
            have va4 := va.step st04
            refine ⟨xs, hD4, by rw [← va.length, sizeLine_eq]; omega, ?_⟩
            exact hN (acc ++ [yv]) h3 io4 F4 _ (xs ++ [y4]) (by simp) (c4.app hD1 hD4 _) upd_same (va4.append (.cons vr4 .nil)) (rs.step st04) ⟨st04.le, st04.eq, st04.phi⟩ w
      | _ => exact w.elim
theorem comp_core {tg iter elt : Expr} {ifs : List Expr} {fi : Ix} {g : Gx} {t el : Ex} {own ws : List Nat} (hw : ∀ j, j ∈ ws → j ∈ own) {σ : L2.St} {H : Hp} {Q : VK} {io : Nat → Addr} {h : Hh} {F : Hp} {sg : Sg} (sr : SR T X.K io h F H) (rs : RSt T X.K io h.length F sg σ)
    {R : VK} (w : match xCompL own fi g t el sg h with
      | .ok acc h' => ∀ D io' F' H' xs, H D = none → Step io h.length F H io' h'.length F' H' → SR T X.K io' h' F' H' → H' D = some (.lst xs) → VRs T X.K io' h'.length F' acc xs → F' D = none → (∀ k, k < h'.length → io' k ≠ D) → R (.ref D) H'
      | .exc c fs h' => WExc T X.K io h.length F H c fs h' (fun c d H' => W c d σ H')
      | .bad => False) :
    tLc (tI T X.K W fi) (tGw T X.K ws g) (tB1 T X.K Wno t) (tE T X.K Wno el) own σ H R := by
  refine ⟨io, h, F, sg, sr, rs, ?_⟩
  unfold xCompL at w
  cases e : fi sg h with
  | bad => rw [e] at w; exact w
  | exc c fs h1 => rw [e] at w; exact w
  | ok s h1 =>
    rw [e] at w
    intro io1 F1 H1 J st1 sr1 so D hD
    have hD0 : H D = none := by
      cases q : H D with
      | none => rfl
      | some o =>
        exfalso
        by_cases hc : ∀ k, k < h.length → io k ≠ D
        · obtain ⟨u0, hu0⟩ := st1.dom q hc; rw [hu0] at hD; cases hD
        · apply hc
          intro k hk z
          obtain ⟨u, hu⟩ := sr1.there (k := k) (Nat.lt_of_lt_of_le hk st1.le)
          rw [st1.eq k hk, z, hD] at hu; cases hu
    have c0 : CInv T X.K io1 h1.length F1 H1 D io1 h1 F1 (upd H1 D (.lst [])) :=
      ⟨sr1.garb hD _, sr1.garbStep hD _, sr1.none_of hD, fun k hk z => by obtain ⟨u, hu⟩ := sr1.there hk; rw [z, hD] at hu; cases hu⟩
    have rs1 := (wipeG_ok rs own).step st1
    have wd : ∀ r : ResL, (match r with
      | .ok acc h' => ∀ D io' F' H' xs, H D = none → Step io h.length F H io' h'.length F' H' → SR T X.K io' h' F' H' → H' D = some (.lst xs) → VRs T X.K io' h'.length F' acc xs → F' D = none → (∀ k, k < h'.length → io' k ≠ D) → R (.ref D) H'
      | .exc c fs h' => WExc T X.K io h.length F H c fs h' (fun c d H' => W c d σ H')
      | .bad => False) → (∀ c fs h', r ≠ .exc c fs h') → WantsD T X.K io1 h1.length F1 H1 D R r := fun r wr hne => by
      cases r with
      | bad => exact wr
      | exc c fs h' => exact absurd rfl (hne c fs h')
      | ok acc h' => exact fun io' F' H' xs st sr' hd va fd nd => wr D io' F' H' xs hD0 (st1.trans sr1 st) sr' hd va fd nd
    cases s with
    | items vs =>
      dsimp only at w
      by_cases hvl : vs.length ≤ 1000000
      · rw [if_pos hvl] at w
        have nex : ∀ (vs acc : List Val) (h : Hh) c fs h', compItems g t el (wipeG sg own) vs acc h ≠ .exc c fs h' := by
          intro vs
          induction vs with
          | nil => intro acc h c fs h' q; cases q
          | cons v r ih =>
            intro acc h c fs h'
            unfold compItems
            split
            · split
              · split
                · exact ih _ _ c fs h'
                · exact fun q => nomatch q
              · exact ih _ _ c fs h'
              · exact fun q => nomatch q
            · exact fun q => nomatch q
        have w1 := wd _ w (nex vs [] h1)
        refine ⟨fun i m H2 => m = vs.length - i ∧ i ≤ vs.length ∧ ∃ io2 h2 F2 acc xs, acc.length ≤ i ∧ CInv T X.K io1 h1.length F1 H1 D io2 h2 F2 H2 ∧ H2 D = some (.lst xs) ∧ VRs T X.K io2 h2.length F2 acc xs ∧ RSt T X.K io2 h2.length F2 (wipeG sg own) (wipe σ own) ∧ WantsD T X.K io1 h1.length F1 H1 D R (compItems g t el (wipeG sg own) (vs.drop i) acc h2),
          ⟨vs.length, by simp, Nat.zero_le _, io1, h1, F1, [], [], Nat.le_refl _, c0, upd_same, .nil, rs1, by simpa using w1⟩, ?_⟩
        rintro i m H2 ⟨rfl, hi, io2, h2, F2, acc, xs, hacc, c2, hD2, va, rs2, w2⟩
        have y := so i io2 h2 F2 H2 c2.sr c2.st.le c2.st.eq c2.st.phi hi
        by_cases hlt : i < vs.length
        · have ev : vs[i]? = some vs[i] := by simp [hlt]
          rw [ev] at y
          rw [List.drop_eq_getElem_cons hlt] at w2
          unfold compItems at w2
          refine .inr ⟨y.1, fun H3 => ∃ io2 h2 F2 acc xs, acc.length ≤ i + 1 ∧ CInv T X.K io1 h1.length F1 H1 D io2 h2 F2 H3 ∧ H3 D = some (.lst xs) ∧ VRs T X.K io2 h2.length F2 acc xs ∧ RSt T X.K io2 h2.length F2 (wipeG sg own) (wipe σ own) ∧ WantsD T X.K io1 h1.length F1 H1 D R (compItems g t el (wipeG sg own) (vs.drop (i + 1)) acc h2),
            fun H' n' => ⟨vs.length - (i + 1), by omega, rfl, hlt, n'⟩, ?_⟩
          refine comp_turn (rest := fun acc h => compItems g t el (wipeG sg own) (vs.drop (i + 1)) acc h) hw hD c2 hD2 va rs2 (by omega) y w2 fun acc' h' io' F' H' xs' hl c' hd' va' rs' _ w' => ⟨io', h', F', acc', xs', by omega, c', hd', va', rs', w'⟩
        · have : i = vs.length := by omega
          subst this
          rw [List.getElem?_eq_none (Nat.le_refl _)] at y
          rw [List.drop_length] at w2
          exact .inl ⟨y, w2 io2 F2 H2 xs c2.st c2.sr hD2 va c2.fd c2.nd⟩
      · rw [if_neg hvl] at w; exact w.elim
    | ref k =>
      dsimp only at w
      have nex : ∀ (m i : Nat) (acc : List Val) (h : Hh) c fs h', compRef g t el (wipeG sg own) k m i acc h ≠ .exc c fs h' := by
        intro m
        induction m with
        | zero => intro i acc h c fs h' q; cases q
        | succ m ih =>
          intro i acc h c fs h'
          unfold compRef
          split
          · split
            · exact fun q => nomatch q
            · split
              · split
                · split
                  · exact ih _ _ _ c fs h'
                  · exact fun q => nomatch q
                · exact ih _ _ _ c fs h'
                · exact fun q => nomatch q
              · exact fun q => nomatch q
          · exact fun q => nomatch q
      have w1 := wd _ w (nex 1000000 0 [] h1)
      refine ⟨fun i m H2 => m + i = 1000000 ∧ ∃ io2 h2 F2 acc xs, acc.length ≤ i ∧ CInv T X.K io1 h1.length F1 H1 D io2 h2 F2 H2 ∧ H2 D = some (.lst xs) ∧ VRs T X.K io2 h2.length F2 acc xs ∧ RSt T X.K io2 h2.length F2 (wipeG sg own) (wipe σ own) ∧ WantsD T X.K io1 h1.length F1 H1 D R (compRef g t el (wipeG sg own) k m i acc h2),
        ⟨1000000, rfl, io1, h1, F1, [], [], Nat.le_refl _, c0, upd_same, .nil, rs1, w1⟩, ?_⟩
      rintro i m H2 ⟨hm, io2, h2, F2, acc, xs, hacc, c2, hD2, va, rs2, w2⟩
      cases m with
      | zero => exact w2.elim
      | succ m =>
        unfold compRef at w2
        cases ek : k h2 with
        | none => rw [ek] at w2; exact w2.elim
        | some ys =>
          rw [ek] at w2
          · have y := so i io2 h2 F2 H2 ys c2.sr c2.st.le c2.st.eq c2.st.phi ek
            dsimp only at w2
            cases ev : ys[i]? with
            | none => rw [ev] at w2 y; exact .inl ⟨y, w2 io2 F2 H2 xs c2.st c2.sr hD2 va c2.fd c2.nd⟩
            | some v =>
              rw [ev] at w2 y
              dsimp only at w2
              refine .inr ⟨y.1, fun H3 => ∃ io2 h2 F2 acc xs, acc.length ≤ i + 1 ∧ CInv T X.K io1 h1.length F1 H1 D io2 h2 F2 H3 ∧ H3 D = some (.lst xs) ∧ VRs T X.K io2 h2.length F2 acc xs ∧ RSt T X.K io2 h2.length F2 (wipeG sg own) (wipe σ own) ∧ WantsD T X.K io1 h1.length F1 H1 D R (compRef g t el (wipeG sg own) k m (i + 1) acc h2),
                fun H' n' => ⟨m, Nat.lt_succ_self _, by omega, n'⟩, ?_⟩
              refine comp_turn (rest := fun acc h => compRef g t el (wipeG sg own) k m (i + 1) acc h) hw hD c2 hD2 va rs2 (by omega) y w2 fun acc' h' io' F' H' xs' hl c' hd' va' rs' _ w' => ⟨io', h', F', acc', xs', by omega, c', hd', va', rs', w'⟩
theorem CInv.push {K : PySem.W.Frag} {io1 io : Nat → Addr} {n1 : Nat} {F1 H1 F H : Hp} {D : Addr} {h : Hh} {xs : List V} {acc : List Val} (hD1 : H1 D = none) (st : Step io1 n1 F1 H1 io h.length F H) (sr : SR T K io h F H) (hD : H D = some (.lst xs)) (va : VRs T K io h.length F acc xs) (fd : F D = none) (nd : ∀ k, k < h.length → io k ≠ D) :
    Step io1 n1 F1 H1 (ioPush io h.length D) (h ++ [Obj.lst acc]).length F H ∧ SR T K (ioPush io h.length D) (h ++ [Obj.lst acc]) F H ∧ VR T K (ioPush io h.length D) (h ++ [Obj.lst acc]).length F (.ref h.length) (.ref D) := by
  have len : (h ++ [Obj.lst acc]).length = h.length + 1 := by simp
  refine ⟨⟨by rw [len]; exact Nat.le_succ_of_le st.le, fun k hk => (ioPush_lt io D (Nat.lt_of_lt_of_le hk st.le)).trans (st.eq k hk), st.phi, st.frm, fun k a b => ?_, st.fresh⟩, ⟨sr.sub, fun k hk => ?_, fun j k hj hk e => ?_, fun k o e => ?_, sr.tabs⟩, ?_⟩
  · rw [len] at b
    by_cases q : k = h.length
    · subst q; rw [ioPush_at]; exact hD1
    · rw [ioPush_lt io D (by omega)]; exact st.new k a (by omega)
  · rw [len] at hk
    by_cases q : k = h.length
    · subst q; rw [ioPush_at]; exact fd
    · rw [ioPush_lt io D (by omega)]; exact sr.dis k (by omega)
  · rw [len] at hj hk
    by_cases qj : j = h.length
    · by_cases qk : k = h.length
      · rw [qj, qk]
      · rw [qj, ioPush_at, ioPush_lt io D (by omega)] at e; exact absurd e.symm (nd k (by omega))
    · by_cases qk : k = h.length
      · rw [qk, ioPush_at, ioPush_lt io D (by omega)] at e; exact absurd e (nd j (by omega))
      · rw [ioPush_lt io D (by omega), ioPush_lt io D (by omega)] at e; exact sr.inj j k (by omega) (by omega) e
  · rw [len]
    by_cases q : k < h.length
    · rw [List.getElem?_append_left q] at e
      rw [ioPush_lt io D q]
      exact (sr.obj k o e).mono (Nat.le_succ _) (fun j hj => ioPush_lt io D hj) (fun _ _ e => e) (fun _ _ e => e)
    · rw [List.getElem?_append_right (by omega)] at e
      by_cases q2 : k = h.length
      · subst q2
        simp at e
        subst e
        rw [ioPush_at]
        exact ⟨xs, hD, va.mono (Nat.le_succ _) (fun j hj => ioPush_lt io D hj) (fun _ _ e => e)⟩
      · rw [List.getElem?_eq_none (by simp; omega)] at e; cases e
  · have vp : VR T K (ioPush io h.length D) (h ++ [Obj.lst acc]).length F (.ref h.length) (.ref (ioPush io h.length D h.length)) := .ref _ (by simp)
    rw [ioPush_at] at vp
    exact vp
theorem CInv.froze {K : PySem.W.Frag} {io1 io : Nat → Addr} {n1 : Nat} {F1 H1 F H : Hp} {D : Addr} {h : Hh} {o : HO} (hD1 : H1 D = none) (st : Step io1 n1 F1 H1 io h.length F H) (sr : SR T K io h F H) (hD : H D = some o) (fd : F D = none) (nd : ∀ k, k < h.length → io k ≠ D) (no : ∀ ps, o ≠ .tbl ps := by first | nofun | (intro ps z; unfold L2.DO at z; cases z)) :
    Step io1 n1 F1 H1 io h.length (upd F D o) H ∧ SR T K io h (upd F D o) H ∧ (∀ b u, F b = some u → upd F D o b = some u) := by
  have mn := upd_sub (o := o) F fd
  refine ⟨⟨st.le, st.eq, fun b u e => mn b u (st.phi b u e), st.frm, st.new, fun b u e => ?_⟩, ⟨fun b u e => ?_, fun k hk => ?_, sr.inj, fun k ob e => (sr.obj k ob e).mono (Nat.le_refl _) (fun _ _ => rfl) mn (fun _ _ e => e), fun pq hq => (sr.tabs pq hq).mono (fun ps u h hp' e => by rw [upd_ne (fun z => by rw [z, hD] at hp'; exact no ps (Option.some.inj hp')), h] at e; cases e) (fun c o e _ => mn c o e) fun _ e => e⟩, mn⟩
  · by_cases hb : b = D
    · subst hb; exact .inr (.inl hD1)
    · rw [upd_ne hb] at e; exact st.fresh b u e
  · by_cases hb : b = D
    · subst hb; rw [upd_same] at e; cases e; exact hD
    · rw [upd_ne hb] at e; exact sr.sub b u e
  · rw [upd_ne (nd k hk)]; exact sr.dis k hk
theorem je_lcF {elt tg iter : Expr} {ifs : List Expr} {scope : Scope} (own : List (Str × Nat)) {fi : Ix} {g : Gx} {t el : Ex} {ws : List Nat} (hc : X.calm = true) (hN : X.N.Nodup) (hi : JI T X W tg iter fi) (ok : BlkOk X.N X.env.scope scope own) (hw : ∀ j, j ∈ ws → j ∈ own.map (·.2))
    (hg : ∀ (s : Shared) (H : Hp) (C : Addr) (cl : List (Str × Addr)) (fp : List Addr), JGw T (X.blk s H scope (compEnvC scope cl C X.env) fp) ws tg g) (ht : ∀ (s : Shared) (H : Hp) (C : Addr) (cl : List (Str × Addr)) (fp : List Addr), JTs T (X.blk s H scope (compEnvC scope cl C X.env) fp) Wno ifs t)
    (he : ∀ (s : Shared) (H : Hp) (C : Addr) (cl : List (Str × Addr)) (fp : List Addr), JE T (X.blk s H scope (compEnvC scope cl C X.env) fp) Wno elt el) (hs : ∀ x, foldedSetIterable iter X.env x = pure x := by intro _; rfl) :
    JE T X W (.ListComp elt [⟨tg, iter, ifs, 0⟩] scope pos) (xCompF (own.map (·.2)) fi g t el) := by
  refine pe_imp (pe_lc hc hN hi ok hg ht he hs) fun σ H Q ⟨io, h, F, sg, sr, rs, w⟩ => comp_core (tg := tg) (iter := iter) (elt := elt) (ifs := ifs) (Q := Q) hw sr rs ?_
  unfold xCompF at w
  cases e : xCompL (own.map (·.2)) fi g t el sg h with
  | bad => rw [e] at w; exact w
  | exc c fs h' => rw [e] at w; exact w
  | ok acc h' =>
    rw [e] at w
    intro D io' F' H' xs hD st sr' hd va fd nd
    obtain ⟨s1, s2, mn⟩ := CInv.froze hD st sr' hd fd nd
    exact w _ _ H' _ s1 s2 (.lst (SqL.of upd_same) (va.mono (Nat.le_refl _) (fun _ _ => rfl) mn))
end
end Py
namespace Py
open PySem PySem.Spec PyProof.Rows L2
structure Cf (T : Tb) (K : PySem.W.Frag) (c : Nat) : Prop where
  cls : Cls K (He.ga K (T.cn c))
  nd : (T.fn c).Nodup
  no : ∀ f, f ∈ T.fn c → NoAttr K (He.ga K (T.cn c)) f
  few : (T.fn c).length < 1000
theorem zip_lookup {f : Str} {v : V} : ∀ {ns : List Str} {xs : List V} {i : Nat}, ns.Nodup → ns[i]? = some f → xs[i]? = some v → (ns.zip xs).lookup f = some v
  | [], _, _, _, h, _ => by simp at h
  | _ :: _, [], _, _, _, h => by simp at h
  | n :: ns, x :: xs, 0, nd, h1, h2 => by
    simp at h1 h2
    subst h1 h2
    simp [List.zip_cons_cons, List.lookup]
  | n :: ns, x :: xs, i + 1, nd, h1, h2 => by
    have h1' : ns[i]? = some f := by simpa using h1
    have h2' : xs[i]? = some v := by simpa using h2
    have hne : f ≠ n := fun z => by
      subst z
      exact (List.nodup_cons.mp nd).1 (List.mem_of_getElem? h1')
    have hb : (f == n) = false := beq_eq_false_iff_ne.mpr hne
    simp only [List.zip_cons_cons, List.lookup, hb]
    exact zip_lookup (List.nodup_cons.mp nd).2 h1' h2'
theorem zip_none {f : Str} : ∀ {ns : List Str} {xs : List V}, f ∉ ns → (ns.zip xs).lookup f = none
  | [], _, _ => rfl
  | _ :: _, [], _ => rfl
  | n :: ns, x :: xs, h => by
    have hb : (f == n) = false := beq_eq_false_iff_ne.mpr fun z => h (by simp [z])
    simp only [List.zip_cons_cons, List.lookup, hb]
    exact zip_none fun z => h (List.mem_cons_of_mem _ z)
theorem putF_zip_new {f : Str} {y : V} : ∀ {ns : List Str} {xs : List V}, xs.length = ns.length → f ∉ ns → putF f y (ns.zip xs) = (ns ++ [f]).zip (xs ++ [y])
  | [], [], _, _ => rfl
  | n :: ns, x :: xs, hl, h => by
    have hne : n ≠ f := fun z => h (by simp [z])
    have ih := putF_zip_new (f := f) (y := y) (ns := ns) (xs := xs) (by simpa using hl) fun z => h (List.mem_cons_of_mem _ z)
    show (if n = f then _ else (n, x) :: putF f y (ns.zip xs)) = _
    rw [if_neg hne, ih]
    rfl
  | [], _ :: _, hl, _ => by simp at hl
  | _ :: _, [], hl, _ => by simp at hl
theorem putF_zip_old {f : Str} {y : V} : ∀ {ns : List Str} {xs : List V} {i : Nat}, ns.Nodup → ns[i]? = some f → i < xs.length → putF f y (ns.zip xs) = ns.zip (xs.set i y)
  | [], _, _, _, h, _ => by simp at h
  | _ :: _, [], _, _, _, h => by simp at h
  | n :: ns, x :: xs, 0, nd, h1, h2 => by
    simp at h1
    subst h1
    show (if n = n then (n, y) :: ns.zip xs else _) = _
    rw [if_pos rfl]; rfl
  | n :: ns, x :: xs, i + 1, nd, h1, h2 => by
    have h1' : ns[i]? = some f := by simpa using h1
    have hne : n ≠ f := fun z => by
      subst z
      exact (List.nodup_cons.mp nd).1 (List.mem_of_getElem? h1')
    have ih := putF_zip_old (y := y) (List.nodup_cons.mp nd).2 h1' (show i < xs.length by simpa using h2)
    show (if n = f then _ else (n, x) :: putF f y (ns.zip xs)) = _
    rw [if_neg hne, ih]; rfl
def AttOk (T : Tb) (K : PySem.W.Frag) (f : Str) (l : List (Nat × Nat)) : Prop := ∀ c i, l.lookup c = some i → (T.fn c)[i]? = some f ∧ Cf T K c
theorem AttOk.nil {T : Tb} {K : PySem.W.Frag} {f : Str} : AttOk T K f [] := fun c i e => by cases e
theorem AttOk.cons {T : Tb} {K : PySem.W.Frag} {f : Str} {l : List (Nat × Nat)} {c i : Nat} (h : (T.fn c)[i]? = some f) (k : Cf T K c) (r : AttOk T K f l) : AttOk T K f ((c, i) :: l) := fun c' i' e => by
  by_cases q : c' = c
  · subst q; simp [List.lookup] at e; subst e; exact ⟨h, k⟩
  · have hb : (c' == c) = false := beq_eq_false_iff_ne.mpr q
    simp only [List.lookup, hb] at e
    exact r c' i' e
def gAttr (l : List (Nat × Nat)) : Hh → Val → Option Val := fun h v => match v with
  | .obj c fs => (match l.lookup c with
    | some i => fs[i]?
    | none => none)
  | .ref k => (match h[k]? with
    | some (.ins c fs) => (match l.lookup c with
      | some i => fs[i]?
      | none => none)
    | _ => none)
  | _ => none
section
variable {T : Tb} {X : Cx} {W : WX} {a b c e o : Expr} {fa fb fc fe fo : Ex} {pos pos' apos : Pos} {f : Str}
theorem je_attr {l : List (Nat × Nat)} (he : JE T X W e fe) (hl : AttOk T X.K f l) (hb : attributeBase e f X.env (eval e X.env) = eval e X.env := by rfl) : JE T X W (.Attribute e f pos) (xUn (gAttr l) fe) := by
  refine pe_imp (pe_fld he hb) fun σ H Q ⟨io, h, F, sg, sr, rs, w⟩ => ⟨io, h, F, sg, sr, rs, Wants.bind w fun v h1 io1 F1 H1 x st sr1 vr w1 => ?_⟩
  obtain ⟨z, ez, w2⟩ := wants_ofO w1
  unfold gAttr at ez
  cases vr with
  | @obj cc vs aa dx xs q qd r hlen =>
    dsimp only at ez
    cases el : l.lookup cc with
    | none => rw [el] at ez; cases ez
    | some i =>
      rw [el] at ez
      obtain ⟨hf, k⟩ := hl cc i el
      obtain ⟨x', ex, rx⟩ := r.get ez
      exact ⟨aa, _, dx, _, x', rfl, sr1.sub _ _ q, k.cls, k.no f (List.mem_of_getElem? hf), zip_lookup k.nd hf ex, w2 io1 F1 H1 x' .refl sr1 rx⟩
  | ref k hk =>
    dsimp only at ez
    cases ek : h1[k]? with
    | none => rw [ek] at ez; cases ez
    | some ob =>
      rw [ek] at ez
      cases ob with
      | lst vs => cases ez
      | dct ks vs => cases ez
      | ins cc vs =>
        dsimp only at ez
        cases el : l.lookup cc with
        | none => rw [el] at ez; cases ez
        | some i =>
          rw [el] at ez
          obtain ⟨hf, kk⟩ := hl cc i el
          obtain ⟨dx, xs, ea, ed, r, hlen⟩ := sr1.obj k _ ek
          obtain ⟨x', ex, rx⟩ := r.get ez
          have hi : i < vs.length := (List.getElem?_eq_some_iff.mp ez).1
          have hf' : ((T.fn cc).take vs.length)[i]? = some f := by rw [List.getElem?_take_of_lt hi]; exact hf
          exact ⟨io1 k, _, dx, _, x', rfl, ea, kk.cls, kk.no f (List.mem_of_getElem? hf), zip_lookup (kk.nd.sublist (List.take_sublist _ _)) hf' ex, w2 io1 F1 H1 x' .refl sr1 rx⟩
  | _ => cases ez
def xSetAttr (l : List (Nat × Nat)) (v o : Ex) : Sx := fun sg h => (v sg h).bindS sg fun y h1 => (o sg h1).bindS sg fun ov h2 => match ov with
  | .ref k => (match h2[k]? with
    | some (.ins c fs) => (match l.lookup c with
      | some i => if i < fs.length then .next sg (h2.set k (.ins c (fs.set i y))) else if i = fs.length then .next sg (h2.set k (.ins c (fs ++ [y]))) else .bad
      | none => .bad)
    | _ => .bad)
  | _ => .bad
theorem take_succ_at {ns : List Str} {f : Str} {i : Nat} (h : ns[i]? = some f) : ns.take (i + 1) = ns.take i ++ [f] := by
  rw [List.take_add_one, h]; rfl
theorem js_setattr {l : List (Nat × Nat)} (hl : AttOk T X.K f l) (hv : JE T X W e fe) (ho : JE T X W o fo) (hs : swapsWith e (some (.Attribute o f pos')) pos.line X.env = pure false := by rfl) : JS T X W (.Assign [.Attribute o f pos'] e pos) (xSetAttr l fe fo) := by
  refine ps_imp (ps_fld ho hv hs) fun D σ H ⟨io, h, F, sg, sr, rs, w⟩ => ⟨io, h, F, sg, sr, rs, WantsS.ofRes rs w fun y h1 io1 F1 H1 yx st sr1 vy w1 => ⟨io1, h1, F1, sg, sr1, rs.step st, WantsS.ofRes (rs.step st) w1 fun ov h2 io2 F2 H2 ox st2 sr2 vo w2 => ?_⟩⟩
  cases vo with
  | ref k hk =>
    dsimp only at w2
    cases ek : h2[k]? with
    | none => rw [ek] at w2; exact w2.elim
    | some ob =>
      rw [ek] at w2
      cases ob with
      | lst vs => exact w2.elim
      | dct ks vs => exact w2.elim
      | ins cc vs =>
        dsimp only at w2
        cases el : l.lookup cc with
        | none => rw [el] at w2; exact w2.elim
        | some i =>
          rw [el] at w2
          dsimp only at w2
          obtain ⟨hf, kk⟩ := hl cc i el
          obtain ⟨dx, xs, ea, ed, r, hlen⟩ := sr2.obj k _ ek
          have xl := r.length
          have hno : ∀ z, H2 (io2 k) ≠ some (.own z) := fun z q => by rw [ea] at q; cases q
          have nod : dx ≠ io2 k := fun z => by rw [z, ea] at ed; cases ed
          have hsm : (((T.fn cc).take vs.length).zip xs).length < 1000 := by
            have := kk.few
            rw [List.length_zip, List.length_take]
            omega
          have vy2 := vy.step st2
          have rs2 := (rs.step st).step st2
          have tk : ∀ (ys : List Val) (zs : List V), VRs T X.K io2 h2.length F2 ys zs → ys.length ≤ (T.fn cc).length → (((T.fn cc).take vs.length).zip xs).length < 1000 → putF f yx (((T.fn cc).take vs.length).zip xs) = ((T.fn cc).take ys.length).zip zs → WantsS T X.K io2 h2.length F2 H2 W D (.next sg (h2.set k (.ins cc ys))) →
              ∃ a C dx' fs, V.ref (io2 k) = .ref a ∧ H2 a = some (.ins C dx' fs) ∧ Cls X.K C ∧ NoAttr X.K C f ∧ fs.length < 1000 ∧ D.nx σ (upd H2 a (.ins C dx' (putF f yx fs))) := by
            intro ys zs ry hy hsm hp wn
            refine ⟨io2 k, _, dx, _, rfl, ea, kk.cls, kk.no f (List.mem_of_getElem? hf), hsm, ?_⟩
            have st3 : Step io2 h2.length F2 H2 io2 (h2.set k (.ins cc ys)).length F2 (upd H2 (io2 k) (.ins (He.ga X.K (T.cn cc)) dx (putF f yx (((T.fn cc).take vs.length).zip xs)))) := sr2.writeStep hk
            refine wn io2 F2 _ σ st3 (sr2.write hk hno ⟨dx, zs, by rw [upd_same, hp], by rw [upd_ne nod]; exact ed, ry, hy, hlen.2⟩) ?_
            have := rs2.step st3
            exact this
          by_cases hi : i < vs.length
          · rw [if_pos hi] at w2
            have hf' : ((T.fn cc).take vs.length)[i]? = some f := by rw [List.getElem?_take_of_lt hi]; exact hf
            exact tk (vs.set i y) (xs.set i yx) (r.set vy2 i) (by simpa using hlen.1) hsm (by rw [List.length_set]; exact putF_zip_old (kk.nd.sublist (List.take_sublist _ _)) hf' (by omega)) w2
          · rw [if_neg hi] at w2
            by_cases hi2 : i = vs.length
            · rw [if_pos hi2] at w2
              subst hi2
              have hlt : vs.length < (T.fn cc).length := (List.getElem?_eq_some_iff.mp hf).1
              have hnot : f ∉ (T.fn cc).take vs.length := fun hm => by
                obtain ⟨j, hj, ej⟩ := List.mem_iff_getElem.mp hm
                have hj' : j < vs.length := by simp at hj; omega
                have e1 : (T.fn cc)[j]? = some f := by
                  rw [← List.getElem?_take_of_lt hj', List.getElem?_eq_getElem hj, ej]
                have := nodup_ix kk.nd e1 hf
                omega
              exact tk (vs ++ [y]) (xs ++ [yx]) (r.append (.cons vy2 .nil)) (by simp; omega) hsm (by
                rw [putF_zip_new (by rw [List.length_take]; omega) hnot, List.length_append, List.length_singleton, take_succ_at hf]) w2
            · rw [if_neg hi2] at w2; exact w2.elim
  | _ => exact w2.elim
end
end Py
namespace Py
open PySem PySem.Spec PyProof.Rows L2
def isA (c : Nat) (h : Hh) : Val → Bool
  | .obj c' _ => c' == c
  | .ref k => (match h[k]? with
    | some (.ins c' _) => c' == c
    | _ => false)
  | _ => false
section
variable {T : Tb} {K : PySem.W.Frag} {io : Nat → Addr} {F H : Hp} {h : Hh} {v : Val} {x : V} {c : Nat}
theorem isA_ok (sr : SR T K io h F H) (vr : VR T K io h.length F v x) (e : isA c h v = true) (m : Str) (hm : m ∉ T.fn c) : ∃ a dx fs, x = .ref a ∧ H a = some (.ins (He.ga K (T.cn c)) dx fs) ∧ fs.lookup m = none := by
  unfold isA at e
  cases vr with
  | @obj cc vs a dx xs q qd r hl =>
    have : cc = c := beq_iff_eq.mp e
    subst this
    exact ⟨a, dx, _, rfl, sr.sub _ _ q, zip_none hm⟩
  | ref k hk =>
    dsimp only at e
    cases ek : h[k]? with
    | none => rw [ek] at e; cases e
    | some ob =>
      rw [ek] at e
      cases ob with
      | lst vs => cases e
      | dct ks vs => cases e
      | ins cc vs =>
        have : cc = c := beq_iff_eq.mp e
        subst this
        obtain ⟨dx, xs, ea, ed, r, hlen⟩ := sr.obj k _ ek
        exact ⟨io k, dx, _, rfl, ea, zip_none fun z => hm (List.mem_of_mem_take z)⟩
  | _ => cases e
end
section
variable {T : Tb} {X : Cx} {W : WX} {e o : Expr} {es : List Expr} {fo : Ex} {fl : Lx} {pos apos : Pos} {ps : List Str} {k : Nat} {f : Fx} {m : Str} {c : Nat} {a : Addr} {fd : FuncData} {dvs : List V} {ds : List Value} {CXq : CXT} {sp : Sp} {E : L2.St → XK}
def tMethS (C : Addr) (m : Str) (sp : Sp) (dvs : List V) (E : L2.St → XK) (ta : TE) (t : TA) : TE := fun σ H Q => ta σ H fun x H1 => ∃ a dx fs, x = .ref a ∧ H1 a = some (.ins C dx fs) ∧ fs.lookup m = none ∧ t σ H1 fun vs H2 => sp (x :: (vs ++ dvs)) H2 Q (E σ)
theorem pe_methS {pl : Sem Bool} {C : Addr} {ta : TE} {t : TA} (he : PE X o ta) (cl : Cls X.K C) (hm : Meth X.K C m a) (G : FnG X.prog X.w X.K X.mg X.base CXq k a fd ps sp) (hr : RoomG k X.A) (hb : Binds X.K fd ps ds) (hd : Vals dvs ds) (hx : ∀ σ, PassesAt CXq X σ (E σ)) (ha : PA X (e :: es) t)
    (hst : starEach (e :: es) X.env = (false, eval e X.env) :: starEach es X.env) (hpl : (backTo pos (starEach es X.env)).any (·.1) = false)
    (ht : eval (.Call (.Attribute o m apos) (e :: es) [] pos) X.env = (eval o X.env >>= fun ov => standAt apos.atName >>= fun _ => holding [ov] (getMethod ov m pl) >>= fun p => callWith pos p.1 p.2 (backTo pos (starEach (e :: es) X.env)) (backToKw pos (keywordEach [] X.env)))) :
    PE X (.Call (.Attribute o m apos) (e :: es) [] pos) (tMethS C m sp dvs E ta t) := by
  refine ⟨fun pins s σ H Q I hq => PySem.W.methodCall_KW (pl := pl) (thn (he.run pins s σ H _ I hq) ?_) ht⟩
  rintro u s1 ⟨x, H1, I1, rx, q, dx, fs, rfl, ea, l, q1⟩
  cases (show u = Value.ref q from rx)
  exact getmeth_ok I1 ea cl hm l (PySem.W.callWith_K (first := [.ref q]) (h₀ := X.base) I.ok.mod.kin hm.kp (thn (ha.run pos pins s1 σ H1 _ I1 q1) fun us s2 ⟨vs, H2, I2, r, q2⟩ => ⟨I2.kIn, run_fnG (us := .ref q :: us) (vs := .ref q :: vs) G hr hb hd (hx σ) I2 (.cons rfl r) q2⟩) hst hpl)
def xMethP (T : Nat → List Str) (c : Nat) (f : Fx) (dfl : List Val) (o : Ex) (l : Lx) : Ex := fun sg h => (o sg h).bind fun ov h1 => if isA c h1 ov = true then (l sg h1).bind fun as h2 => callQ T f (ov :: (as ++ dfl)) h2 else .bad
theorem je_methP {pl : Sem Bool} (ho : JE T X W o fo) (cf : Cf T X.K c) (hm : Meth X.K (He.ga X.K (T.cn c)) m a) (hmf : m ∉ T.fn c) (G : FnG X.prog X.w X.K X.mg X.base (CX X.prog X.w) k a fd ps (spF T X.K f)) (hr : RoomG k X.A) {dfl : List Val} (hD : Dfl T X.K dfl dvs) (hb : Binds X.K fd ps ds) (hd : Vals dvs ds) (tk : Takes X W) (ha : JA T X W (e :: es) fl)
    (hst : starEach (e :: es) X.env = (false, eval e X.env) :: starEach es X.env := by rfl) (hpl : (backTo pos (starEach es X.env)).any (·.1) = false := by rfl)
    (ht : eval (.Call (.Attribute o m apos) (e :: es) [] pos) X.env = (eval o X.env >>= fun ov => standAt apos.atName >>= fun _ => holding [ov] (getMethod ov m pl) >>= fun p => callWith pos p.1 p.2 (backTo pos (starEach (e :: es) X.env)) (backToKw pos (keywordEach [] X.env))) := by rfl) :
    JE T X W (.Call (.Attribute o m apos) (e :: es) [] pos) (xMethP T.fn c f dfl fo fl) := by
  refine pe_imp (pe_methS (E := fun σ c d H => W c d σ H) (sp := spF T X.K f) ho cf.cls hm G hr hb hd (fun σ => passAt tk σ) ha hst hpl ht) fun σ H Q ⟨io, h, F, sg, sr, rs, w⟩ => ⟨io, h, F, sg, sr, rs, Wants.bind w fun ov h1 io1 F1 H1 x st sr1 vr w1 => ?_⟩
  by_cases hi : isA c h1 ov = true
  · rw [if_pos hi] at w1
    obtain ⟨a, dx, fs, ex, ea, l⟩ := isA_ok sr1 vr hi m hmf
    exact ⟨a, dx, fs, ex, ea, l, io1, h1, F1, sg, sr1, rs.step st, Wants.bindOfL w1 fun vs h2 io2 F2 H2 xs st2 sr2 vrs w2 => callQ_ok sr2 (.cons (vr.step st2) (vrs.append (hD _ _ _))) w2⟩
  · rw [if_neg hi] at w1; exact w1.elim
def makeP (T : Nat → List Str) (c : Nat) (f : Fx) (as : List Val) (h : Hh) : Res := if (h.isEmpty || pureVs as) = true then (match f [.ins c []] (.ref 0 :: as) with
  | .ok _ h' => .ofO (frz T h' 30 (.ref 0)) h
  | .exc c fs h' => (match frzTops T h' fs with
    | some fs' => .exc c fs' h
    | none => .bad)
  | .bad => .bad) else .bad
def spMk (T : Tb) (K : PySem.W.Frag) (c : Nat) (sp : Sp) (vs : List V) (H : Hp) (Q : VK) (W : XK) : Prop := ∀ x dx, H x = none → H dx = none → dx ≠ x →
  sp (.ref x :: vs) (upd (upd H dx (.own x)) x (.ins (He.ga K (T.cn c)) dx [])) (fun v H2 => v = .non ∧ Q (.ref x) H2) W
theorem makeP_ok {K : PySem.W.Frag} {io : Nat → Addr} {F H : Hp} {h : Hh} {W : XK} {Q : VK} {f : Fx} {as : List Val} {vs : List V} (hn : PySem.W.makesIn K (He.ga K (T.cn c)) = true) (hf : ∀ as h v h', f h as = .ok v h' → v = .non) (sr : SR T K io h F H) (r : VRs T K io h.length F as vs) (w : Wants T K io h.length F H W Q (makeP T.fn c f as h)) : spMk T K c (spF T K f) vs H Q W := by
  intro x dx hx hdx hne
  unfold makeP at w
  by_cases hp : (h.isEmpty || pureVs as) = true
  · rw [if_pos hp] at w
    have r0 : VRs T K io 0 F as vs := by
      rcases Bool.or_eq_true_iff.mp hp with z | z
      · have : h = [] := List.isEmpty_iff.mp z
        subst this; exact r
      · exact r.pure z
    have hx2 : upd H dx (.own x) x = none := by rw [upd_ne (Ne.symm hne)]; exact hx
    have hH : ∀ b u, H b = some u → upd (upd H dx (.own x)) x (.ins (He.ga K (T.cn c)) dx []) b = some u := fun b u e => upd_sub _ hx2 b u (upd_sub H hdx b u e)
    have fx : F x = none := sr.none_of hx
    let io0 : Nat → Addr := fun _ => x
    have s0 : SR T K io0 [.ins c []] F (upd (upd H dx (.own x)) x (.ins (He.ga K (T.cn c)) dx [])) := by
      refine ⟨fun b o e => hH b o (sr.sub b o e), fun k hk => fx, fun j k hj hk _ => ?_, fun k o e => ?_, fun pq hq => (sr.tabs pq hq).mono (fun _ _ h _ e => by rw [h] at e; cases e) (fun _ _ e _ => e) fun ps e => hH _ _ e⟩
      · have h1 : j < 1 := hj
        have h2 : k < 1 := hk
        omega
      · have hk : k = 0 := by
          have := (List.getElem?_eq_some_iff.mp e).1
          have h1 : k < 1 := this
          omega
        subst hk
        cases (Option.some.inj e : Obj.ins c [] = o)
        exact ⟨dx, [], by rw [show io0 0 = x from rfl, upd_same]; rfl, by rw [upd_ne hne, upd_same], .nil, Nat.zero_le _, hn⟩
    refine ⟨io0, [.ins c []], F, .ref 0 :: as, s0, .cons (.ref 0 (Nat.lt_succ_self 0)) (r0.mono (Nat.zero_le _) (fun k hk => absurd hk (Nat.not_lt_zero _)) (fun _ _ e => e)), ?_⟩
    have back : ∀ {io' : Nat → Addr} {h' : Hh} {F' H' : Hp}, Step io0 ([Obj.ins c []] : Hh).length F (upd (upd H dx (.own x)) x (.ins (He.ga K (T.cn c)) dx [])) io' h'.length F' H' → SR T K io' h' F' H' → Step io 0 F H io' h'.length F' H' := fun {io' h' F' H'} st sr' => by
      refine ⟨Nat.zero_le _, fun k hk => absurd hk (Nat.not_lt_zero _), st.phi, fun b o e _ => st.frm b o (hH b o e) fun k hk z => ?_, fun k _ hk => ?_, fun b o e => ?_⟩
      · have : x = b := z
        rw [this, e] at hx; cases hx
      · by_cases h0 : k < 1
        · rw [st.eq k h0]; exact hx
        · have z := st.new k (by show 1 ≤ k; omega) hk
          cases q : H (io' k) with
          | none => rfl
          | some u => rw [hH _ _ q] at z; cases z
      · rcases st.fresh b o e with z | z | z
        · exact .inl z
        · refine .inr (.inl ?_)
          cases q : H b with
          | none => rfl
          | some u => rw [hH _ _ q] at z; cases z
        · exact .inr (.inr z)
    cases e : f [.ins c []] (.ref 0 :: as) with
    | bad => rw [e] at w; exact w
    | ok v h' =>
      rw [e] at w
      obtain ⟨z, ez, w1⟩ := wants_ofO w
      intro io1 F1 H1 x1 st sr1 vr
      have hv := hf _ _ _ _ e
      subst hv
      cases vr
      refine ⟨rfl, ?_⟩
      have st0 := back st sr1
      obtain ⟨a1, b1⟩ := sr_back sr st0 sr1
      have hlen : 0 < h'.length := Nat.lt_of_lt_of_le (Nat.lt_succ_self 0) st.le
      have v0 : VR T K io1 h'.length F1 (.ref 0) (.ref (io1 0)) := .ref 0 hlen
      have e0 : io1 0 = x := st.eq 0 (Nat.lt_succ_self 0)
      rw [e0] at v0
      refine w1 io _ H1 (.ref x) b1 a1 ?_
      exact (frz_ok (io' := io) sr1 F2of_sub (fun k hk => F2of_at sr1 hk) (fun k d hk e => F2of_own sr1 hk e) 30 (.ref 0) z (.ref x) ez v0).ofEmpty rfl
    | exc cc fs h' =>
      rw [e] at w
      intro io1 F1 H1 d st sr1 xr
      dsimp only at w
      cases ez : frzTops T.fn h' fs with
      | none => rw [ez] at w; exact w.elim
      | some fs' =>
        rw [ez] at w
        obtain ⟨a1, b1⟩ := sr_back sr (back st sr1) sr1
        exact w io _ H1 d b1 a1 (xr.change (fun z => by subst z; exact frzTops_nil ez) fun xs r => frzTops_ok sr1 ez r)
  · rw [if_neg hp] at w; exact w.elim
theorem makeP_heap {T : Nat → List Str} {as : List Val} {h h2 : Hh} {v : Val} {f : Fx} {c : Nat} (e : makeP T c f as h = .ok v h2) : h2 = h := by
  unfold makeP at e
  split at e
  · split at e
    · unfold Res.ofO at e
      split at e
      · cases e; rfl
      · cases e
    · split at e <;> cases e
    · cases e
  · cases e
def makeQ (T : Nat → List Str) (c : Nat) (f : Fx) (as : List Val) (h : Hh) : Res := if pureVs as = true then makeP T c f as h else match as.mapM (lend h) with
  | some bs => (match makeP T c f bs [] with
    | .ok v _ => if noLst v = true then .ok v h else .bad
    | _ => .bad)
  | none => .bad
theorem makeQ_ok {K : PySem.W.Frag} {io : Nat → Addr} {F H : Hp} {h : Hh} {W : XK} {Q : VK} {f : Fx} {as : List Val} {vs : List V} (hn : PySem.W.makesIn K (He.ga K (T.cn c)) = true) (hf : ∀ as h v h', f h as = .ok v h' → v = .non) (sr : SR T K io h F H) (r : VRs T K io h.length F as vs) (w : Wants T K io h.length F H W Q (makeQ T.fn c f as h)) : spMk T K c (spF T K f) vs H Q W := by
  unfold makeQ at w
  by_cases hp : pureVs as = true
  · rw [if_pos hp] at w
    exact makeP_ok hn hf sr r w
  · rw [if_neg hp] at w
    cases em : as.mapM (lend h) with
    | none => rw [em] at w; exact w.elim
    | some bs =>
      rw [em] at w
      dsimp only at w
      have r0 : VRs T K io ([] : Hh).length (FL io h.length F H) bs vs := mapM_VRs (lend_ok sr) em r
      have s0 : SR T K io [] (FL io h.length F H) H := ⟨FL_in sr.sub, fun k hk => absurd hk (Nat.not_lt_zero _), fun j k hj => absurd hj (Nat.not_lt_zero _), fun k o e => by simp at e, fun pq hq => (sr.tabs pq hq).mono (fun ps o h hp' e => by
    rcases FL_or _ _ e with z | ⟨xs, z⟩
    · rw [h] at z; cases z
    · have e3 := FL_in sr.sub _ _ e
      rw [hp', z] at e3; cases e3) (fun c o e _ => FL_sub c o e) fun _ e => e⟩
      refine makeP_ok hn hf s0 r0 ?_
      cases ec : makeP T.fn c f bs [] with
      | bad => rw [ec] at w; exact w.elim
      | exc c fs h' => rw [ec] at w; exact w.elim
      | ok v h2 =>
        have eh := makeP_heap ec
        subst eh
        rw [ec] at w
        dsimp only at w
        split at w
        · rename_i hz
          intro io1 F1 H1 x st sr1 vr
          obtain ⟨a, b⟩ := lend_back sr st sr1
          exact w io _ H1 x b a (vr.back sr.sub st hz)
        · exact w.elim
theorem run_makeS {C : Addr} {pins : List (Addr × PySem.Obj)} {σ : L2.St} {H : Hp} {s : Shared} {Q : VK} {us : List Value} {vs : List V} {Eσ : XK} (M : Mk X.K C a) (G : FnG X.prog X.w X.K X.mg X.base CXq k a fd ps sp) (hr : RoomG (k + 1) X.A) (hb : Binds X.K fd ps ds) (hd : Vals dvs ds)
    (hx : PassesAt CXq X σ Eσ) (I : L2.Inv X pins σ H s) (r : Vals vs us)
    (h : ∀ x dx, H x = none → H dx = none → dx ≠ x → sp (.ref x :: (vs ++ dvs)) (upd (upd H dx (.own x)) x (.ins C dx [])) (fun v H2 => v = .non ∧ Q (.ref x) H2) Eσ) :
    wpAny (model X.prog X.w) X.A (call (.ref C) us) (EP X pins σ Q) X.xe s := by
  have f0 : H s.heap.objs.size = none := I.hok.fresh (Nat.le_refl _)
  have f1 : H (s.heap.objs.size + 1) = none := I.hok.fresh (Nat.le_succ _)
  have hq := h _ _ f1 f0 (Nat.ne_of_lt (Nat.lt_succ_self _))
  have I2 : L2.Inv X pins σ _ _ := L2.Inv.made (C := C) I
  have rr : Vals (V.ref (s.heap.objs.size + 1) :: (vs ++ dvs)) (Value.ref (s.heap.objs.size + 1) :: (us ++ ds)) := Paired.cons rfl (Vals.append r hd)
  have hl : (Value.ref (s.heap.objs.size + 1) :: us ++ ds).length = ps.length := by
    have e1 := Vals.length rr
    rw [G.len _ _ _ _ hq] at e1
    exact Eq.symm e1
  refine wpAny_call (make_map (f := a) I.kIn M.makes M.init (beq_iff_eq.mp M.fn) ?_)
  refine codeAny_mono (G.run _ X.stack _ _ _ _ _ _ Eσ (hr.make C us []) (I2.env0.make C us []) (hb _ (Value.ref (s.heap.objs.size + 1) :: us) I2.kIn hl) rr hq) ?_
  intro rs s' hq'
  match rs, hq' with
  | .error er, hq' => exact hx pins _ _ er s' I2 hq'
  | .ok (.ret u), hq' =>
    obtain ⟨v, H', I3, rv, ev, q3⟩ := I2.after hq'
    rw [ev] at rv
    exact ⟨rv, ⟨V.ref (s.heap.objs.size + 1), H', I3, rfl, q3⟩⟩
  | .ok .next, hq' => exact False.elim hq'
  | .ok .brk, hq' => exact False.elim hq'
  | .ok .cont, hq' => exact False.elim hq'
def tMakeS (C : Addr) (sp : Sp) (dvs : List V) (E : L2.St → XK) (t : TA) : TE := fun σ H Q => t σ H fun vs H1 => ∀ x dx, H1 x = none → H1 dx = none → dx ≠ x →
  sp (.ref x :: (vs ++ dvs)) (upd (upd H1 dx (.own x)) x (.ins C dx [])) (fun v H2 => v = .non ∧ Q (.ref x) H2) (E σ)
variable {x : Str} {p : Pos}
theorem pe_makeS {C : Addr} {t : TA} (M : Mk X.K C a) (G : FnG X.prog X.w X.K X.mg X.base CXq k a fd ps sp) (hr : RoomG (k + 1) X.A) (hg : Gl X x) (hm : X.mg x = some (.ref C)) (hb : Binds X.K fd ps ds) (hd : Vals dvs ds) (hx : ∀ σ, PassesAt CXq X σ (E σ)) (ha : PA X (e :: es) t) (hdb : (x == ("__debug__" : Str)) = false)
    (he : starEach (e :: es) X.env = (false, eval e X.env) :: starEach es X.env) (hpl : (backTo pos (starEach es X.env)).any (·.1) = false) : PE X (.Call (.Name x p) (e :: es) [] pos) (tMakeS C sp dvs E t) :=
  ⟨fun pins s σ H Q I h => wpAny_Call_Name_kw (ld_glob I hg hm (PySem.W.callWith_K (h₀ := X.base) I.ok.mod.kin M.kp (thn (ha.run pos pins s σ H _ I h) fun us s1 ⟨vs, H1, I1, r, q⟩ => ⟨I1.kIn, run_makeS M G hr hb hd (hx σ) I1 r q⟩) he hpl) hdb)⟩
def xMakeP (T : Nat → List Str) (c : Nat) (f : Fx) (dfl : List Val) (l : Lx) : Ex := fun sg h => (l sg h).bind fun as h1 => makeQ T c f (as ++ dfl) h1
theorem je_makeP (hf : ∀ as h v h', f h as = .ok v h' → v = .non) (M : Mk X.K (He.ga X.K (T.cn c)) a) (G : FnG X.prog X.w X.K X.mg X.base (CX X.prog X.w) k a fd ps (spF T X.K f)) (hr : RoomG (k + 1) X.A) (hm : X.mg x = some (.ref (He.ga X.K (T.cn c)))) {dfl : List Val} (hD : Dfl T X.K dfl dvs) (hb : Binds X.K fd ps ds) (hd : Vals dvs ds) (tk : Takes X W) (ha : JA T X W (e :: es) fl)
    (hg : Gl X x := by rfl) (hdb : (x == ("__debug__" : Str)) = false := by decide) (he : starEach (e :: es) X.env = (false, eval e X.env) :: starEach es X.env := by rfl) (hpl : (backTo pos (starEach es X.env)).any (·.1) = false := by rfl) :
    JE T X W (.Call (.Name x p) (e :: es) [] pos) (xMakeP T.fn c f dfl fl) := by
  refine pe_imp (pe_makeS (E := fun σ c d H => W c d σ H) (sp := spF T X.K f) M G hr hg hm hb hd (fun σ => passAt tk σ) ha hdb he hpl) fun σ H Q ⟨io, h, F, sg, sr, rs, w⟩ => ⟨io, h, F, sg, sr, rs, Wants.bindOfL w fun vs h1 io1 F1 H1 xs st sr1 vrs w1 => ?_⟩
  exact makeQ_ok (c := c) M.makes hf sr1 (vrs.append (hD _ _ _)) w1
end
end Py
namespace Py
open PySem PySem.Spec PyProof.Rows L2
section
variable {T : Tb} {K : PySem.W.Frag}
def gI (f : Int → Int → Val) : G2 := fun _ v u => match v, u with
  | .int i, .int j => some (f i j)
  | _, _ => none
theorem lift_I0 {f : Int → Int → V} {g : Int → Int → Val} (hg : ∀ i j io n F, VR T K io n F (g i j) (f i j)) : Lift2 T K (rI0 f) (gI g) := by
  intro io h F H v u x y z Q sr vr ur e q
  unfold gI at e
  cases vr with
  | int i =>
    cases ur with
    | int j => cases e; exact ⟨i, j, rfl, rfl, q F H _ .refl sr (hg i j _ _ _)⟩
    | _ => cases e
  | _ => cases e
def gIc (c : Int → Int → Bool) (f : Int → Int → Val) : G2 := fun _ v u => match v, u with
  | .int i, .int j => if c i j = true then some (f i j) else none
  | _, _ => none
theorem lift_I {C : Int → Int → Prop} {f : Int → Int → V} {c : Int → Int → Bool} {g : Int → Int → Val} (hc : ∀ i j, c i j = true → C i j) (hg : ∀ i j io n F, VR T K io n F (g i j) (f i j)) : Lift2 T K (rI C f) (gIc c g) := by
  intro io h F H v u x y z Q sr vr ur e q
  unfold gIc at e
  cases vr with
  | int i =>
    cases ur with
    | int j =>
      dsimp only at e
      by_cases h1 : c i j = true
      · rw [if_pos h1] at e; cases e; exact ⟨i, j, rfl, rfl, hc i j h1, q F H _ .refl sr (hg i j _ _ _)⟩
      · rw [if_neg h1] at e; cases e
    | _ => cases e
  | _ => cases e
abbrev gAdd : G2 := gI fun i j => .int (i + j)
abbrev gSub : G2 := gI fun i j => .int (i - j)
def okMul (i j : Int) : Bool := (decide (-18446744073709551616 < i) && decide (i < 18446744073709551616)) || (decide (-18446744073709551616 < j) && decide (j < 18446744073709551616))
abbrev gMul : G2 := gIc okMul fun i j => .int (i * j)
abbrev gFdiv : G2 := gIc (fun _ j => decide (0 < j) && decide (j < 1073741824)) fun i j => .int (i / j)
abbrev gMod : G2 := gIc (fun _ j => decide (0 < j)) fun i j => .int (i % j)
abbrev gPow : G2 := gIc (fun i j => decide (0 ≤ j) && decide (j ≤ 1000) && decide (i.natAbs < 18446744073709551616)) fun i j => .int (i ^ j.toNat)
abbrev gLt : G2 := gI fun i j => .bl (decide (i < j))
abbrev gLe : G2 := gI fun i j => .bl (decide (i ≤ j))
abbrev gGt : G2 := gI fun i j => .bl (decide (j < i))
abbrev gGe : G2 := gI fun i j => .bl (decide (j ≤ i))
theorem lift_add : Lift2 T K (rI0 fun i j => .int (i + j)) gAdd := lift_I0 fun i j _ _ _ => .int _
theorem lift_sub : Lift2 T K (rI0 fun i j => .int (i - j)) gSub := lift_I0 fun i j _ _ _ => .int _
theorem lift_mul : Lift2 T K (rI CMul fun i j => .int (i * j)) gMul := lift_I (fun i j h => by
  unfold okMul at h
  simp only [Bool.or_eq_true, Bool.and_eq_true, decide_eq_true_eq] at h
  have e : (2 : Int) ^ 64 = 18446744073709551616 := by decide
  unfold CMul
  omega) fun i j _ _ _ => .int _
theorem lift_fdiv : Lift2 T K (rI CDiv fun i j => .int (i / j)) gFdiv := lift_I (fun i j h => by
  simp only [Bool.and_eq_true, decide_eq_true_eq] at h
  exact h) fun i j _ _ _ => .int _
theorem lift_mod : Lift2 T K (rI (fun _ j => 0 < j) fun i j => .int (i % j)) gMod := lift_I (fun i j h => of_decide_eq_true h) fun i j _ _ _ => .int _
theorem lift_pow : Lift2 T K (rI CPow fun i j => .int (i ^ j.toNat)) gPow := lift_I (fun i j h => by
  simp only [Bool.and_eq_true, decide_eq_true_eq] at h
  have e : (2 : Nat) ^ 64 = 18446744073709551616 := by decide
  unfold CPow
  omega) fun i j _ _ _ => .int _
variable {X : Cx}
theorem op_lt' : OpR X (compareOp .Lt) (rI0 fun i j => .bl (decide (i < j))) := opB0 fun _ _ _ _ _ _ _ q => lt_int q
theorem op_le' : OpR X (compareOp .LtE) (rI0 fun i j => .bl (decide (i ≤ j))) := opB0 fun _ _ _ _ _ _ _ q => le_int q
theorem op_gt' : OpR X (compareOp .Gt) (rI0 fun i j => .bl (decide (j < i))) := opB0 fun _ _ _ _ _ _ _ q => gt_int q
theorem op_ge' : OpR X (compareOp .GtE) (rI0 fun i j => .bl (decide (j ≤ i))) := opB0 fun _ _ _ _ _ _ _ q => ge_int q
theorem lift_lt : Lift2 T K (rI0 fun i j => .bl (decide (i < j))) gLt := lift_I0 fun i j _ _ _ => .bl _
theorem lift_le : Lift2 T K (rI0 fun i j => .bl (decide (i ≤ j))) gLe := lift_I0 fun i j _ _ _ => .bl _
theorem lift_gt : Lift2 T K (rI0 fun i j => .bl (decide (j < i))) gGt := lift_I0 fun i j _ _ _ => .bl _
theorem lift_ge : Lift2 T K (rI0 fun i j => .bl (decide (j ≤ i))) gGe := lift_I0 fun i j _ _ _ => .bl _
end
def okStr (s : List Nat) : Bool := s.all fun c => decide (c < 1114112)
def dat (h : Hh) : Nat → Val → Option PyData
  | 0, _ => none
  | n + 1, v => match v with
    | .non => some .none
    | .bl b => some (.bool b)
    | .int i => some (.int i)
    | .str s => if okStr s = true then some (.str ⟨s.toArray⟩) else none
    | .tup vs => (vs.mapM (dat h n)).map .tuple
    | .lst vs => (vs.mapM (dat h n)).map .list
    | .ref k => (match h[k]? with
      | some (.lst vs) => (vs.mapM (dat h n)).map .list
      | _ => none)
    | _ => none
section
variable {T : Tb} {K : PySem.W.Frag} {io : Nat → Addr} {F H : Hp} {h : Hh}
theorem mapM_Dp {g : Val → Option PyData} {n : Nat} (hg : ∀ v d x, g v = some d → VR T K io h.length F v x → Dp K H x d ∧ PyData.canLay0 d = true ∧ d.depth ≤ n) : ∀ {vs : List Val} {ds : List PyData} {xs : List V}, vs.mapM g = some ds → VRs T K io h.length F vs xs → DpAll K H xs ds ∧ PyData.canLayAll0 ds = true ∧ PyData.depthAll ds ≤ n
  | [], ds, xs, e, r => by
    simp at e; subst e
    cases r; exact ⟨.nil, rfl, Nat.zero_le _⟩
  | v :: vs, ds, xs, e, r => by
    rw [List.mapM_cons] at e
    cases q : g v with
    | none => rw [q] at e; simp at e
    | some d =>
      rw [q] at e
      cases q2 : vs.mapM g with
      | none => rw [q2] at e; simp at e
      | some us =>
        rw [q2] at e
        simp at e
        subst e
        cases r with
        | cons a b =>
          obtain ⟨a1, a2, a3⟩ := hg v d _ q a
          obtain ⟨b1, b2, b3⟩ := mapM_Dp hg q2 b
          exact ⟨.cons a1 b1, by simp [PyData.canLayAll0, a2, b2], by simp [PyData.depthAll]; omega⟩
theorem dat_ok (sr : SR T K io h F H) : ∀ (n : Nat) (v : Val) (d : PyData) (x : V), dat h n v = some d → VR T K io h.length F v x → Dp K H x d ∧ PyData.canLay0 d = true ∧ d.depth ≤ n
  | 0, _, _, _, e, _ => by cases e
  | n + 1, v, d, x, e, r => by
    have ih := dat_ok sr n
    unfold dat at e
    cases r with
    | non => cases e; exact ⟨.non, rfl, Nat.zero_le _⟩
    | bl b => cases e; exact ⟨.bl b, rfl, Nat.zero_le _⟩
    | int i => cases e; exact ⟨.int i, rfl, Nat.zero_le _⟩
    | str s =>
      dsimp only at e
      by_cases hs : okStr s = true
      · rw [if_pos hs] at e
        cases e
        refine ⟨.str _, ?_, Nat.zero_le _⟩
        simp only [PyData.canLay0, PyData.strOk, List.all_toArray]
        unfold okStr at hs
        exact hs
      · rw [if_neg hs] at e; cases e
    | glo g => cases e
    | dct _ _ _ _ _ => cases e
    | @obj c vs a dx xs q qd rr hl => cases e
    | @tup vs a xs q rr =>
      obtain ⟨ds, e1, rfl⟩ := map_some e
      obtain ⟨b1, b2, b3⟩ := mapM_Dp ih e1 rr
      exact ⟨.tup (sqT_mono sr.sub q) b1, b2, Nat.succ_le_succ b3⟩
    | @lst vs a xs q rr =>
      obtain ⟨ds, e1, rfl⟩ := map_some e
      obtain ⟨b1, b2, b3⟩ := mapM_Dp ih e1 rr
      exact ⟨.lst (sqL_mono sr.sub q) b1, b2, Nat.succ_le_succ b3⟩
    | ref k hk =>
      dsimp only at e
      cases ek : h[k]? with
      | none => rw [ek] at e; cases e
      | some ob =>
        rw [ek] at e
        cases ob with
        | ins c vs => cases e
        | dct ks vs => cases e
        | lst vs =>
          obtain ⟨xs, ea, rr⟩ := sr.obj k _ ek
          obtain ⟨ds, e1, rfl⟩ := map_some e
          obtain ⟨b1, b2, b3⟩ := mapM_Dp ih e1 rr
          exact ⟨.lst (SqL.of ea) b1, b2, Nat.succ_le_succ b3⟩
theorem shaped_of {d : PyData} {n : Nat} (hn : n ≤ 60) (h1 : PyData.canLay0 d = true) (h2 : d.depth ≤ n) : SeqAt.shaped d = true := by
  unfold SeqAt.shaped
  rw [h1, Bool.true_and]
  exact decide_eq_true (by omega)
def eqD (h : Hh) (v u : Val) : Option Bool := match dat h 30 v, dat h 30 u with
  | some d, some e => some (PyData.eqv d e)
  | _, _ => none
def gEq : G2 := fun h v u => (eqD h v u).map .bl
def gNe : G2 := fun h v u => (eqD h v u).map fun b => .bl (!b)
theorem eqD_ok (sr : SR T K io h F H) {v u : Val} {x y : V} {b : Bool} (vr : VR T K io h.length F v x) (ur : VR T K io h.length F u y) (e : eqD h v u = some b) : ∃ d e, Dp K H x d ∧ Dp K H y e ∧ SeqAt.shaped d = true ∧ SeqAt.shaped e = true ∧ PyData.eqv d e = b := by
  unfold eqD at e
  cases e1 : dat h 30 v with
  | none => rw [e1] at e; cases e
  | some d =>
    rw [e1] at e
    cases e2 : dat h 30 u with
    | none => rw [e2] at e; cases e
    | some d2 =>
      rw [e2] at e
      obtain ⟨a1, a2, a3⟩ := dat_ok sr 30 v d x e1 vr
      obtain ⟨b1, b2, b3⟩ := dat_ok sr 30 u d2 y e2 ur
      exact ⟨d, d2, a1, b1, shaped_of (by omega) a2 a3, shaped_of (by omega) b2 b3, Option.some.inj e⟩
theorem lift_eqD : Lift2 T K (rEqD K) gEq := by
  intro io h F H v u x y z Q sr vr ur e q
  obtain ⟨b, eb, rfl⟩ := map_some e
  obtain ⟨d, d2, a1, a2, a3, a4, a5⟩ := eqD_ok sr vr ur eb
  exact ⟨d, d2, a1, a2, a3, a4, by rw [a5]; exact q F H _ .refl sr (.bl b)⟩
theorem lift_neD : Lift2 T K (rNeD K) gNe := by
  intro io h F H v u x y z Q sr vr ur e q
  obtain ⟨b, eb, rfl⟩ := map_some e
  obtain ⟨d, d2, a1, a2, a3, a4, a5⟩ := eqD_ok sr vr ur eb
  exact ⟨d, d2, a1, a2, a3, a4, by rw [a5]; exact q F H _ .refl sr (.bl _)⟩
end
def lstOf (h : Hh) : Val → Option (List Val)
  | .lst vs => some vs
  | .ref k => (match h[k]? with
    | some (.lst vs) => some vs
    | _ => none)
  | _ => none
section
variable {T : Tb} {K : PySem.W.Frag} {io : Nat → Addr} {F H : Hp} {h : Hh} {v : Val} {x : V} {vs : List Val}
theorem lstOf_ok (sr : SR T K io h F H) (r : VR T K io h.length F v x) (e : lstOf h v = some vs) : ∃ a xs, x = .ref a ∧ SqL K H a xs ∧ VRs T K io h.length F vs xs := by
  unfold lstOf at e
  cases r with
  | @lst vs' a xs q rr => cases e; exact ⟨a, xs, rfl, sqL_mono sr.sub q, rr⟩
  | ref k hk =>
    dsimp only at e
    cases ek : h[k]? with
    | none => rw [ek] at e; cases e
    | some ob =>
      rw [ek] at e
      cases ob with
      | ins c vs => cases e
      | dct ks vs => cases e
      | lst vs =>
        cases e
        obtain ⟨xs, ea, rr⟩ := sr.obj k _ ek
        exact ⟨io k, xs, rfl, SqL.of ea, rr⟩
  | _ => cases e
end
def atV (vs : List Val) (i : Int) : Option Val := if 0 ≤ i then vs[i.toNat]? else if 0 ≤ i + vs.length then vs[(i + vs.length).toNat]? else none
theorem atV_ok {T : Tb} {K : PySem.W.Frag} {io : Nat → Addr} {n : Nat} {F : Hp} {vs : List Val} {xs : List V} {i : Int} {z : Val} (r : VRs T K io n F vs xs) (e : atV vs i = some z) : ∃ y, atI xs i = some y ∧ VR T K io n F z y := by
  have hl := r.length
  unfold atV at e
  unfold atI ixN
  by_cases h0 : 0 ≤ i
  · rw [if_pos h0] at e
    have hi : i.toNat < vs.length := (List.getElem?_eq_some_iff.mp e).1
    rw [if_pos h0, if_pos (by omega)]
    obtain ⟨y, e1, r1⟩ := r.get e
    exact ⟨y, e1, r1⟩
  · rw [if_neg h0] at e
    by_cases h1 : 0 ≤ i + vs.length
    · rw [if_pos h1] at e
      rw [if_neg h0, if_pos (by omega)]
      obtain ⟨y, e1, r1⟩ := r.get e
      refine ⟨y, ?_, r1⟩
      show xs[(i + xs.length).toNat]? = some y
      rw [← hl]; exact e1
    · rw [if_neg h1] at e; cases e
def gIx : G2 := fun h v u => match u with
  | .int i => (match v with
    | .tup vs => atV vs i
    | .str s => if s.length ≤ 1000000 then (if 0 ≤ i then (s[i.toNat]?).map fun c => .str [c] else if 0 ≤ i + s.length then (s[(i + s.length).toNat]?).map fun c => .str [c] else none) else none
    | v => (match lstOf h v with
      | some vs => atV vs i
      | none => none))
  | _ => none
section
variable {T : Tb} {K : PySem.W.Frag}
theorem lift_ix : Lift2 T K (rIx K) gIx := by
  intro io h F H v u x y z Q sr vr ur e q
  unfold gIx at e
  cases ur with
  | int i =>
    have viaL : (match lstOf h v with
      | some vs => atV vs i
      | none => none) = some z → rIx K x (.int i) H Q := fun e => by
      cases el : lstOf h v with
      | none => rw [el] at e; cases e
      | some vs =>
        rw [el] at e
        obtain ⟨a, xs, rfl, sq, rr⟩ := lstOf_ok sr vr el
        obtain ⟨y, e1, r1⟩ := atV_ok rr e
        exact .inl ⟨a, xs, i, y, rfl, rfl, sq, e1, q F H _ .refl sr r1⟩
    cases vr with
    | @tup vs a xs sq rr =>
      obtain ⟨y, e1, r1⟩ := atV_ok rr e
      exact .inr (.inl ⟨a, xs, i, y, rfl, rfl, sqT_mono sr.sub sq, e1, q F H _ .refl sr r1⟩)
    | str s =>
      dsimp only at e
      by_cases hz : s.length ≤ 1000000
      · rw [if_pos hz] at e
        refine .inr (.inr ?_)
        have fin : ∀ c, atI s i = some c → z = .str [c] → rIxS (.str ⟨s.toArray⟩) (.int i) H Q := fun c hc hz' => by
          subst hz'
          exact ⟨⟨s.toArray⟩, i, c, rfl, rfl, by show s.toArray.size ≤ sizeLine; simpa using sizeOk hz, by simpa using hc, q F H _ .refl sr (.str [c])⟩
        by_cases h0 : 0 ≤ i
        · rw [if_pos h0] at e
          obtain ⟨c, ec, rfl⟩ := map_some e
          refine fin c ?_ rfl
          have hi := (List.getElem?_eq_some_iff.mp ec).1
          unfold atI ixN
          rw [if_pos h0, if_pos (by omega)]
          exact ec
        · rw [if_neg h0] at e
          by_cases h1 : 0 ≤ i + s.length
          · rw [if_pos h1] at e
            obtain ⟨c, ec, rfl⟩ := map_some e
            refine fin c ?_ rfl
            unfold atI ixN
            rw [if_neg h0, if_pos (by omega)]
            exact ec
          · rw [if_neg h1] at e; cases e
      · rw [if_neg hz] at e; cases e
    | ref k hk => exact viaL e
    | @lst vs a xs sq rr => exact viaL e
    | non => exact viaL e
    | bl b => exact viaL e
    | int j => exact viaL e
    | obj a b c d => exact viaL e
    | glo g => exact viaL e
    | dct _ _ _ _ _ => exact viaL e
  | _ => cases e
end
section
variable {T : Tb} {X : Cx} {W : WX} {a b e o : Expr} {es : List Expr} {fa fb fe fo : Ex} {fl : Lx} {pos apos cpos p : Pos} {r : R2} {g : G2}
theorem je_ix (ha : JE T X W a fa) (hb : JE T X W b fb) (hs : PlainIx b := by exact fun _ _ => rfl) : JE T X W (.Subscript a b pos) (xOp gIx fa fb) :=
  pe_imp (pe_ix ix_seq ha hb hs) fun _ _ _ => tOp_of lift_ix
abbrev GC := Hh → List Val → Option (Val × Hh)
def LiftC (T : Tb) (K : PySem.W.Frag) (r : List V → Hp → VK → Prop) (g : GC) : Prop :=
  ∀ io h F H vs xs z h' Q, SR T K io h F H → VRs T K io h.length F vs xs → g h vs = some (z, h') →
    (∀ io' F' H' x', Step io h.length F H io' h'.length F' H' → SR T K io' h' F' H' → VR T K io' h'.length F' z x' → Q x' H') → r xs H Q
def Res.ofP (o : Option (Val × Hh)) : Res := match o with
  | some (v, h) => .ok v h
  | none => .bad
def xCB (g : GC) (l : Lx) : Ex := fun sg h => (l sg h).bind fun vs h1 => .ofP (g h1 vs)
theorem wants_ofP {K : PySem.W.Frag} {io : Nat → Addr} {n : Nat} {F H : Hp} {W : XK} {Q : VK} {o : Option (Val × Hh)} (w : Wants T K io n F H W Q (.ofP o)) : ∃ z h', o = some (z, h') ∧ Wants T K io n F H W Q (.ok z h') := by
  cases o with
  | none => exact w.elim
  | some z => obtain ⟨z, h'⟩ := z; exact ⟨z, h', rfl, w⟩
theorem tCB_of {r : List V → Hp → VK → Prop} {g : GC} (hl : LiftC T X.K r g) {σ : L2.St} {H : Hp} {Q : VK} : tE T X.K W (xCB g fl) σ H Q → tCB r (tL T X.K W fl) σ H Q := by
  rintro ⟨io, h, F, sg, sr, rs, w⟩
  refine ⟨io, h, F, sg, sr, rs, Wants.bindOfL w fun vs h1 io1 F1 H1 xs st sr1 vrs w1 => ?_⟩
  obtain ⟨z, h', e, w2⟩ := wants_ofP w1
  exact hl io1 h1 F1 H1 vs xs z h' Q sr1 vrs e w2
theorem je_callB {x : Str} {id : String} {r : List V → Hp → VK → Prop} {g : GC} (hc : CallR X (.builtin id) r) (hl : LiftC T X.K r g) (hm : X.mg x = none) (ha : JA T X W (e :: es) fl) (hv : bootBuiltins x = some (.builtin id) := by decide +kernel) (hg : Gl X x := by rfl) (hn : x ≠ "__name__" := by decide) (hdb : (x == ("__debug__" : Str)) = false := by decide)
    (he : starEach (e :: es) X.env = (false, eval e X.env) :: starEach es X.env := by rfl) (hpl : (backTo pos (starEach es X.env)).any (·.1) = false := by rfl) : JE T X W (.Call (.Name x p) (e :: es) [] pos) (xCB g fl) :=
  pe_imp (pe_callB hc hg hm hv ha hn hdb he hpl) fun _ _ _ => tCB_of hl
theorem je_callTy {x : Str} {id : String} {r : List V → Hp → VK → Prop} {g : GC} (hc : CallR X (.type id) r) (hl : LiftC T X.K r g) (hm : X.mg x = none) (ha : JA T X W (e :: es) fl) (hv : bootBuiltins x = some (.type id) := by decide +kernel) (hg : Gl X x := by rfl) (hn : x ≠ "__name__" := by decide) (hdb : (x == ("__debug__" : Str)) = false := by decide)
    (he : starEach (e :: es) X.env = (false, eval e X.env) :: starEach es X.env := by rfl) (hpl : (backTo pos (starEach es X.env)).any (·.1) = false := by rfl) : JE T X W (.Call (.Name x p) (e :: es) [] pos) (xCB g fl) :=
  pe_imp (pe_callTy hc hg hm hv ha hn hdb he hpl) fun _ _ _ => tCB_of hl
def gLen : GC := fun h vs => match vs with
  | [.str s] => if s.length ≤ 1000000 then some (.int s.length, h) else none
  | [.tup xs] => some (.int xs.length, h)
  | [v] => (lstOf h v).map fun xs => (.int xs.length, h)
  | _ => none
theorem lift_len {K : PySem.W.Frag} : LiftC T K (fun xs H Q => ∃ x n, xs = [x] ∧ LenV K x H n ∧ Q (.int n) H) gLen := by
  intro io h F H vs xs z h' Q sr rr e q
  have one : ∃ v x, vs = [v] ∧ xs = [x] ∧ VR T K io h.length F v x := by
    cases rr with
    | nil => cases e
    | @cons v x vs xs r t =>
      cases t with
      | nil => exact ⟨v, x, rfl, rfl, r⟩
      | cons r2 t2 => cases v <;> cases e
  obtain ⟨v, x, rfl, rfl, r⟩ := one
  have viaL : (lstOf h v).map (fun xs => (Val.int xs.length, h)) = some (z, h') → ∃ x1 n, [x] = [x1] ∧ LenV K x1 H n ∧ Q (.int n) H := fun e => by
    obtain ⟨ys, el, e2⟩ := map_some e
    cases e2
    obtain ⟨a, xs, rfl, sq, rr⟩ := lstOf_ok sr r el
    exact ⟨_, xs.length, rfl, .inl ⟨xs, sq, rfl⟩, by rw [← rr.length]; exact q io F H _ .refl sr (.int _)⟩
  cases r with
  | str s =>
    simp only [gLen] at e
    by_cases hz : s.length ≤ 1000000
    · rw [if_pos hz] at e
      cases e
      exact ⟨_, s.length, rfl, ⟨by show s.toArray.size ≤ sizeLine; simpa using sizeOk hz, by show s.length = s.toArray.size; simp⟩, q io F H _ .refl sr (.int _)⟩
    · rw [if_neg hz] at e; cases e
  | @tup ys a xs sq r9 =>
    cases e
    exact ⟨_, xs.length, rfl, .inr ⟨xs, sqT_mono sr.sub sq, rfl⟩, by rw [← r9.length]; exact q io F H _ .refl sr (.int _)⟩
  | ref k hk => exact viaL e
  | lst sq rr => exact viaL e
  | non => exact viaL e
  | bl b => exact viaL e
  | int j => exact viaL e
  | obj a b c d => exact viaL e
  | glo g => exact viaL e
  | dct _ _ _ _ _ => exact viaL e
def gAbs : GC := fun h vs => match vs with
  | [.int i] => some (.int (if i < 0 then -i else i), h)
  | _ => none
theorem vrs_int1 {K : PySem.W.Frag} {io : Nat → Addr} {n : Nat} {F : Hp} {i : Int} {xs : List V} (r : VRs T K io n F [.int i] xs) : xs = [.int i] := by
  cases r with
  | cons a b => cases a; cases b; rfl
theorem vrs_int2 {K : PySem.W.Frag} {io : Nat → Addr} {n : Nat} {F : Hp} {i j : Int} {xs : List V} (r : VRs T K io n F [.int i, .int j] xs) : xs = [.int i, .int j] := by
  cases r with
  | cons a b => cases a; cases b with
    | cons a b => cases a; cases b; rfl
theorem lift_abs {K : PySem.W.Frag} : LiftC T K (fun xs H Q => ∃ i, xs = [.int i] ∧ Q (.int (if i < 0 then -i else i)) H) gAbs := by
  intro io h F H vs xs z h' Q sr rr e q
  unfold gAbs at e
  split at e
  · cases e
    rw [vrs_int1 rr]
    exact ⟨_, rfl, q io F H _ .refl sr (.int _)⟩
  · cases e
def gMax2 : GC := fun h vs => match vs with
  | [.int i, .int j] => some (.int (if j > i then j else i), h)
  | _ => none
def gMin2 : GC := fun h vs => match vs with
  | [.int i, .int j] => some (.int (if j < i then j else i), h)
  | _ => none
theorem lift_max2 {K : PySem.W.Frag} : LiftC T K (fun xs H Q => ∃ i j, xs = [.int i, .int j] ∧ Q (.int (if j > i then j else i)) H) gMax2 := by
  intro io h F H vs xs z h' Q sr rr e q
  unfold gMax2 at e
  split at e
  · cases e
    rw [vrs_int2 rr]
    exact ⟨_, _, rfl, q io F H _ .refl sr (.int _)⟩
  · cases e
theorem lift_min2 {K : PySem.W.Frag} : LiftC T K (fun xs H Q => ∃ i j, xs = [.int i, .int j] ∧ Q (.int (if j < i then j else i)) H) gMin2 := by
  intro io h F H vs xs z h' Q sr rr e q
  unfold gMin2 at e
  split at e
  · cases e
    rw [vrs_int2 rr]
    exact ⟨_, _, rfl, q io F H _ .refl sr (.int _)⟩
  · cases e
def gInt1 : GC := fun h vs => match vs with
  | [.int i] => some (.int i, h)
  | [.bl b] => some (.int (if b then 1 else 0), h)
  | _ => none
theorem lift_int1 {K : PySem.W.Frag} : LiftC T K (fun xs H Q => (∃ i, xs = [.int i] ∧ Q (.int i) H) ∨ ∃ k, xs = [.bl k] ∧ Q (.int (if k then 1 else 0)) H) gInt1 := by
  intro io h F H vs xs z h' Q sr rr e q
  unfold gInt1 at e
  split at e
  · cases e
    rw [vrs_int1 rr]
    exact .inl ⟨_, rfl, q io F H _ .refl sr (.int _)⟩
  · cases e
    cases rr with
    | cons a b =>
      cases a
      cases b
      exact .inr ⟨_, rfl, q io F H _ .refl sr (.int _)⟩
  · cases e
def bools : List Val → Option (List Bool)
  | [] => some []
  | .bl b :: r => (bools r).map (b :: ·)
  | _ :: _ => none
theorem bools_ok {K : PySem.W.Frag} {io : Nat → Addr} {n : Nat} {F : Hp} : ∀ {vs : List Val} {xs : List V} {bs : List Bool}, VRs T K io n F vs xs → bools vs = some bs → xs = bs.map V.bl
  | [], xs, bs, r, e => by cases r; cases e; rfl
  | v :: vs, xs, bs, r, e => by
    cases r with
    | cons a b =>
      cases a with
      | bl q =>
        obtain ⟨cs, e1, rfl⟩ := map_some (show (bools vs).map (q :: ·) = some bs from e)
        rw [bools_ok b e1]; rfl
      | _ => cases e
def gAll : GC := fun h vs => match vs with
  | [v] => (match lstOf h v with
    | some ys => (bools ys).map fun bs => (.bl (bs.all id), h)
    | none => none)
  | _ => none
theorem lift_all {K : PySem.W.Frag} : LiftC T K (rAll K) gAll := by
  intro io h F H vs xs z h' Q sr rr e q
  unfold gAll at e
  split at e
  · rename_i v
    cases rr with
    | @cons _ x _ _ r t =>
      cases t
      cases el : lstOf h v with
      | none => rw [el] at e; cases e
      | some ys =>
        rw [el] at e
        obtain ⟨bs, e1, e2⟩ := map_some e
        cases e2
        obtain ⟨a, xs, rfl, sq, r2⟩ := lstOf_ok sr r el
        rw [bools_ok r2 e1] at sq
        exact ⟨a, bs, rfl, sq, q io F H _ .refl sr (.bl _)⟩
  · cases e
def gTuple : GC := fun h vs => match vs with
  | [.tup xs] => some (.tup xs, h)
  | [v] => (match lstOf h v with
    | some ys => some (.tup ys, h)
    | none => none)
  | _ => none
theorem lift_tuple {K : PySem.W.Frag} : LiftC T K (fun xs H Q => ∃ p ys, xs = [.ref p] ∧ ((SqL K H p ys ∧ ∀ l, H l = none → Q (.ref l) (upd H l (.tup ys))) ∨ (SqT K H p ys ∧ Q (.ref p) H))) gTuple := by
  intro io h F H vs xs z h' Q sr rr e q
  have one : ∃ v x, vs = [v] ∧ xs = [x] ∧ VR T K io h.length F v x := by
    cases rr with
    | nil => cases e
    | @cons v x vs xs r t =>
      cases t with
      | nil => exact ⟨v, x, rfl, rfl, r⟩
      | cons r2 t2 => cases v <;> cases e
  obtain ⟨v, x, rfl, rfl, r⟩ := one
  have viaL : (match lstOf h v with
    | some ys => some (Val.tup ys, h)
    | none => none) = some (z, h') → ∃ p ys, [x] = [V.ref p] ∧ ((SqL K H p ys ∧ ∀ l, H l = none → Q (.ref l) (upd H l (.tup ys))) ∨ (SqT K H p ys ∧ Q (.ref p) H)) := fun e => by
    cases el : lstOf h v with
    | none => rw [el] at e; cases e
    | some ys =>
      rw [el] at e
      cases e
      obtain ⟨a, xs, rfl, sq, r2⟩ := lstOf_ok sr r el
      exact ⟨a, xs, rfl, .inl ⟨sq, fun l hl => q io _ _ _ (sr.allocStep hl _) (sr.alloc hl _) (.tup (SqT.of upd_same) (r2.step (sr.allocStep hl (.tup xs))))⟩⟩
  cases r with
  | @tup ys a xs sq r2 => cases e; exact ⟨a, xs, rfl, .inr ⟨sqT_mono sr.sub sq, q io F H _ .refl sr (.tup sq r2)⟩⟩
  | ref k hk => exact viaL e
  | lst sq r2 => exact viaL e
  | str s => exact viaL e
  | non => exact viaL e
  | bl b => exact viaL e
  | int j => exact viaL e
  | obj a b c d => exact viaL e
  | glo g => exact viaL e
  | dct _ _ _ _ _ => exact viaL e
abbrev GM := Hh → Val → List Val → Option (Val × Hh)
def LiftM (T : Tb) (K : PySem.W.Frag) (r : V → List V → Hp → VK → Prop) (g : GM) : Prop :=
  ∀ io h F H v x vs xs z h' Q, SR T K io h F H → VR T K io h.length F v x → VRs T K io h.length F vs xs → g h v vs = some (z, h') →
    (∀ io' F' H' x', Step io h.length F H io' h'.length F' H' → SR T K io' h' F' H' → VR T K io' h'.length F' z x' → Q x' H') → r x xs H Q
def isTy (ty : String) (h : Hh) (v : Val) : Bool := match v with
  | .str _ => decide (ty = "str")
  | v => decide (ty = "list") && (lstOf h v).isSome
theorem isTy_ok {K : PySem.W.Frag} {io : Nat → Addr} {F H : Hp} {h : Hh} {v : Val} {x : V} {ty : String} (sr : SR T K io h F H) (r : VR T K io h.length F v x) (e : isTy ty h v = true) : tyV K ty x H := by
  have viaL : (decide (ty = "list") && (lstOf h v).isSome) = true → tyV K ty x H := fun e => by
    rw [Bool.and_eq_true] at e
    obtain ⟨ys, el⟩ := Option.isSome_iff_exists.mp e.2
    obtain ⟨a, xs, rfl, sq, r2⟩ := lstOf_ok sr r el
    exact .inl ⟨of_decide_eq_true e.1, xs, sq⟩
  unfold isTy at e
  cases r with
  | str s => exact (of_decide_eq_true e : ty = "str")
  | ref k hk => exact viaL e
  | lst sq r2 => exact viaL e
  | tup sq r2 => exact viaL e
  | non => exact viaL e
  | bl b => exact viaL e
  | int j => exact viaL e
  | obj a b c d => exact viaL e
  | glo g => exact viaL e
  | dct _ _ _ _ _ => exact viaL e
def xBM (ty : String) (g : GM) (o : Ex) (l : Lx) : Ex := fun sg h => (o sg h).bind fun ov h1 => if isTy ty h1 ov = true then (l sg h1).bind fun vs h2 => .ofP (g h2 ov vs) else .bad
theorem je_bm {ty id : String} {name : Str} {r : V → List V → Hp → VK → Prop} {g : GM} (pa : PlainAttrs ty) (slot : Slot ty name id) (hty : typeOf (.builtin id) = pure (.type "method_descriptor")) (hm : MtR X id r) (hl : LiftM T X.K r g) (ho : JE T X W o fo) (ha : JA T X W (e :: es) fl)
    (hbase : attributeBase o name X.env (eval o X.env) = eval o X.env := by rfl)
    (hfew : ((backTo cpos (starEach (e :: es) X.env)).all (fun x => !x.1) && (backToKw cpos (keywordEach [] X.env)).all (fun x => x.1.isSome)
      && decide ((e :: es).length + ([] : List Keyword).length + (if ([] : List Keyword).isEmpty then 0 else 1) < 30)) = true := by rfl)
    (hline : (apos.endLine == cpos.line) = true := by rfl) (hs : starEach (e :: es) X.env = (false, eval e X.env) :: starEach es X.env := by rfl) (hplain : (backTo cpos (starEach es X.env)).any (·.1) = false := by rfl) :
    JE T X W (.Call (.Attribute o name apos) (e :: es) [] cpos) (xBM ty g fo fl) := by
  refine pe_imp (pe_bm pa slot hty hm ho ha hbase hfew hline hs hplain) fun σ H Q ⟨io, h, F, sg, sr, rs, w⟩ => ⟨io, h, F, sg, sr, rs, Wants.bind w fun ov h1 io1 F1 H1 x st sr1 vr w1 => ?_⟩
  by_cases ht : isTy ty h1 ov = true
  · rw [if_pos ht] at w1
    refine ⟨isTy_ok sr1 vr ht, io1, h1, F1, sg, sr1, rs.step st, Wants.bindOfL w1 fun vs h2 io2 F2 H2 xs st2 sr2 vrs w2 => ?_⟩
    obtain ⟨z, h', e, w3⟩ := wants_ofP w2
    exact hl io2 h2 F2 H2 ov x vs xs z h' Q sr2 (vr.step st2) vrs e w3
  · rw [if_neg ht] at w1; exact w1.elim
def mutOf (h : Hh) : Val → Option (Nat × List Val)
  | .ref k => (match h[k]? with
    | some (.lst vs) => some (k, vs)
    | _ => none)
  | _ => none
theorem mutOf_ok {K : PySem.W.Frag} {io : Nat → Addr} {F H : Hp} {h : Hh} {v : Val} {x : V} {k : Nat} {vs : List Val} (sr : SR T K io h F H) (r : VR T K io h.length F v x) (e : mutOf h v = some (k, vs)) : ∃ xs, x = .ref (io k) ∧ k < h.length ∧ H (io k) = some (.lst xs) ∧ VRs T K io h.length F vs xs ∧
    ∀ ys zs, VRs T K io h.length F ys zs → Step io h.length F H io (h.set k (.lst ys)).length F (upd H (io k) (.lst zs)) ∧ SR T K io (h.set k (.lst ys)) F (upd H (io k) (.lst zs)) := by
  unfold mutOf at e
  cases r with
  | ref k' hk =>
    dsimp only at e
    cases ek : h[k']? with
    | none => rw [ek] at e; cases e
    | some ob =>
      rw [ek] at e
      cases ob with
      | ins c vs => cases e
      | dct ks vs => cases e
      | lst us =>
        cases e
        obtain ⟨xs, ea, rr⟩ := sr.obj k _ ek
        exact ⟨xs, rfl, hk, ea, rr, fun ys zs r2 => ⟨sr.writeStep hk, sr.write hk (fun y q => by rw [ea] at q; cases q) ⟨zs, upd_same, r2⟩⟩⟩
  | _ => cases e
def gAppend : GM := fun h v vs => match vs with
  | [y] => (match mutOf h v with
    | some (k, us) => if us.length < 1000000 then some (.non, h.set k (.lst (us ++ [y]))) else none
    | none => none)
  | _ => none
theorem lift_append {K : PySem.W.Frag} : LiftM T K rAppend gAppend := by
  intro io h F H v x vs xs z h' Q sr vr rr e q
  unfold gAppend at e
  split at e
  · rename_i y
    cases rr with
    | @cons _ yx _ _ ry t =>
      cases t
      cases em : mutOf h v with
      | none => rw [em] at e; cases e
      | some p =>
        obtain ⟨k, us⟩ := p
        rw [em] at e
        dsimp only at e
        by_cases hz : us.length < 1000000
        · rw [if_pos hz] at e
          cases e
          obtain ⟨xs, rfl, hk, ea, rr, go⟩ := mutOf_ok sr vr em
          obtain ⟨s1, s2⟩ := go (us ++ [y]) (xs ++ [yx]) (rr.append (.cons ry .nil))
          exact ⟨io k, xs, yx, rfl, rfl, ea, by rw [← rr.length, sizeLine_eq]; omega, q io F _ _ s1 s2 .non⟩
        · rw [if_neg hz] at e; cases e
  · cases e
def gSetIx (o i : Ex) : Gx := fun v sg h => match o sg h with
  | .ok ov h1 => (match i sg h1 with
    | .ok (.int j) h2 => (match mutOf h2 ov with
      | some (k, us) => if 0 ≤ j ∧ j < us.length then .ok sg (h2.set k (.lst (us.set j.toNat v))) else .bad
      | none => .bad)
    | _ => .bad)
  | _ => .bad
theorem jg_ix {i : Expr} {fi : Ex} (ho : JE T X Wno o fo) (hi : JE T X Wno i fi)
    (ha : ∀ v, assign (.Subscript o i pos) X.env v = (do
      let ov ← holding [v] (eval o X.env)
      let iv ← holding [v, ov] (eval i X.env)
      standAt pos
      holding [v, ov, iv] (setItem ov iv v)
      release [v, ov, iv] []) := by intro _; rfl) : JG T X (.Subscript o i pos) (gSetIx fo fi) := by
  refine pg_imp (pg_sub ho hi set_list ha) fun y σ H Q ⟨io, h, F, sg, v, sr, rs, vr, w⟩ => ⟨io, h, F, sg, sr, rs, ?_⟩
  unfold gSetIx at w
  cases eo : fo sg h with
  | bad => rw [eo] at w; exact w
  | exc c fs h1 => rw [eo] at w; exact w.elim
  | ok ov h1 =>
    rw [eo] at w
    intro io1 F1 H1 ox st1 sr1 vo
    refine ⟨io1, h1, F1, sg, sr1, rs.step st1, ?_⟩
    dsimp only at w
    cases ei : fi sg h1 with
    | bad => rw [ei] at w; exact w
    | exc c fs h1 => rw [ei] at w; exact w.elim
    | ok iv h2 =>
      rw [ei] at w
      intro io2 F2 H2 ix st2 sr2 vi
      cases vi with
      | int j =>
        dsimp only at w
        cases em : mutOf h2 ov with
        | none => rw [em] at w; exact w.elim
        | some p =>
          obtain ⟨k, us⟩ := p
          rw [em] at w
          dsimp only at w
          by_cases hj : 0 ≤ j ∧ j < us.length
          · rw [if_pos hj] at w
            obtain ⟨xs, rfl, hk, ea, rr, go⟩ := mutOf_ok sr2 (vo.step st2) em
            have st02 := st1.trans sr1 st2
            obtain ⟨s1, s2⟩ := go (us.set j.toNat v) (xs.set j.toNat y) (rr.set (vr.step st02) _)
            refine ⟨io2 k, xs, j, j.toNat, rfl, rfl, ea, ?_, w io2 F2 _ σ (st02.trans sr2 s1) s2 ((rs.step st02).step s1)⟩
            unfold ixN
            rw [if_pos hj.1, if_pos (by rw [← rr.length]; exact hj.2)]
          · rw [if_neg hj] at w; exact w.elim
      | _ => exact w.elim
end
end Py
namespace Py
open PySem PySem.Spec PyProof.Rows L2
inductive Kd where
  | non | bool | int | str | tuple | list
  deriving DecidableEq
def Kd.name : Kd → String
  | .non => "NoneType"
  | .bool => "bool"
  | .int => "int"
  | .str => "str"
  | .tuple => "tuple"
  | .list => "list"
def kdOf (h : Hh) : Val → Option Kd
  | .non => some .non
  | .bl _ => some .bool
  | .int _ => some .int
  | .str _ => some .str
  | .tup _ => some .tuple
  | v => (lstOf h v).map fun _ => .list
def kdIs (a b : Kd) : Bool := decide (a = b) || (decide (a = .bool) && decide (b = .int))
theorem kdIs_ok (K : PySem.W.Frag) (a b : Kd) : PySem.W.kitOne K (.type a.name) (.type b.name) = some (kdIs a b) := by
  apply kit_ty
  cases a <;> cases b <;> decide +kernel
section
variable {T : Tb} {K : PySem.W.Frag} {io : Nat → Addr} {F H : Hp} {h : Hh} {v : Val} {x : V} {k : Kd}
theorem tyx_lst {a : Addr} {xs : List V} (q : SqL K H a xs) : TyX K H (.ref a) (.type "list") := by
  rcases q with (q | ⟨o, q⟩) | ⟨o, its, n, e, c, _⟩
  · exact .base (.lst q)
  · exact .base (.frz q)
  · exact .kList e c
theorem tyx_tup {a : Addr} {xs : List V} (q : SqT K H a xs) : TyX K H (.ref a) (.type "tuple") := by
  rcases q with (q | ⟨o, q⟩) | ⟨o, its, n, e, c, _⟩
  · exact .base (.tup q)
  · exact .fTuple q
  · exact .kTuple e c
theorem kdOf_ok (sr : SR T K io h F H) (r : VR T K io h.length F v x) (e : kdOf h v = some k) : TyX K H x (.type k.name) := by
  have viaL : (lstOf h v).map (fun _ => Kd.list) = some k → TyX K H x (.type k.name) := fun e => by
    obtain ⟨ys, el, rfl⟩ := map_some e
    obtain ⟨a, xs, rfl, sq, r2⟩ := lstOf_ok sr r el
    exact tyx_lst sq
  unfold kdOf at e
  cases r with
  | non => cases e; exact .base .non
  | bl b => cases e; exact .base (.bl b)
  | int i => cases e; exact .base (.int i)
  | str s => cases e; exact .base (.str _)
  | tup sq r2 => cases e; exact tyx_tup (sqT_mono sr.sub sq)
  | ref k hk => exact viaL e
  | lst sq r2 => exact viaL e
  | obj a b c d => exact viaL e
  | glo g => exact viaL e
  | dct _ _ _ _ _ => exact viaL e
end
structure CTy (K : PySem.W.Frag) (C : Addr) : Prop where
  cls : Cls K C
  cc : PySem.W.findIn K (.ref C) "__class__" = some (some (.builtin "object.__class__"))
  gt : PySem.W.specialIn K (.builtin "object.__class__") "__get__" = some (some (.builtin "getset_descriptor.__get__"))
  tk : PySem.W.takesIn K (.builtin "object.__class__") = some true
  ob : PySem.W.mroIn K C (.type "object") = some true
  ne : PySem.W.findIn K (.ref C) "__ne__" = some (some (.builtin "object.__ne__"))
def ctyB (K : PySem.W.Frag) (x : Str) : Bool := (He.Fa.cls x).ok K && (He.eqO (PySem.W.findIn K (.ref (He.ga K x)) "__class__") (some (some (.builtin "object.__class__"))) &&
  (He.eqO (PySem.W.specialIn K (.builtin "object.__class__") "__get__") (some (some (.builtin "getset_descriptor.__get__"))) && (decide (PySem.W.takesIn K (.builtin "object.__class__") = some true) &&
  (decide (PySem.W.mroIn K (He.ga K x) (.type "object") = some true) && He.eqO (PySem.W.findIn K (.ref (He.ga K x)) "__ne__") (some (some (.builtin "object.__ne__")))))))
theorem cty_of {K : PySem.W.Frag} {x : Str} (h : ctyB K x = true) : CTy K (He.ga K x) := by
  obtain ⟨h1, h⟩ := He.ba h
  obtain ⟨h2, h⟩ := He.ba h
  obtain ⟨h3, h⟩ := He.ba h
  obtain ⟨h4, h⟩ := He.ba h
  obtain ⟨h5, h6⟩ := He.ba h
  exact ⟨He.cls_ok h1, He.eqO_ok h2, He.eqO_ok h3, of_decide_eq_true h4, of_decide_eq_true h5, He.eqO_ok h6⟩
def kds : List Kd := [.non, .bool, .int, .str, .tuple, .list]
structure KdC (K : PySem.W.Frag) (C : Addr) : Prop where
  ct : CTy K C
  kd : ∀ b : Kd, PySem.W.kitOne K (.ref C) (.type b.name) = some false
abbrev KdO (T : Tb) (K : PySem.W.Frag) : Prop := ∀ c, 10 ≤ c → PySem.W.makesIn K (He.ga K (T.cn c)) = true → KdC K (He.ga K (T.cn c))
def koB (K : PySem.W.Frag) (x : Str) : Bool := !PySem.W.makesIn K (He.ga K x) || (ctyB K x && kds.all fun b => decide (PySem.W.kitOne K (.ref (He.ga K x)) (.type b.name) = some false))
theorem ko_of {K : PySem.W.Frag} {x : Str} (h : koB K x = true) (hm : PySem.W.makesIn K (He.ga K x) = true) : KdC K (He.ga K x) := by
  unfold koB at h
  rw [hm, Bool.not_true, Bool.false_or] at h
  obtain ⟨h1, h2⟩ := He.ba h
  exact ⟨cty_of h1, fun b => of_decide_eq_true (List.all_eq_true.mp h2 b (by cases b <;> decide))⟩
section
variable {T : Tb} {X : Cx} {W : WX} {a b c e o : Expr} {es : List Expr} {fa fb fe fo : Ex} {fl : Lx} {pos apos cpos p p1 p2 p3 : Pos}
def gIsi (b : Kd) : Hh → Val → Option Val := fun h v => match v with
  | .obj c _ => if 10 ≤ c then some (.bl false) else none
  | v => (kdOf h v).map fun k => .bl (kdIs k b)
def gIsi2 (b c : Kd) : Hh → Val → Option Val := fun h v => match v with
  | .obj c _ => if 10 ≤ c then some (.bl false) else none
  | v => (kdOf h v).map fun k => .bl (kdIs k b || kdIs k c)
theorem gIsi2_or (b c : Kd) (h : Hh) (v : Val) : (∃ n us, v = .obj n us) ∨ gIsi2 b c h v = (kdOf h v).map fun k => .bl (kdIs k b || kdIs k c) := by
  cases v <;> first | exact .inl ⟨_, _, rfl⟩ | exact .inr rfl
theorem je_isi (b : Kd) (he : JE T X W e fe) (hO : KdO T X.K) (hm : X.mg "isinstance" = none) {cn : Str} (hmc : X.mg cn = none) (hvc : bootBuiltins cn = some (.type b.name) := by decide +kernel) (hgc : Gl X cn := by rfl) (hg : Gl X "isinstance" := by rfl) (hn : cn ≠ "__name__" := by decide) (hd : (cn == ("__debug__" : Str)) = false := by decide)
    (hs : starEach [e, .Name cn p2] X.env = (false, eval e X.env) :: starEach [.Name cn p2] X.env := by rfl) (hs2 : starEach [.Name cn p2] X.env = (false, eval (.Name cn p2) X.env) :: starEach [] X.env := by rfl) (hpl : (backTo pos (starEach [.Name cn p2] X.env)).any (·.1) = false := by rfl) :
    JE T X W (.Call (.Name "isinstance" p1) [e, .Name cn p2] [] pos) (xUn (gIsi b) fe) := by
  refine pe_imp (pe_callB call_isi hg hm (by decide +kernel) (pa_cons he (pa_cons (pe_bltn (v := .ty b.name) hgc hmc hvc rfl hn hd) pa_nil hs2) hs) (by decide) (by decide) hs hpl) fun σ H Q ⟨io, h, F, sg, sr, rs, w⟩ => ⟨io, h, F, sg, sr, rs, Wants.bind w fun v h1 io1 F1 H1 x st sr1 vr w1 => ?_⟩
  obtain ⟨z, ez, w2⟩ := wants_ofO w1
  have viaK : (kdOf h1 v).map (fun k => Val.bl (kdIs k b)) = some z → ∃ (x' c : V) (t u : Value) (b' : Bool), [x, .ty b.name] = [x', c] ∧ ClsV c u ∧ TyX X.K H1 x' t ∧ PySem.W.kitOne X.K t u = some b' ∧ Q (.bl b') H1 := fun ez => by
    obtain ⟨k, ek, rfl⟩ := map_some ez
    exact ⟨x, .ty b.name, .type k.name, .type b.name, kdIs k b, rfl, .ty _, kdOf_ok sr1 vr ek, kdIs_ok _ k b, w2 io1 F1 H1 _ .refl sr1 (.bl _)⟩
  unfold gIsi at ez
  cases vr with
  | @obj c us a dx ys q1 qd r2 hl =>
    dsimp only at ez
    split at ez
    · rename_i hc
      cases ez
      have k2 := hO c hc hl.2
      exact ⟨_, .ty b.name, _, .type b.name, false, rfl, .ty _, .base (.ins (sr1.sub _ _ q1) k2.ct.cls k2.ct.cc k2.ct.gt k2.ct.tk k2.ct.ob), k2.kd b, w2 io1 F1 H1 _ .refl sr1 (.bl _)⟩
    · cases ez
  | non => exact viaK ez
  | bl b => exact viaK ez
  | int i => exact viaK ez
  | str s => exact viaK ez
  | tup a b => exact viaK ez
  | lst a b => exact viaK ez
  | ref k hk => exact viaK ez
  | glo g => exact viaK ez
  | dct _ _ _ _ _ => exact viaK ez
theorem je_isi2 (b c : Kd) (he : JE T X W e fe) (hO : KdO T X.K) (hm : X.mg "isinstance" = none) {cb cc : Str} {kt : Nat} (hmb : X.mg cb = none) (hmc : X.mg cc = none) (hvb : bootBuiltins cb = some (.type b.name) := by decide +kernel) (hvc : bootBuiltins cc = some (.type c.name) := by decide +kernel) (hgb : Gl X cb := by rfl) (hgc : Gl X cc := by rfl) (hg : Gl X "isinstance" := by rfl)
    (hn : cb ≠ "__name__" := by decide) (hd : (cb == ("__debug__" : Str)) = false := by decide) (hn' : cc ≠ "__name__" := by decide) (hd' : (cc == ("__debug__" : Str)) = false := by decide)
    (hs : starEach [e, .Tuple [.Name cb p2, .Name cc p3] kt p] X.env = (false, eval e X.env) :: starEach [.Tuple [.Name cb p2, .Name cc p3] kt p] X.env := by rfl) (hs2 : starEach [.Tuple [.Name cb p2, .Name cc p3] kt p] X.env = (false, eval (.Tuple [.Name cb p2, .Name cc p3] kt p) X.env) :: starEach [] X.env := by rfl)
    (hs3 : starEach [.Name cb p2, .Name cc p3] X.env = (false, eval (.Name cb p2) X.env) :: starEach [.Name cc p3] X.env := by rfl) (hs4 : starEach [.Name cc p3] X.env = (false, eval (.Name cc p3) X.env) :: starEach [] X.env := by rfl) (hpl : (backTo pos (starEach [.Tuple [.Name cb p2, .Name cc p3] kt p] X.env)).any (·.1) = false := by rfl) :
    JE T X W (.Call (.Name "isinstance" p1) [e, .Tuple [.Name cb p2, .Name cc p3] kt p] [] pos) (xUn (gIsi2 b c) fe) := by
  refine pe_imp (pe_callB call_isiT hg hm (by decide +kernel) (pa_cons he (pa_cons (pe_tup (pa_cons (pe_bltn (v := .ty b.name) hgb hmb hvb rfl hn hd) (pa_cons (pe_bltn (v := .ty c.name) hgc hmc hvc rfl hn' hd') pa_nil hs4) hs3)) pa_nil hs2) hs) (by decide) (by decide) hs hpl) fun σ H Q ⟨io, h, F, sg, sr, rs, w⟩ => ⟨io, h, F, sg, sr, rs, Wants.bind w fun v h1 io1 F1 H1 x st sr1 vr w1 => ?_⟩
  obtain ⟨z, ez, w2⟩ := wants_ofO w1
  refine ⟨by show 2 ≤ sizeLine; decide, fun tp htp => ?_⟩
  rcases gIsi2_or b c h1 v with ⟨n, us, rfl⟩ | ev
  · unfold gIsi2 at ez
    dsimp only at ez
    split at ez
    · rename_i hc
      cases ez
      cases vr with
      | @obj _ _ a dx ys q1 qd r2 hl =>
        have k2 := hO n hc hl.2
        refine ⟨.ref a, tp, [.ty b.name, .ty c.name], .ref (He.ga X.K (T.cn n)), [.type b.name, .type c.name], false, rfl, upd_same, .cons (.ty _) (.cons (.ty _) .nil), ?_, ?_, ?_⟩
        · exact .base (.ins (upd_sub _ htp _ _ (sr1.sub _ _ q1)) k2.ct.cls k2.ct.cc k2.ct.gt k2.ct.tk k2.ct.ob)
        · refine kitAny_cons (k2.kd b) (fun e1 => kitAny_cons (k2.kd c) (fun e2 => rfl) fun e2 => ?_) fun e1 => ?_
          · cases e2
          · cases e1
        · exact w2 io1 _ _ _ (sr1.allocStep htp _) (sr1.alloc htp _) (.bl _)
    · cases ez
  · rw [ev] at ez
    obtain ⟨k, ek, rfl⟩ := map_some ez
    refine ⟨x, tp, [.ty b.name, .ty c.name], .type k.name, [.type b.name, .type c.name], kdIs k b || kdIs k c, rfl, upd_same, .cons (.ty _) (.cons (.ty _) .nil), ?_, ?_, ?_⟩
    · exact kdOf_ok (sr1.alloc htp (.tup [.ty b.name, .ty c.name])) (vr.step (sr1.allocStep htp _)) ek
    · refine kitAny_cons (kdIs_ok _ k b) (fun e1 => kitAny_cons (kdIs_ok _ k c) (fun e2 => ?_) fun e2 => ?_) fun e1 => ?_
      · rw [e1, e2]; rfl
      · rw [e2]; simp
      · rw [e1]; rfl
    · exact w2 io1 _ _ _ (sr1.allocStep htp _) (sr1.alloc htp _) (.bl _)
def flat : Val → Bool
  | .non => true
  | .bl _ => true
  | .int _ => true
  | .str _ => true
  | _ => false
def eqF : Val → Val → Bool
  | .non, .non => true
  | .bl a, .bl b => a == b
  | .bl a, .int b => (if a then 1 else 0) == b
  | .int a, .bl b => a == (if b then 1 else 0)
  | .int a, .int b => a == b
  | .str a, .str b => a == b
  | _, _ => false
def seqOf (h : Hh) : Val → Option (List Val)
  | .tup vs => some vs
  | v => lstOf h v
def gIn (neg : Bool) : G2 := fun h v u => match seqOf h u with
  | some vs => if (flat v && vs.all flat) = true then some (.bl (if neg then !(vs.any fun y => eqF y v) else vs.any fun y => eqF y v)) else none
  | none => none
theorem seqOf_ok {K : PySem.W.Frag} {io : Nat → Addr} {F H : Hp} {h : Hh} {v : Val} {x : V} {vs : List Val} (sr : SR T K io h F H) (r : VR T K io h.length F v x) (e : seqOf h v = some vs) : ∃ a xs, x = .ref a ∧ (SqL K H a xs ∨ SqT K H a xs) ∧ VRs T K io h.length F vs xs := by
  have viaL : lstOf h v = some vs → ∃ a xs, x = .ref a ∧ (SqL K H a xs ∨ SqT K H a xs) ∧ VRs T K io h.length F vs xs := fun e => by
    obtain ⟨a, xs, e1, sq, r2⟩ := lstOf_ok sr r e
    exact ⟨a, xs, e1, .inl sq, r2⟩
  unfold seqOf at e
  cases r with
  | @tup vs' a xs sq r2 => cases e; exact ⟨a, xs, rfl, .inr (sqT_mono sr.sub sq), r2⟩
  | non => exact viaL e
  | bl b => exact viaL e
  | int i => exact viaL e
  | str s => exact viaL e
  | ref k hk => exact viaL e
  | lst sq r2 => exact viaL e
  | obj a b c d => exact viaL e
  | glo g => exact viaL e
  | dct _ _ _ _ _ => exact viaL e
def xStar (a : Ex) (r : Lx) : Lx := fun sg h => (a sg h).bindL fun v h1 => match seqOf h1 v with
  | some us => (r sg h1).bindL fun vs h2 => .ok (us ++ vs) h2
  | none => .bad
theorem ja_star (ha : JE T X W e fe) (hr : JA T X W es fl) (hs : starEach (.Starred e p :: es) X.env = (true, eval e X.env) :: starEach es X.env := by rfl) : JA T X W (.Starred e p :: es) (xStar fe fl) := by
  refine pa_imp (StX.pa_star ha hr hs) fun σ H Q ⟨io, h, F, sg, sr, rs, w⟩ => ⟨io, h, F, sg, sr, rs, WantsL.ofBind w fun v h1 io1 F1 H1 x st sr1 vr w1 => ?_⟩
  cases ev : seqOf h1 v with
  | none => rw [ev] at w1; exact w1.elim
  | some us =>
    rw [ev] at w1
    obtain ⟨a, xs, ex, sq, r2⟩ := seqOf_ok sr1 vr ev
    refine ⟨a, xs, ex, sq.symm, io1, h1, F1, sg, sr1, rs.step st, WantsL.bindL w1 fun vs h2 io2 F2 H2 ys st2 sr2 vrs w2 => ?_⟩
    exact w2 io2 F2 H2 _ .refl sr2 ((r2.step st2).append vrs)
def frzB (T : Nat → List Str) (h : Hh) : Nat → Val → Option Val
  | 0, _ => none
  | n + 1, v => match v with
    | .ref k => if k = 0 then none else (match h[k]? with
      | some (.lst vs) => (vs.mapM (frzB T h n)).map .lst
      | some (.ins c vs) => if vs.length = (T c).length then (vs.mapM (frzB T h n)).map (.obj c) else none
      | some (.dct ks vs) => (vs.mapM (frzB T h n)).map (.dct ks)
      | none => none)
    | .tup vs => (vs.mapM (frzB T h n)).map .tup
    | .lst vs => (vs.mapM (frzB T h n)).map .lst
    | .obj c vs => (vs.mapM (frzB T h n)).map (.obj c)
    | .dct ks vs => (vs.mapM (frzB T h n)).map (.dct ks)
    | v => some v
theorem frzB_ok {K : PySem.W.Frag} {io io' : Nat → Addr} {F F2 H : Hp} {h : Hh} (sr : SR T K io h F H) (hF : ∀ b o, F b = some o → F2 b = some o) (ht : ∀ k, 0 < k → k < h.length → F2 (io k) = H (io k)) (ho : ∀ k dx, 0 < k → k < h.length → H dx = some (.own (io k)) → F2 dx = some (.own (io k))) :
    ∀ (fu : Nat) (v v' : Val) (x : V), frzB T.fn h fu v = some v' → VR T K io h.length F v x → VR T K io' 0 F2 v' x
  | 0, _, _, _, e, _ => by cases e
  | fu + 1, v, v', x, e, r => by
    have ih := frzB_ok (io' := io') sr hF ht ho fu
    unfold frzB at e
    cases r with
    | non => cases e; exact .non
    | bl b => cases e; exact .bl b
    | int i => cases e; exact .int i
    | str s => cases e; exact .str s
    | glo g => cases e; exact .glo g
    | @tup vs a xs q rr =>
      obtain ⟨us, e1, rfl⟩ := map_some e
      exact .tup (sqT_mono hF q) (mapM_VRs ih e1 rr)
    | @lst vs a xs q rr =>
      obtain ⟨us, e1, rfl⟩ := map_some e
      exact .lst (sqL_mono hF q) (mapM_VRs ih e1 rr)
    | @obj c vs a dx xs q qd rr hl =>
      obtain ⟨us, e1, rfl⟩ := map_some e
      exact .obj (hF _ _ q) (hF _ _ qd) (mapM_VRs ih e1 rr) hl
    | @dct ks vs a es ep xs ys q hk he r1 r2 =>
      obtain ⟨us, e1, rfl⟩ := map_some e
      exact .dct (hF _ _ q) hk he ((r1.pure (io' := io') (m := 0) hk.pure).mono (Nat.le_refl _) (fun _ _ => rfl) hF) (mapM_VRs ih e1 r2)
    | ref k hk =>
      dsimp only at e
      by_cases h0 : k = 0
      · rw [if_pos h0] at e; cases e
      · rw [if_neg h0] at e
        have kp : 0 < k := Nat.pos_of_ne_zero h0
        cases ek : h[k]? with
        | none => rw [ek] at e; cases e
        | some ob =>
          rw [ek] at e
          have o := sr.obj k ob ek
          cases ob with
          | lst vs =>
            obtain ⟨xs, ea, rr⟩ := o
            obtain ⟨us, e1, rfl⟩ := map_some e
            exact .lst (SqL.of (by rw [ht k kp hk]; exact ea)) (mapM_VRs ih e1 rr)
          | dct ks vs =>
            obtain ⟨es, ep, xs, ys, ea, hkk, he, r1, r2⟩ := o
            obtain ⟨us, e1, rfl⟩ := map_some e
            exact .dct (by rw [ht k kp hk]; exact ea) hkk.2 he ((r1.pure (io' := io') hkk.2.pure).mono (Nat.le_refl _) (fun _ _ => rfl) hF) (mapM_VRs ih e1 r2)
          | ins c vs =>
            obtain ⟨dx, xs, ea, ed, rr, hl⟩ := o
            dsimp only at e
            by_cases hz : vs.length = (T.fn c).length
            · rw [if_pos hz] at e
              obtain ⟨us, e1, rfl⟩ := map_some e
              refine .obj (dx := dx) (xs := xs) (by rw [ht k kp hk, ea, hz, List.take_length]) (ho k dx kp hk ed) (mapM_VRs ih e1 rr) ⟨by rw [← rr.length]; exact hz, hl.2⟩
            · rw [if_neg hz] at e; cases e
open Classical in
noncomputable def FBof (io' : Nat → Addr) (n' : Nat) (F' H' : Hp) : Hp := fun b => match F' b with
  | some o => some o
  | none => if (∃ k, 0 < k ∧ k < n' ∧ io' k = b) ∨ (∃ k, 0 < k ∧ k < n' ∧ H' b = some (.own (io' k))) then H' b else none
theorem FBof_sub {io' : Nat → Addr} {F' H' : Hp} {n' : Nat} : ∀ b o, F' b = some o → FBof io' n' F' H' b = some o := fun b o e => by unfold FBof; rw [e]
theorem FBof_cases {io' : Nat → Addr} {F' H' : Hp} {n' : Nat} {b : Addr} {o : HO} (e : FBof io' n' F' H' b = some o) : F' b = some o ∨ (H' b = some o ∧ ((∃ k, 0 < k ∧ k < n' ∧ io' k = b) ∨ ∃ y, o = .own y)) := by
  unfold FBof at e
  cases q : F' b with
  | some u => rw [q] at e; cases e; exact .inl rfl
  | none =>
    rw [q] at e
    dsimp only at e
    split at e
    · rename_i z
      refine .inr ⟨e, ?_⟩
      rcases z with z | ⟨k, _, _, z⟩
      · exact .inl z
      · rw [z] at e; cases e; exact .inr ⟨_, rfl⟩
    · cases e
def callB (T : Nat → List Str) (f : Fx) (as : List Val) (h : Hh) : Res := match as with
  | .ref k :: rest => (match h[k]? with
    | some (.lst cs) => if (pureVs rest && pureVs cs) = true then (match f [.lst cs] (.ref 0 :: rest) with
      | .ok v h' => (match (h'[0]? : Option Obj) with
        | some (Obj.lst cs') => if pureVs cs' = true then (match (if pureV v = true then some v else frzB T h' 30 v) with
          | some v' => .ok v' (h.set k (.lst cs'))
          | none => .bad) else .bad
        | _ => .bad)
      | _ => .bad) else .bad
    | _ => .bad)
  | _ => .bad
theorem callB_ok {K : PySem.W.Frag} {io : Nat → Addr} {F H : Hp} {h : Hh} {W : XK} {Q : VK} {f : Fx} {as : List Val} {vs : List V} (sr : SR T K io h F H) (r : VRs T K io h.length F as vs) (w : Wants T K io h.length F H W Q (callB T.fn f as h)) : spF T K f vs H Q W := by
  unfold callB at w
  split at w
  · rename_i k rest
    cases ek : h[k]? with
    | none => rw [ek] at w; exact w.elim
    | some ob =>
      rw [ek] at w
      cases ob with
      | ins c us => exact w.elim
      | dct ks us => exact w.elim
      | lst cs =>
        dsimp only at w
        by_cases hp : (pureVs rest && pureVs cs) = true
        · rw [if_pos hp] at w
          rw [Bool.and_eq_true] at hp
          cases r with
          | @cons _ x0 _ xs0 r0 rt =>
          cases r0 with
          | ref _ hk =>
          obtain ⟨ys, ea, rc⟩ := sr.obj k _ ek
          let io0 : Nat → Addr := fun _ => io k
          have s0 : SR T K io0 [.lst cs] F H := by
            refine ⟨sr.sub, fun j hj => sr.dis k hk, fun i j hi hj _ => ?_, fun j o e => ?_, sr.tabs⟩
            · have h1 : i < 1 := hi
              have h2 : j < 1 := hj
              omega
            · have hj : j = 0 := by
                have h1 : j < 1 := (List.getElem?_eq_some_iff.mp e).1
                omega
              subst hj
              cases (Option.some.inj e : Obj.lst cs = o)
              exact ⟨ys, ea, rc.pure hp.2⟩
          refine ⟨io0, [.lst cs], F, .ref 0 :: rest, s0, .cons (.ref 0 (Nat.lt_succ_self 0)) (rt.pure hp.1), ?_⟩
          cases e : f [.lst cs] (.ref 0 :: rest) with
          | bad => rw [e] at w; exact w
          | exc c fs h' => rw [e] at w; exact w.elim
          | ok v h' =>
            rw [e] at w
            intro io1 F1 H1 x1 st sr1 vr
            dsimp only at w
            cases e0 : h'[0]? with
            | none => rw [e0] at w; exact w.elim
            | some ob =>
              rw [e0] at w
              cases ob with
              | ins c us => exact w.elim
              | dct ks us => exact w.elim
              | lst cs' =>
                dsimp only at w
                by_cases hq : pureVs cs' = true
                · rw [if_pos hq] at w
                  cases ev : (if pureV v = true then some v else frzB T.fn h' 30 v) with
                  | none => rw [ev] at w; exact w.elim
                  | some v' =>
                    rw [ev] at w
                    have hlen : 0 < h'.length := (List.getElem?_eq_some_iff.mp e0).1
                    have i0 : io1 0 = io k := st.eq 0 (Nat.lt_succ_self 0)
                    obtain ⟨zs, ea1, rz⟩ := sr1.obj 0 _ e0
                    rw [i0] at ea1
                    have fr : ∀ b o, H b = some o → b ≠ io k → (∀ ps, o ≠ .tbl ps) → H1 b = some o := fun b o hb hne nt => st.frame b o hb (fun j hj z => hne (show b = io k from (show io0 j = b from z).symm)) nt
                    have keep : ∀ j, j < h.length → j ≠ k → ∀ o, H (io j) = some o → H1 (io j) = some o := fun j hj hne o ho => fr _ o ho (fun z => hne (sr.inj j k hj hk z)) ((sr.obj j h[j] (by simp [hj])).notTbl ho)
                    have dis2 : ∀ j, j < h.length → FBof io1 h'.length F1 H1 (io j) = none := fun j hj => by
                      cases q : FBof io1 h'.length F1 H1 (io j) with
                      | none => rfl
                      | some o =>
                        exfalso
                        obtain ⟨u, hu⟩ := sr.there hj
                        have oj := sr.obj j h[j] (by simp [hj])
                        have notown : ∀ y, H1 (io j) ≠ some (.own y) := fun y z => by
                          by_cases hjk : j = k
                          · subst hjk; rw [ea1] at z; cases z
                          · rw [keep j hj hjk u hu] at z
                            exact oj.notOwn y (hu.trans z)
                        rcases FBof_cases q with z | ⟨z, ⟨i, hi0, hi, ei⟩ | ⟨y, z2⟩⟩
                        · rcases st.fresh _ o z with z1 | z1 | ⟨y, z1⟩
                          · rw [sr.dis j hj] at z1; cases z1
                          · rw [hu] at z1; cases z1
                          · subst z1; exact notown y (sr1.sub _ _ z)
                        · have := st.new i (show 1 ≤ i from hi0) hi
                          rw [ei, hu] at this; cases this
                        · subst z2; exact notown y z
                    have mF : ∀ b o, F b = some o → FBof io1 h'.length F1 H1 b = some o := fun b o e => FBof_sub b o (st.phi b o e)
                    have s2 : SR T K io (h.set k (.lst cs')) (FBof io1 h'.length F1 H1) H1 := by
                      have ln : (h.set k (Obj.lst cs')).length = h.length := by simp
                      refine ⟨fun b o e => ?_, fun j hj => dis2 j (by rwa [ln] at hj), fun i j hi hj => sr.inj i j (by rwa [ln] at hi) (by rwa [ln] at hj), fun j o e => ?_, fun pq hq => (sr1.tabs pq hq).mono (fun ps o h hp' e => by
    rcases FBof_cases e with z | ⟨z, ⟨i, hi0, hi, ei⟩ | ⟨y, z2⟩⟩
    · rw [h] at z; cases z
    · exact (sr1.obj i h'[i] (by simp [hi])).notTbl (by rw [ei]; exact hp') ps rfl
    · subst z2; rw [hp'] at z; cases z) (fun c o e _ => FBof_sub c o e) fun _ e => e⟩
                      · rcases FBof_cases e with z | ⟨z, _⟩
                        · exact sr1.sub b o z
                        · exact z
                      · rw [ln]
                        by_cases q : k = j
                        · subst q
                          rw [List.getElem?_set_self hk] at e
                          cases e
                          exact ⟨zs, ea1, (rz.pure hq).mono (Nat.le_refl _) (fun _ _ => rfl) FBof_sub⟩
                        · rw [List.getElem?_set_ne q] at e
                          have hj : j < h.length := (List.getElem?_eq_some_iff.mp e).1
                          have o1 := sr.obj j o e
                          cases o with
                          | lst us => obtain ⟨xs, e1, r1⟩ := o1; exact ⟨xs, keep j hj (Ne.symm q) _ e1, r1.mono (Nat.le_refl _) (fun _ _ => rfl) mF⟩
                          | dct ks us => obtain ⟨es, ep, xs, ys, e1, hkk, he, r1, r2⟩ := o1; exact ⟨es, ep, xs, ys, keep j hj (Ne.symm q) _ e1, hkk, he, r1.mono (Nat.le_refl _) (fun _ _ => rfl) mF, r2.mono (Nat.le_refl _) (fun _ _ => rfl) mF⟩
                          | ins c us =>
                            obtain ⟨dx, xs, e1, d1, r1, l1⟩ := o1
                            exact ⟨dx, xs, keep j hj (Ne.symm q) _ e1, fr dx _ d1 (fun z => (by rw [z, ea] at d1; cases d1)) (fun ps z => by cases z), r1.mono (Nat.le_refl _) (fun _ _ => rfl) mF, l1⟩
                    have st2 : Step io h.length F H io (h.set k (.lst cs')).length (FBof io1 h'.length F1 H1) H1 := by
                      refine ⟨by simp, fun _ _ => rfl, mF, fun b o e hb => st.frm b o e fun j hj z => hb k hk ((show io0 j = b from z)), fun j a b => absurd (by simpa using b) (Nat.not_lt.mpr a), fun b o e => ?_⟩
                      rcases FBof_cases e with z | ⟨z, ⟨i, hi0, hi, ei⟩ | z2⟩
                      · exact st.fresh b o z
                      · subst ei; exact .inr (.inl (st.new i (show 1 ≤ i from hi0) hi))
                      · exact .inr (.inr z2)
                    have v2 : VR T K io (h.set k (.lst cs')).length (FBof io1 h'.length F1 H1) v' x1 := by
                      by_cases hv : pureV v = true
                      · rw [if_pos hv] at ev
                        cases ev
                        exact (vr.pure hv).mono (Nat.le_refl _) (fun _ _ => rfl) FBof_sub
                      · rw [if_neg hv] at ev
                        refine (frzB_ok (io' := io) sr1 FBof_sub (fun j hj0 hj => ?_) (fun j dx hj0 hj e => ?_) 30 v v' x1 ev vr).ofEmpty rfl
                        · unfold FBof
                          rw [sr1.dis j hj]
                          dsimp only
                          rw [if_pos (.inl ⟨j, hj0, hj, rfl⟩)]
                        · unfold FBof
                          cases q : F1 dx with
                          | some u => have := sr1.sub dx u q; rw [e] at this; cases this; rfl
                          | none =>
                            dsimp only
                            rw [if_pos (.inr ⟨j, hj0, hj, e⟩)]
                            exact e
                    exact w io _ H1 x1 st2 s2 v2
                · rw [if_neg hq] at w; exact w.elim
        · rw [if_neg hp] at w; exact w.elim
  · exact w.elim
def xCallB (T : Nat → List Str) (f : Fx) (dfl : List Val) (l : Lx) : Ex := fun sg h => (l sg h).bind fun as h1 => callB T f (as ++ dfl) h1
theorem je_callBw {ps : List Str} {k : Nat} {f : Fx} {x : Str} {ad : Addr} {fd : FuncData} {dvs : List V} {ds : List Value} (G : FnG X.prog X.w X.K X.mg X.base (CX X.prog X.w) k ad fd ps (spF T X.K f)) (hr : RoomG k X.A) (hm : X.mg x = some (.ref ad)) (hk : PySem.W.keepIn X.K (.ref ad) = true) {dfl : List Val} (hD : Dfl T X.K dfl dvs) (hb : Binds X.K fd ps ds) (hd : Vals dvs ds) (tk : Takes X W)
    (ha : JA T X W (e :: es) fl) {p : Pos} (hg : Gl X x := by rfl) (hdb : (x == ("__debug__" : Str)) = false := by decide) (he : starEach (e :: es) X.env = (false, eval e X.env) :: starEach es X.env := by rfl) (hpl : (backTo pos (starEach es X.env)).any (·.1) = false := by rfl) :
    JE T X W (.Call (.Name x p) (e :: es) [] pos) (xCallB T.fn f dfl fl) :=
  pe_imp (pe_callG (E := fun σ c d H => W c d σ H) G hr hg hm hk hb hd (fun σ => passAt tk σ) ha hdb he hpl) fun σ H Q ⟨io, h, F, sg, sr, rs, w⟩ =>
    ⟨io, h, F, sg, sr, rs, Wants.bindOfL w fun vs h1 io1 F1 H1 xs st sr1 vr w1 => callB_ok sr1 (vr.append (hD _ _ _)) w1⟩
end
end Py
namespace Py
open PySem PySem.Spec PyProof.Rows L2
abbrev Ky := List (Int ⊕ List Nat)
def IsTK (h : Heap) (shape : Nat → Bool) (v : Value) : Prop := ∃ k f, tupKey h shape v = some k ∧ TupOf h shape v f
theorem IsTK.keeps {h h' : Heap} {shape : Nat → Bool} {v : Value} {k : Ky} (e : tupKey h shape v = some k) (hk : ∀ b o, h.get? b = some o → (∃ xs n, o.data = .seq xs n ∧ v = .ref b) → h'.get? b = some o) : tupKey h' shape v = some k := by
  obtain ⟨a, o, xs, n, rfl, ho, hd, hi⟩ := tupKey_some e
  show (match h'.get? a with
    | some o => match o.data with
      | .seq xs _ => tupItems shape 0 xs.toList
      | _ => none
    | none => none) = some k
  rw [hk a o ho ⟨xs, n, hd, rfl⟩]
  show (match o.data with
      | .seq xs _ => tupItems shape 0 xs.toList
      | _ => none) = some k
  rw [hd]; exact hi
section
variable {X : Cx}
end
end Py
namespace Py
open PySem PySem.Spec PyProof.Rows L2
section
variable {T : Tb} {X : Cx} {W : WX} {a b c e o : Expr} {es : List Expr} {fa fb fe fo : Ex} {fl : Lx} {pos apos cpos p : Pos}
def xISq (e : Ex) : Ix := fun sg h => match e sg h with
  | .ok v h1 => (match v with
    | .tup vs => .ok (.items vs) h1
    | .lst vs => .ok (.items vs) h1
    | .str s => .ok (.items (s.map fun c => .str [c])) h1
    | .ref k => (match h1[k]? with
      | some (.lst _) => .ok (.ref (curL k)) h1
      | _ => .bad)
    | _ => .bad)
  | .exc c fs h1 => .exc c fs h1
  | .bad => .bad
def xIStr (e : Ex) : Ix := fun sg h => match e sg h with
  | .ok (.str s) h1 => .ok (.items (s.map fun c => .str [c])) h1
  | .ok _ _ => .bad
  | .exc c fs h1 => .exc c fs h1
  | .bad => .bad
theorem ji_str {tg iter : Expr} (he : JE T X W iter fe) : JI T X W tg iter (xIStr fe) := by
  refine pi_imp (pi_str he) fun σ H R ⟨io, h, F, sg, sr, rs, w⟩ => ⟨io, h, F, sg, sr, rs, ?_⟩
  unfold xIStr at w
  cases e : fe sg h with
  | bad => rw [e] at w; exact w
  | exc c fs h1 => rw [e] at w; exact w
  | ok v h1 =>
    rw [e] at w
    intro io1 F1 H1 x st1 sr1 vr
    cases vr with
    | str s =>
      refine ⟨_, rfl, w io1 F1 H1 _ st1 sr1 fun i io2 h2 F2 H2 sr2 hn he hF hi => ?_⟩
      by_cases hlt : i < s.length
      · have ev : (s.map fun c => Val.str [c])[i]? = some (.str [s[i]]) := by simp [hlt]
        rw [ev]
        refine ⟨by show i < s.toArray.size; simpa using hlt, fun x H' ⟨e', c, ec, ex⟩ => ?_⟩
        subst e' ex
        have hc : c = s[i] := by simpa [hlt] using ec.symm
        subst hc
        exact ⟨F2, .refl, sr2, .str [s[i]]⟩
      · rw [List.getElem?_eq_none (by simpa using hlt)]
        show s.toArray.size ≤ i
        simpa using hlt
    | _ => exact w.elim
theorem pi_or {tg iter : Expr} {t u : TI} (h1 : PI X tg iter t) (h2 : PI X tg iter u) : PI X tg iter (fun σ H R => t σ H R ∨ u σ H R) :=
  ⟨fun pins s σ H R I q => q.elim (h1.run pins s σ H R I) (h2.run pins s σ H R I)⟩
theorem ji_seq {tg iter : Expr} (he : JE T X W iter fe) : JI T X W tg iter (xISq fe) := by
  refine pi_imp (pi_or (ji_str (tg := tg) he) (pi_or (ji_list (tg := tg) he) (ji_tup (tg := tg) he))) fun σ H R ⟨io, h, F, sg, sr, rs, w⟩ => ?_
  unfold xISq at w
  cases e : fe sg h with
  | bad => rw [e] at w; exact w.elim
  | exc c fs h1 => rw [e] at w; exact .inr (.inl ⟨io, h, F, sg, sr, rs, by unfold xISeq; rw [e]; exact w⟩)
  | ok v h1 =>
    rw [e] at w
    cases v with
    | str t => exact .inl ⟨io, h, F, sg, sr, rs, by unfold xIStr; rw [e]; exact w⟩
    | tup vs => exact .inr (.inr ⟨io, h, F, sg, sr, rs, by unfold xITup; rw [e]; exact w⟩)
    | lst vs => exact .inr (.inl ⟨io, h, F, sg, sr, rs, by unfold xISeq; rw [e]; exact w⟩)
    | ref k => exact .inr (.inl ⟨io, h, F, sg, sr, rs, by unfold xISeq; rw [e]; exact w⟩)
    | _ => exact w.elim
def callO (T : Nat → List Str) (f : Fx) (as : List Val) (h : Hh) : Res := if (h.isEmpty || pureVs as) = true then (match f [] as with
  | .ok v h' => (match v with
    | .ref j => (match (h'[j]? : Option Obj) with
      | some (Obj.lst cs) => if pureVs cs = true then .ok (.ref h.length) (h ++ [.lst cs]) else .bad
      | _ => .bad)
    | _ => .bad)
  | _ => .bad) else .bad
theorem callO_ok {K : PySem.W.Frag} {io : Nat → Addr} {F H : Hp} {h : Hh} {W : XK} {Q : VK} {f : Fx} {as : List Val} {vs : List V} (sr : SR T K io h F H) (r : VRs T K io h.length F as vs) (w : Wants T K io h.length F H W Q (callO T.fn f as h)) : spF T K f vs H Q W := by
  unfold callO at w
  by_cases hp : (h.isEmpty || pureVs as) = true
  · rw [if_pos hp] at w
    have r0 : VRs T K io ([] : Hh).length F as vs := by
      rcases Bool.or_eq_true_iff.mp hp with z | z
      · have : h = [] := List.isEmpty_iff.mp z
        subst this; exact r
      · exact r.pure z
    refine ⟨io, [], F, as, ⟨sr.sub, fun k hk => absurd hk (Nat.not_lt_zero _), fun j k hj => absurd hj (Nat.not_lt_zero _), fun k o e => by simp at e, sr.tabs⟩, r0, ?_⟩
    cases e : f [] as with
    | bad => rw [e] at w; exact w
    | exc c fs h' => rw [e] at w; exact w.elim
    | ok v h' =>
      rw [e] at w
      intro io1 F1 H1 x st sr1 vr
      cases vr with
      | ref j hj =>
        dsimp only at w
        cases ej : (h'[j]? : Option Obj) with
        | none => rw [ej] at w; exact w.elim
        | some ob =>
          rw [ej] at w
          cases ob with
          | ins c us => exact w.elim
          | dct ks us => exact w.elim
          | lst cs =>
            dsimp only at w
            by_cases hc : pureVs cs = true
            · rw [if_pos hc] at w
              obtain ⟨ys, ea, rc⟩ := sr1.obj j _ ej
              have hH : ∀ b o, H b = some o → (∀ ps, o ≠ .tbl ps) → H1 b = some o := fun b o e nt => st.frame b o e (fun k hk => absurd hk (Nat.not_lt_zero _)) nt
              have nw : H (io1 j) = none := st.new j (Nat.zero_le _) hj
              have dis : ∀ k, k < h.length → F1 (io k) = none := fun k hk => by
                cases q : F1 (io k) with
                | none => rfl
                | some o =>
                  exfalso
                  obtain ⟨u, hu⟩ := sr.there hk
                  rcases st.fresh _ o q with z | z | ⟨y, z⟩
                  · rw [sr.dis k hk] at z; cases z
                  · rw [hu] at z; cases z
                  · subst z
                    have e3 := sr1.sub _ _ q
                    rw [hH _ _ hu ((sr.obj k h[k] (by simp [hk])).notTbl hu)] at e3
                    exact (sr.obj k h[k] (by simp [hk])).notOwn y (hu.trans e3)
              have s0 : SR T K io h F1 H1 := ⟨sr1.sub, dis, sr.inj, fun k o e => (sr.obj k o e).monoN (Nat.le_refl _) (fun _ _ => rfl) st.phi hH, sr1.tabs⟩
              have t0 : Step io h.length F H io h.length F1 H1 := ⟨Nat.le_refl _, fun _ _ => rfl, st.phi, fun b o e _ => st.frm b o e fun k hk => absurd hk (Nat.not_lt_zero _), fun k a b => absurd b (Nat.not_lt.mpr a), st.fresh⟩
              obtain ⟨p1, p2, p3⟩ := CInv.push (acc := cs) nw t0 s0 ea (rc.pure hc) (sr1.dis j hj) (fun k hk z => by obtain ⟨u, hu⟩ := sr.there hk; rw [z, nw] at hu; cases hu)
              exact w _ F1 H1 _ p1 p2 p3
            · rw [if_neg hc] at w; exact w.elim
      | _ => exact w.elim
  · rw [if_neg hp] at w; exact w.elim
def Callee (T : Tb) (P : Program) (w : World) (K : PySem.W.Frag) (mg : Str → Option Value) (base : Heap) (k : Nat) (a : Addr) (ps : List Str) (f : Fx) (dvs : List V) : Prop :=
  ∃ fd ds, FnG P w K mg base (CX P w) k a fd ps (spF T K f) ∧ PySem.W.keepIn K (.ref a) = true ∧ Vals dvs ds ∧ Binds K fd ps ds
variable {k : Nat} {ad : Addr} {ps : List Str} {f : Fx} {dvs : List V} {x m : Str} {cc : Nat}
abbrev CalleeX (T : Tb) (X : Cx) (k : Nat) (a : Addr) (ps : List Str) (f : Fx) (dvs : List V) : Prop := Callee T X.prog X.w X.K X.mg X.base k a ps f dvs
def xCallO (T : Nat → List Str) (f : Fx) (dfl : List Val) (l : Lx) : Ex := fun sg h => (l sg h).bind fun as h1 => callO T f (as ++ dfl) h1
theorem jc_P (C : CalleeX T X k ad ps f dvs) (hr : RoomG k X.A) (hm : X.mg x = some (.ref ad)) {dfl : List Val} (hD : Dfl T X.K dfl dvs) (tk : Takes X W) (ha : JA T X W (e :: es) fl) (hg : Gl X x := by rfl) (hdb : (x == ("__debug__" : Str)) = false := by decide)
    (he : starEach (e :: es) X.env = (false, eval e X.env) :: starEach es X.env := by rfl) (hpl : (backTo pos (starEach es X.env)).any (·.1) = false := by rfl) : JE T X W (.Call (.Name x p) (e :: es) [] pos) (xCallP T.fn f dfl fl) := by
  obtain ⟨fd, ds, G, kp, hv, hb⟩ := C
  exact je_callP G hr hm kp hD hb hv tk ha hg hdb he hpl
theorem jc_B (C : CalleeX T X k ad ps f dvs) (hr : RoomG k X.A) (hm : X.mg x = some (.ref ad)) {dfl : List Val} (hD : Dfl T X.K dfl dvs) (tk : Takes X W) (ha : JA T X W (e :: es) fl) (hg : Gl X x := by rfl) (hdb : (x == ("__debug__" : Str)) = false := by decide)
    (he : starEach (e :: es) X.env = (false, eval e X.env) :: starEach es X.env := by rfl) (hpl : (backTo pos (starEach es X.env)).any (·.1) = false := by rfl) : JE T X W (.Call (.Name x p) (e :: es) [] pos) (xCallB T.fn f dfl fl) := by
  obtain ⟨fd, ds, G, kp, hv, hb⟩ := C
  exact je_callBw G hr hm kp hD hb hv tk ha hg hdb he hpl
theorem jc_O (C : CalleeX T X k ad ps f dvs) (hr : RoomG k X.A) (hm : X.mg x = some (.ref ad)) {dfl : List Val} (hD : Dfl T X.K dfl dvs) (tk : Takes X W) (ha : JA T X W (e :: es) fl) (hg : Gl X x := by rfl) (hdb : (x == ("__debug__" : Str)) = false := by decide)
    (he : starEach (e :: es) X.env = (false, eval e X.env) :: starEach es X.env := by rfl) (hpl : (backTo pos (starEach es X.env)).any (·.1) = false := by rfl) : JE T X W (.Call (.Name x p) (e :: es) [] pos) (xCallO T.fn f dfl fl) := by
  obtain ⟨fd, ds, G, kp, hv, hb⟩ := C
  exact pe_imp (pe_callG (E := fun σ c d H => W c d σ H) G hr hg hm kp hb hv (fun σ => passAt tk σ) ha hdb he hpl) fun σ H Q ⟨io, h, F, sg, sr, rs, w⟩ =>
    ⟨io, h, F, sg, sr, rs, Wants.bindOfL w fun vs h1 io1 F1 H1 xs st sr1 vr w1 => callO_ok sr1 (vr.append (hD _ _ _)) w1⟩
theorem jc_M {pl : Sem Bool} (ho : JE T X W o fo) (cf : Cf T X.K cc) (hm : Meth X.K (He.ga X.K (T.cn cc)) m ad) (hmf : m ∉ T.fn cc) (C : CalleeX T X k ad ps f dvs) (hr : RoomG k X.A) {dfl : List Val} (hD : Dfl T X.K dfl dvs) (tk : Takes X W) (ha : JA T X W (e :: es) fl)
    (hst : starEach (e :: es) X.env = (false, eval e X.env) :: starEach es X.env := by rfl) (hpl : (backTo pos (starEach es X.env)).any (·.1) = false := by rfl)
    (ht : eval (.Call (.Attribute o m apos) (e :: es) [] pos) X.env = (eval o X.env >>= fun ov => standAt apos.atName >>= fun _ => holding [ov] (getMethod ov m pl) >>= fun p => callWith pos p.1 p.2 (backTo pos (starEach (e :: es) X.env)) (backToKw pos (keywordEach [] X.env))) := by rfl) :
    JE T X W (.Call (.Attribute o m apos) (e :: es) [] pos) (xMethP T.fn cc f dfl fo fl) := by
  obtain ⟨fd, ds, G, kp, hv, hb⟩ := C
  exact je_methP ho cf hm hmf G hr hD hb hv tk ha hst hpl ht
theorem jc_K (hf : ∀ as h v h', f h as = .ok v h' → v = .non) (M : Mk X.K (He.ga X.K (T.cn cc)) ad) (C : CalleeX T X k ad ps f dvs) (hr : RoomG (k + 1) X.A) (hm : X.mg x = some (.ref (He.ga X.K (T.cn cc)))) {dfl : List Val} (hD : Dfl T X.K dfl dvs) (tk : Takes X W) (ha : JA T X W (e :: es) fl)
    (hg : Gl X x := by rfl) (hdb : (x == ("__debug__" : Str)) = false := by decide) (he : starEach (e :: es) X.env = (false, eval e X.env) :: starEach es X.env := by rfl) (hpl : (backTo pos (starEach es X.env)).any (·.1) = false := by rfl) :
    JE T X W (.Call (.Name x p) (e :: es) [] pos) (xMakeP T.fn cc f dfl fl) := by
  obtain ⟨fd, ds, G, kp, hv, hb⟩ := C
  exact je_makeP hf M G hr hm hD hb hv tk ha hg hdb he hpl
end
def noRet : ResS → Bool
  | .ret .non _ => true
  | .ret _ _ => false
  | _ => true
theorem fnOf_non {np nN : Nat} {body : Sx} (hb : ∀ sg h, noRet (body sg h) = true) : ∀ as h v h', fnOf np nN body h as = .ok v h' → v = .non := by
  intro as h v h' e
  unfold fnOf at e
  by_cases hl : as.length = np
  · rw [if_pos hl] at e
    have := hb (as.map some ++ List.replicate (nN - np) none) h
    cases q : body (as.map some ++ List.replicate (nN - np) none) h with
    | ret u h1 =>
      rw [q] at e this
      cases e
      cases v <;> first | rfl | cases this
    | next sg h1 => rw [q] at e; cases e; rfl
    | brk sg h1 => rw [q] at e; cases e
    | cont sg h1 => rw [q] at e; cases e
    | exc c fs sg h1 => rw [q] at e; cases e
    | bad => rw [q] at e; cases e
  · rw [if_neg hl] at e; cases e
section
theorem nr_seq {a b : Sx} (ha : ∀ sg h, noRet (a sg h) = true) (hb : ∀ sg h, noRet (b sg h) = true) : ∀ sg h, noRet (xSeq a b sg h) = true := fun sg h => by
  unfold xSeq
  have := ha sg h
  cases q : a sg h with
  | next sg1 h1 => exact hb sg1 h1
  | _ => rw [q] at this; exact this
theorem nr_res {r : Res} {sg : Sg} {k : Val → Hh → ResS} (hk : ∀ v h, noRet (k v h) = true) : noRet (r.bindS sg k) = true := by
  cases r with
  | ok v h => exact hk v h
  | exc c fs h => rfl
  | bad => rfl
theorem nr_if {c : Ex} {a b : Sx} (ha : ∀ sg h, noRet (a sg h) = true) (hb : ∀ sg h, noRet (b sg h) = true) : ∀ sg h, noRet (xIfS c a b sg h) = true := fun sg h => by
  unfold xIfS Res.testS
  cases q : c sg h with
  | ok v h1 =>
    cases v with
    | bl v =>
      cases v with
      | true => exact ha sg h1
      | false => exact hb sg h1
    | _ => rfl
  | exc c fs h1 => rfl
  | bad => rfl
theorem nr_skip : ∀ sg h, noRet (xSkip sg h) = true := fun _ _ => rfl
theorem nr_att {l : List (Nat × Nat)} {v o : Ex} : ∀ sg h, noRet (xSetAttr l v o sg h) = true := fun sg h => nr_res fun y h1 => nr_res fun ov h2 => by
  cases ov with
  | ref k =>
    dsimp only
    split
    · split
      · split
        · rfl
        · split <;> rfl
      · rfl
    · rfl
  | _ => rfl
end
end Py
namespace Py
open PySem PySem.Spec PyProof.Rows L2
def GK (T : Tb) (K : PySem.W.Frag) (mg : Str → Option Value) (x : Str) (v : Val) : Prop := ∃ (u : Value) (y : V), mg x = some u ∧ RelV y u ∧ ∀ io n F, VR T K io n F v y
theorem je_gk {T : Tb} {X : Cx} {W : WX} {x : Str} {v : Val} {pos : Pos} (g : GK T X.K X.mg x v) (hg : Gl X x := by rfl) (hd : (x == ("__debug__" : Str)) = false := by decide) : JE T X W (.Name x pos) (xC v) := je_glob hg g hd
def Dv1 : He.Dv → Option Val
  | .non => some .non
  | .bl b => some (.bl b)
  | .int i => some (.int i)
  | .str x => some (.str x.cps.toList)
  | _ => none
theorem Dv1_ok {T : Tb} {K : PySem.W.Frag} {d : He.Dv} {v : Val} (e : Dv1 d = some v) (io : Nat → Addr) (n : Nat) (F : Hp) : VR T K io n F v (d.v K) := by
  cases d with
  | non => cases e; exact .non
  | bl b => cases e; exact .bl b
  | int i => cases e; exact .int i
  | str x =>
    cases e
    have : (⟨x.cps.toList.toArray⟩ : Str) = x := by cases x; simp
    show VR T K io n F (.str x.cps.toList) (.str x)
    rw [← this]
    simpa using VR.str (T := T) (K := K) (io := io) (n := n) (F := F) x.cps.toList
  | _ => cases e
theorem Dv1_all {T : Tb} {K : PySem.W.Frag} (io : Nat → Addr) (n : Nat) (F : Hp) : ∀ {ds : List He.Dv} {vs : List Val}, ds.mapM Dv1 = some vs → VRs T K io n F vs (ds.map (He.Dv.v K))
  | [], vs, e => by simp at e; subst e; exact .nil
  | d :: ds, vs, e => by
    rw [List.mapM_cons] at e
    cases q : Dv1 d with
    | none => rw [q] at e; simp at e
    | some v =>
      rw [q] at e
      cases q2 : ds.mapM Dv1 with
      | none => rw [q2] at e; simp at e
      | some us =>
        rw [q2] at e
        simp at e
        subst e
        exact .cons (Dv1_ok q io n F) (Dv1_all io n F q2)
theorem Dfl.of {T : Tb} {K : PySem.W.Frag} {ds : List He.Dv} {vs : List Val} (e : ds.mapM Dv1 = some vs) : Dfl T K vs (ds.map (He.Dv.v K)) := fun io n F => Dv1_all io n F e
theorem gk_str {T : Tb} {K : PySem.W.Frag} {h : Heap} {mg : Str → Option Value} (X : K.In h) (G : h.Ns mainGlobals mg) {x : Str} {s : List Nat} (c : (He.Fa.str x ⟨s.toArray⟩).ok K = true) : GK T K mg x (.str s) := by
  obtain ⟨t, e⟩ := He.str_ok X G c
  exact ⟨_, .str ⟨s.toArray⟩, e, ⟨t, rfl⟩, fun io n F => .str s⟩
def cfB (K : PySem.W.Frag) (x : Str) (fs : List Str) : Bool := (He.Fa.cls x).ok K && fs.all fun f => (He.Fa.noat x f).ok K
theorem cf_of {T : Tb} {K : PySem.W.Frag} {c : Nat} (h : cfB K (T.cn c) (T.fn c) = true) (nd : (T.fn c).Nodup) (few : (T.fn c).length < 1000) : Cf T K c := by
  obtain ⟨h1, h2⟩ := He.ba h
  exact ⟨He.cls_ok h1, nd, fun f hf => He.eqO_ok (List.all_eq_true.mp h2 f hf), few⟩
theorem meth_of {K : PySem.W.Frag} {x m : Str} (h : (He.Fa.meth x m).ok K = true) : Meth K (He.ga K x) m (He.ma K (He.ga K x) m) := by
  obtain ⟨h1, h2⟩ := He.ba h
  obtain ⟨h3, h4⟩ := He.ba h2
  exact ⟨He.eqO_ok h1, h3, h4⟩
theorem mk_of {K : PySem.W.Frag} {x : Str} (h : (He.Fa.mkr x).ok K = true) : Mk K (He.ga K x) (He.ma K (He.ga K x) "__init__") := by
  obtain ⟨h1, h2⟩ := He.ba h
  obtain ⟨h3, h4⟩ := He.ba h2
  obtain ⟨h5, h6⟩ := He.ba h4
  exact ⟨h1, He.eqO_ok h3, h5, h6⟩
def obsM (chk : PySem.W.Frag → Bool) (fn : List He.DefD) (K : PySem.W.Frag) : He.AlD := (chk K && fn.all fun d => d.ok K, fn.map fun d => He.fnW K d.at_)
def SaysM (chk : PySem.W.Frag → Bool) (fn : List He.DefD) (K : PySem.W.Frag) : Prop := obsM chk fn K = He.valD fn
section
variable {ck : PySem.W.Frag → Bool} {fn : List He.DefD} {K : PySem.W.Frag}
theorem SaysM.look (c : SaysM ck fn K) : ck K = true := (He.ba (congrArg (fun z : He.AlD => z.1) c : (ck K && fn.all fun d => d.ok K) = true)).1
theorem SaysM.def_ (c : SaysM ck fn K) (i : Nat) {d : He.DefD} (h : fn[i]? = some d := by rfl) : ∃ fd, FunD K d.name d.qual d.params d.body d.scope (d.dvs K) (d.kws K) (He.fAd K d.at_) fd := by
  have c2 := (He.ba (congrArg (fun z : He.AlD => z.1) c : (ck K && fn.all fun d => d.ok K) = true)).2
  have e : fn.map (fun d => He.fnW K d.at_) = fn.map He.DefD.val := congrArg (fun z : He.AlD => z.2) c
  have e2 := congrArg (fun l : List He.FnW => l[i]?) e
  simp only [List.getElem?_map, h, Option.map_some, Option.some.injEq] at e2
  exact He.DefD.funD e2 (List.all_eq_true.mp c2 d (List.mem_of_getElem? h))
end
theorem all_at {α : Type} {l : List α} {p : α → Bool} (h : l.all p = true) {i : Nat} {a : α} (e : l[i]? = some a) : p a = true := List.all_eq_true.mp h a (List.mem_of_getElem? e)
theorem cx_false {P : Program} {w : World} {H : Hp} {s : Shared} {e : Value} {s' : Shared} (h : L2.CX P w [] H s (fun _ _ _ => False) e s') : False := by
  obtain ⟨_, _, _, _, _, _, _, _, _, _, _, _, z⟩ := h
  exact z
section
variable {T : Tb} {X : Cx} {W : WX} {pos : Pos}
theorem takesNo : Takes X Wno := fun u s' ⟨_, _, _, _, _, _, _, _, _, _, _, _, _, _, _, _, z⟩ => False.elim z
theorem js_setLcF (i : Nat) {y : Str} {py spos : Pos} {elt tg iter : Expr} {ifs : List Expr} {scope : Scope} (own : List (Str × Nat)) {fi : Ix} {g : Gx} {t el : Ex} {ws : List Nat} (hc : X.calm = true) (hN : X.N.Nodup) (hi : JI T X W tg iter fi) (ok : BlkOk X.N X.env.scope scope own) (hw : ∀ j, j ∈ ws → j ∈ own.map (·.2))
    (hg : ∀ (s : Shared) (H : Hp) (C : Addr) (cl : List (Str × Addr)) (fp : List Addr), JGw T (X.blk s H scope (compEnvC scope cl C X.env) fp) ws tg g) (ht : ∀ (s : Shared) (H : Hp) (C : Addr) (cl : List (Str × Addr)) (fp : List Addr), JTs T (X.blk s H scope (compEnvC scope cl C X.env) fp) Wno ifs t)
    (he : ∀ (s : Shared) (H : Hp) (C : Addr) (cl : List (Str × Addr)) (fp : List Addr), JE T (X.blk s H scope (compEnvC scope cl C X.env) fp) Wno elt el) (hy : X.N[i]? = some y := by rfl) (hyl : X.env.scope.names.lookup y = some .local := by rfl)
    (hsw : swapsWith (.ListComp elt [⟨tg, iter, ifs, 0⟩] scope pos) (some (.Name y py)) spos.line X.env = pure true := by exact sw_true rfl rfl rfl (by decide +kernel)) (hs : ∀ x, foldedSetIterable iter X.env x = pure x := by intro _; rfl) :
    JS T X W (.Assign [.Name y py] (.ListComp elt [⟨tg, iter, ifs, 0⟩] scope pos) spos) (xSet i (xCompF (own.map (·.2)) fi g t el)) := by
  refine ps_imp (ps_setLc hc hN hy hyl hsw hi ok hg ht he hs) fun D σ H ⟨io, h, F, sg, sr, rs, w⟩ => comp_core (tg := tg) (iter := iter) (elt := elt) (ifs := ifs) (Q := fun _ _ => True) hw sr rs ?_
  unfold xSet xCompF at w
  cases e : xCompL (own.map (·.2)) fi g t el sg h with
  | bad => rw [e] at w; exact w
  | exc c fs h' => rw [e] at w; exact fun io' F' H' d st sr xr => w io' F' H' σ d st sr (rs.step st) xr
  | ok acc h' =>
    rw [e] at w
    intro D io' F' H' xs hD st sr' hd va fd nd
    obtain ⟨s1, s2, mn⟩ := CInv.froze hD st sr' hd fd nd
    exact w _ _ H' _ s1 s2 ((rs.step s1).set i (.lst (SqL.of upd_same) (va.mono (Nat.le_refl _) (fun _ _ => rfl) mn)))
end
end Py
namespace Py
open PySem PySem.Spec PyProof.Rows L2
def seedF (c : Int) : Fx := fnOf 2 3
 (xSeq (xSet 2 (xOp gAdd (xOp gMul (xC (.int 8831)) (xVar 1)) (xC (.int 101))))
 (xSeq (xIfS (xOp gLt (xVar 1) (xCB gLen (xCons (xVar 0) xNil)))
 (xSet 2 (xCB gAbs (xCons (xOp gIx (xVar 0) (xVar 1)) xNil)))
 (xIfS (xOp gGt (xCB gLen (xCons (xVar 0) xNil)) (xC (.int 0)))
 (xSet 2 (xOp gAdd (xVar 2) (xOp gMul (xOp gMod (xCB gInt1 (xCons (xCB gAbs (xCons (xOp gIx (xVar 0) (xOp gMod (xCB gInt1 (xCons (xVar 1) xNil)) (xCB gLen (xCons (xVar 0) xNil)))) xNil)) xNil)) (xC (.int 2147483629))) (xC (.int c)))))
 xSkip))
 (xRet (xLst (xCons (xIf (xOp gGe (xVar 2) (xOp gPow (xC (.int 10)) (xC (.int 18)))) (xVar 2) (xC (.int 0))) (xCons (xOp gAdd (xOp gMod (xCB gInt1 (xCons (xOp gAdd (xOp gMul (xOp gMod (xCB gInt1 (xCons (xVar 2) xNil)) (xC (.int 2147483629))) (xC (.int 48271))) (xOp gMul (xC (.int 37021)) (xVar 1))) xNil)) (xC (.int 2147483629))) (xC (.int 1))) xNil))))))
def chooseF : Fx := fnOf 2 4
 (xSeq (xIfS (xOp gGt (xOp gIx (xVar 0) (xC (.int 0))) (xC (.int 0)))
 (xSeq (xSet 2 (xOp gMod (xCB gInt1 (xCons (xOp gIx (xVar 0) (xC (.int 0))) xNil)) (xVar 1)))
 (xSeq (xAsg (xOp gFdiv (xOp gIx (xVar 0) (xC (.int 0))) (xVar 1)) (gSetIx (xVar 0) (xC (.int 0))))
 (xRet (xVar 2))))
 xSkip)
 (xSeq (xSet 3 (xOp gMod (xCB gInt1 (xCons (xOp gAdd (xOp gMul (xOp gIx (xVar 0) (xC (.int 1))) (xC (.int 40014))) (xC (.int 71))) xNil)) (xC (.int 2147483563))))
 (xSeq (xAsg (xOp gAdd (xOp gMod (xCB gInt1 (xCons (xOp gAdd (xOp gMul (xVar 3) (xC (.int 40692))) (xC (.int 4603))) xNil)) (xC (.int 2147483629))) (xC (.int 1))) (gSetIx (xVar 0) (xC (.int 1))))
 (xRet (xOp gMod (xCB gInt1 (xCons (xOp gFdiv (xOp gAdd (xOp gMul (xVar 3) (xC (.int 2147483647))) (xOp gIx (xVar 0) (xC (.int 1)))) (xC (.int 8191))) xNil)) (xVar 1))))))
def cA (a m : Int) : Int := if 0 < a then a / m else a
def cB (a b : Int) : Int := if 0 < a then b else ((b * 40014 + 71) % 2147483563 * 40692 + 4603) % 2147483629 + 1
def cD (a b m : Int) : Int := if 0 < a then a % m else ((b * 40014 + 71) % 2147483563 * 2147483647 + (((b * 40014 + 71) % 2147483563 * 40692 + 4603) % 2147483629 + 1)) / 8191 % m
theorem cD_lo (a b m : Int) (h0 : 0 < m) : 0 ≤ cD a b m := by
  unfold cD; split
  · exact Int.emod_nonneg _ (by omega)
  · exact Int.emod_nonneg _ (by omega)
theorem cD_hi (a b m : Int) (h0 : 0 < m) : cD a b m < m := by
  unfold cD; split
  · exact Int.emod_lt_of_pos _ h0
  · exact Int.emod_lt_of_pos _ h0
theorem choose_eq (a b m : Int) (h0 : 0 < m) (h1 : m < 1073741824) : chooseF [.lst [.int a, .int b]] [.ref 0, .int m] = .ok (.int (cD a b m)) [.lst [.int (cA a m), .int (cB a b)]] := by
  by_cases hb : 0 < a
  · simp [cA, cB, cD, chooseF, fnOf, xSeq, xIfS, xOp, xVar, xC, xSet, xRet, xAsg, xCB, xCons, xNil, xSkip, Res.bind, Res.bindS, Res.bindL, ResL.bind, ResL.bindL, ResG.bindS, Res.testS, gIx, lstOf, atV, gI, gIc, Res.ofO, Res.ofP, gInt1, gSetIx, mutOf, okMul, hb, h0, h1]
  · simp [cA, cB, cD, chooseF, fnOf, xSeq, xIfS, xOp, xVar, xC, xSet, xRet, xAsg, xCB, xCons, xNil, xSkip, Res.bind, Res.bindS, Res.bindL, ResL.bind, ResL.bindL, ResG.bindS, Res.testS, gIx, lstOf, atV, gI, gIc, Res.ofO, Res.ofP, gInt1, gSetIx, mutOf, okMul, hb, h0, h1]
theorem lst2 (a b : Ex) : xLst (xCons a (xCons b xNil)) = fun sg h => (a sg h).bind fun x h1 => (b sg h1).bind fun y h2 => .ok (.ref h2.length) (h2 ++ [.lst [x, y]]) := by
  funext sg h
  unfold xLst xCons xNil
  cases a sg h with
  | bad => rfl
  | exc c fs h1 => rfl
  | ok x h1 =>
    simp only [Res.bindL, Res.bind]
    cases b sg h1 with
    | bad => rfl
    | exc c fs h1 => rfl
    | ok y h2 => rfl
theorem pow18 : xOp gPow (xC (.int 10)) (xC (.int 18)) = xC (.int 1000000000000000000) := by
  funext sg h
  have e : (10 : Int) ^ ((18 : Int).toNat) = 1000000000000000000 := by decide
  simp [xOp, xC, Res.bind, gIc, Res.ofO]
theorem seed_1 (c : Int) (ns : List Int) (k : Nat) (hk : k < ns.length) : ∃ a b, seedF c [] [.lst (ns.map Val.int), .int k] = .ok (.ref 0) [.lst [.int a, .int b]] := by
  generalize hz : (if ns[k] < 0 then -ns[k] else ns[k]) = z
  unfold seedF
  rw [pow18, lst2]
  by_cases hq : 1000000000000000000 ≤ z
  · refine ⟨z, ((z % 2147483629 * 48271 + 37021 * k) % 2147483629 + 1), ?_⟩
    simp [fnOf, xSeq, xIfS, xOp, xVar, xC, xSet, xRet, xAsg, xCB, xCons, xNil, xSkip, xIf, Res.test, Res.bind, Res.bindS, Res.bindL, ResL.bind, ResL.bindL, ResG.bindS, Res.testS, gIx, lstOf, atV, gI, gIc, Res.ofO, Res.ofP, gInt1, gSetIx, mutOf, okMul, gLen, gAbs, hk, hz, hq]
  · refine ⟨0, ((z % 2147483629 * 48271 + 37021 * k) % 2147483629 + 1), ?_⟩
    simp [fnOf, xSeq, xIfS, xOp, xVar, xC, xSet, xRet, xAsg, xCB, xCons, xNil, xSkip, xIf, Res.test, Res.bind, Res.bindS, Res.bindL, ResL.bind, ResL.bindL, ResG.bindS, Res.testS, gIx, lstOf, atV, gI, gIc, Res.ofO, Res.ofP, gInt1, gSetIx, mutOf, okMul, gLen, gAbs, hk, hz, hq]
theorem xSeq_n {a b : Sx} {sg sg1 : Sg} {h h1 : Hh} (e : a sg h = .next sg1 h1) : xSeq a b sg h = b sg1 h1 := by unfold xSeq; rw [e]
theorem xIfS_f {c : Ex} {a b : Sx} {sg : Sg} {h h1 : Hh} (e : c sg h = .ok (.bl false) h1) : xIfS c a b sg h = b sg h1 := by unfold xIfS; rw [e]; rfl
theorem fnOf_r {np nN : Nat} {b : Sx} {h h1 : Hh} {as : List Val} {v : Val} (hl : as.length = np) (e : b (as.map some ++ List.replicate (nN - np) none) h = .ret v h1) : fnOf np nN b h as = .ok v h1 := by unfold fnOf; rw [if_pos hl, e]
theorem seed_2a (l : List Val) (k : Int) : xSet 2 (xOp gAdd (xOp gMul (xC (.int 8831)) (xVar 1)) (xC (.int 101))) [some (.lst l), some (.int k), none] [] = .next [some (.lst l), some (.int k), some (.int (8831 * k + 101))] [] := by simp [xOp, xVar, xC, xSet, xRet, xCB, xCons, xNil, xIf, Res.test, Res.bind, Res.bindS, Res.bindL, ResL.bind, ResL.bindL, gIx, lstOf, gI, gIc, Res.ofO, Res.ofP, gInt1, gLen, okMul]
theorem seed_2b (l : List Val) (k z : Int) (hk : ¬ k < l.length) : xOp gLt (xVar 1) (xCB gLen (xCons (xVar 0) xNil)) [some (.lst l), some (.int k), some (.int z)] [] = .ok (.bl false) [] := by simp [xOp, xVar, xC, xSet, xRet, xCB, xCons, xNil, xIf, Res.test, Res.bind, Res.bindS, Res.bindL, ResL.bind, ResL.bindL, gIx, lstOf, gI, gIc, Res.ofO, Res.ofP, gInt1, gLen, okMul]; omega
theorem seed_2c (l : List Val) (k z : Int) (hk : l = []) : xOp gGt (xCB gLen (xCons (xVar 0) xNil)) (xC (.int 0)) [some (.lst l), some (.int k), some (.int z)] [] = .ok (.bl false) [] := by subst hk; rfl
theorem seed_2d (l : List Val) (k z : Int) : ∃ a b, (xRet (fun sg h => (xIf (xOp gGe (xVar 2) (xC (.int 1000000000000000000))) (xVar 2) (xC (.int 0)) sg h).bind fun x h1 => (xOp gAdd (xOp gMod (xCB gInt1 (xCons (xOp gAdd (xOp gMul (xOp gMod (xCB gInt1 (xCons (xVar 2) xNil)) (xC (.int 2147483629))) (xC (.int 48271))) (xOp gMul (xC (.int 37021)) (xVar 1))) xNil)) (xC (.int 2147483629))) (xC (.int 1)) sg h1).bind fun y h2 => .ok (.ref h2.length) (h2 ++ [.lst [x, y]]))) [some (.lst l), some (.int k), some (.int z)] [] = .ret (.ref 0) [.lst [.int a, .int b]] := by
  by_cases hq : 1000000000000000000 ≤ z
  · refine ⟨z, ((z % 2147483629 * 48271 + 37021 * k) % 2147483629 + 1), ?_⟩
    simp [xOp, xVar, xC, xSet, xRet, xCB, xCons, xNil, xIf, Res.test, Res.bind, Res.bindS, Res.bindL, ResL.bind, ResL.bindL, gIx, lstOf, gI, gIc, Res.ofO, Res.ofP, gInt1, gLen, okMul, hq]
  · refine ⟨0, ((z % 2147483629 * 48271 + 37021 * k) % 2147483629 + 1), ?_⟩
    simp [xOp, xVar, xC, xSet, xRet, xCB, xCons, xNil, xIf, Res.test, Res.bind, Res.bindS, Res.bindL, ResL.bind, ResL.bindL, gIx, lstOf, gI, gIc, Res.ofO, Res.ofP, gInt1, gLen, okMul, hq]
theorem seed_2 (c : Int) (k : Nat) : ∃ a b, seedF c [] [.lst (([] : List Int).map Val.int), .int k] = .ok (.ref 0) [.lst [.int a, .int b]] := by
  obtain ⟨a, b, e⟩ := seed_2d [] k (8831 * k + 101)
  refine ⟨a, b, ?_⟩
  unfold seedF
  rw [pow18, lst2]
  refine fnOf_r rfl ?_
  refine (xSeq_n (seed_2a [] k)).trans ?_
  refine (xSeq_n ((xIfS_f (seed_2b [] k _ (by simp))).trans (xIfS_f (seed_2c [] k _ rfl)))).trans ?_
  exact e
theorem seed_3 (c : Int) (hc0 : 0 < c ∧ c < 18446744073709551616) (ns : List Int) (k : Nat) (hk : ¬ k < ns.length) (hp : 0 < ns.length) : ∃ a b, seedF c [] [.lst (ns.map Val.int), .int k] = .ok (.ref 0) [.lst [.int a, .int b]] := by
  have hj : k % ns.length < ns.length := Nat.mod_lt _ hp
  have hj' : ((k : Int) % (ns.length : Int)).toNat = k % ns.length := by rw [← Int.natCast_emod]; rfl
  generalize hz : (if ns[k % ns.length] < 0 then -ns[k % ns.length] else ns[k % ns.length]) = z
  have hj0 : 0 ≤ (k : Int) % (ns.length : Int) := Int.emod_nonneg _ (by omega)
  have hc1 : -18446744073709551616 < c := by omega
  have hc2 := hc0.2
  unfold seedF
  rw [pow18, lst2]
  generalize hy : 8831 * (k : Int) + 101 + z % 2147483629 * c = y
  by_cases hq : 1000000000000000000 ≤ y
  · refine ⟨y, ((y % 2147483629 * 48271 + 37021 * k) % 2147483629 + 1), ?_⟩
    simp [fnOf, xSeq, xIfS, xOp, xVar, xC, xSet, xRet, xAsg, xCB, xCons, xNil, xSkip, xIf, Res.test, Res.bind, Res.bindS, Res.bindL, ResL.bind, ResL.bindL, ResG.bindS, Res.testS, gIx, lstOf, atV, gI, gIc, Res.ofO, Res.ofP, gInt1, gSetIx, mutOf, okMul, gLen, gAbs, hk, hq, hp, hj, hj', hj0, hz, hc1, hc2, hy]
  · refine ⟨0, ((y % 2147483629 * 48271 + 37021 * k) % 2147483629 + 1), ?_⟩
    simp [fnOf, xSeq, xIfS, xOp, xVar, xC, xSet, xRet, xAsg, xCB, xCons, xNil, xSkip, xIf, Res.test, Res.bind, Res.bindS, Res.bindL, ResL.bind, ResL.bindL, ResG.bindS, Res.testS, gIx, lstOf, atV, gI, gIc, Res.ofO, Res.ofP, gInt1, gSetIx, mutOf, okMul, gLen, gAbs, hk, hq, hp, hj, hj', hj0, hz, hc1, hc2, hy]
theorem seed_ok (c : Int) (hc0 : 0 < c ∧ c < 18446744073709551616) (ns : List Int) (k : Nat) : ∃ a b, seedF c [] [.lst (ns.map Val.int), .int k] = .ok (.ref 0) [.lst [.int a, .int b]] := by
  by_cases hk : k < ns.length
  · exact seed_1 c ns k hk
  · by_cases hn : ns = []
    · subst hn; exact seed_2 c k
    · exact seed_3 c hc0 ns k hk (List.length_pos_iff.mpr hn)
theorem pureVs_ints : ∀ ns : List Int, pureVs (ns.map Val.int) = true
  | [] => rfl
  | n :: r => by simp [pureVs, pureV, pureVs_ints r]
theorem callO_seed (T : Nat → List Str) (c : Int) (hc0 : 0 < c ∧ c < 18446744073709551616) (ns : List Int) (k : Nat) (h : Hh) : ∃ a b, callO T (seedF c) [.lst (ns.map Val.int), .int k] h = .ok (.ref h.length) (h ++ [.lst [.int a, .int b]]) := by
  obtain ⟨a, b, e⟩ := seed_ok c hc0 ns k
  refine ⟨a, b, ?_⟩
  unfold callO
  rw [if_pos (by simp [pureVs, pureV, pureVs_ints]), e]
  rfl
theorem callB_choose (T : Nat → List Str) (a b m : Int) (h0 : 0 < m) (h1 : m < 1073741824) (k : Nat) (h : Hh) (hk : h[k]? = some (.lst [.int a, .int b])) : callB T chooseF [.ref k, .int m] h = .ok (.int (cD a b m)) (h.set k (.lst [.int (cA a m), .int (cB a b)])) := by
  unfold callB
  simp only [hk]
  rw [if_pos (by rfl), choose_eq a b m h0 h1]
  rfl
theorem rng_mem : ∀ (n : Nat) (lo : Int) (v : Val), v ∈ rng lo n → ∃ i : Nat, i < n ∧ v = .int (lo + i)
  | 0, lo, v, h => by simp [rng] at h
  | n + 1, lo, v, h => by
    simp [rng] at h
    rcases h with h | h
    · exact ⟨0, by omega, by simp [h]⟩
    · obtain ⟨i, hi, e⟩ := rng_mem n (lo + 1) v h
      exact ⟨i + 1, by omega, by rw [e]; congr 1; omega⟩
end Py
namespace Py
open PySem PySem.Spec PyProof.Rows L2
section
variable {T : Tb} {K : PySem.W.Frag}
def dec (i : Int) : List Nat := (Str.ofString (toString i)).cps.toList
theorem dec_str (i : Int) : (⟨(dec i).toArray⟩ : Str) = Str.ofString (toString i) := by unfold dec; simp
def okDec (i : Int) : Bool := decide (i.natAbs < 1000000000000000000000000)
theorem okDec_log {i : Int} (h : okDec i = true) : i.natAbs.log2 < 1920 := by
  have h := of_decide_eq_true h
  by_cases h0 : i.natAbs = 0
  · rw [h0]; decide
  · rw [Nat.log2_lt h0]
    exact Nat.lt_trans h (by decide +kernel)
theorem str_cat (s t : List Nat) : (⟨s.toArray⟩ : Str) ++ ⟨t.toArray⟩ = ⟨(s ++ t).toArray⟩ := by
  show (⟨s.toArray ++ t.toArray⟩ : Str) = _
  simp
theorem str_len (s : List Nat) : (⟨s.toArray⟩ : Str).length = s.length := by show s.toArray.size = _; simp
def gPlus : G2 := fun h v u => match v, u with
  | .int i, .int j => some (.int (i + j))
  | .str s, .str t => if s.length + t.length ≤ 1000000 then some (.str (s ++ t)) else none
  | .tup xs, .tup ys => if xs.length + ys.length ≤ 1000000 then some (.tup (xs ++ ys)) else none
  | _, _ => none
def rPlus (K : PySem.W.Frag) : R2 := fun x y H Q => rI0 (fun i j => .int (i + j)) x y H Q ∨ (fun x y H Q => (∃ i j, x = V.str i ∧ y = V.str j ∧ i.length + j.length ≤ sizeLine ∧ Q (V.str (i ++ j)) H) ∨ rCatA K x y H Q) x y H Q
theorem op_plus {X : Cx} : OpR X (binaryOp .Add) (rPlus X.K) := OpR.or op_add (OpR.or op_add_str op_catA)
theorem lift_plus : Lift2 T K (rPlus K) gPlus := by
  intro io h F H v u x y z Q sr vr ur e q
  unfold gPlus at e
  split at e
  · cases e; cases vr; cases ur
    exact .inl ⟨_, _, rfl, rfl, q F H _ .refl sr (.int _)⟩
  · rename_i s t
    split at e
    · rename_i hz
      cases e; cases vr; cases ur
      refine .inr (.inl ⟨_, _, rfl, rfl, by rw [str_len, str_len]; exact sizeOk hz, ?_⟩)
      rw [str_cat]
      exact q F H _ .refl sr (.str _)
    · cases e
  · rename_i xs ys
    split at e
    · rename_i hz
      cases e
      cases vr with
      | @tup _ a us sa ra =>
        cases ur with
        | @tup _ b ws sb rb =>
          refine .inr (.inr ⟨a, b, us, ws, rfl, rfl, sqT_mono sr.sub sa, sqT_mono sr.sub sb, by rw [← ra.length, ← rb.length]; exact sizeOk hz, fun e => ?_, fun _ e => ?_, fun _ _ p hp => ?_⟩)
          · subst e; cases ra
            exact q F H _ .refl sr (.tup sb rb)
          · subst e; cases rb
            exact q F H _ .refl sr (by rw [List.append_nil]; exact .tup sa ra)
          · exact q _ _ _ (sr.allocStep hp _) (sr.alloc hp _) (.tup (.inl (.inl upd_same)) ((ra.append rb).step (sr.allocStep hp (.tup (us ++ ws)))))
    · cases e
  · cases e
def cutL {α : Type} (xs : List α) (lo hi : Option Int) : List α := (xs.drop (HT.sIx xs.length 0 lo)).take (HT.sIx xs.length xs.length hi - HT.sIx xs.length 0 lo)
theorem VRs.cut {io : Nat → Addr} {n : Nat} {F : Hp} {vs : List Val} {xs : List V} (r : VRs T K io n F vs xs) (lo hi : Option Int) : VRs T K io n F (cutL vs lo hi) (cutV xs lo hi) := by
  unfold cutL cutV
  rw [r.length]
  exact (r.drop _).take _
theorem cutL_all {α : Type} {xs : List α} {lo hi : Option Int} (h : HT.sIx xs.length 0 lo = 0 ∧ HT.sIx xs.length xs.length hi = xs.length) : cutL xs lo hi = xs := by
  unfold cutL
  rw [h.1, h.2]
  simp
def partOf : Option Val → Option (Option Int)
  | none => some none
  | some (.int i) => some (some i)
  | _ => none
abbrev Ox := Sg → Hh → Option (Option Val × Hh)
def oNone : Ox := fun _ h => some (none, h)
def oSome (e : Ex) : Ox := fun sg h => match e sg h with
  | .ok v h1 => some (some v, h1)
  | _ => none
def slV (h : Hh) (v : Val) (lo hi : Option Int) : Option Val := match v with
  | .str s => if s.length ≤ 1000000 then some (.str (cutL s lo hi)) else none
  | .tup xs => some (.tup (cutL xs lo hi))
  | v => (match lstOf h v with
    | some xs => some (.lst (cutL xs lo hi))
    | none => none)
def rSl (K : PySem.W.Frag) : V → Option Int → Option Int → Hp → VK → Prop := fun x lo hi H Q => rSlS x lo hi H Q ∨ (fun x lo hi H Q => rSlA K x lo hi H Q ∨ rSlL K x lo hi H Q) x lo hi H Q
theorem sl_any {X : Cx} : SlR X (rSl X.K) := SlR.or sl_str (SlR.or sl_tupA sl_list)
theorem slV_ok {io : Nat → Addr} {h : Hh} {F H : Hp} {v z : Val} {x : V} {lo hi : Option Int} {Q : VK} (sr : SR T K io h F H) (vr : VR T K io h.length F v x) (e : slV h v lo hi = some z)
    (q : ∀ F' H' x', Step io h.length F H io h.length F' H' → SR T K io h F' H' → VR T K io h.length F' z x' → Q x' H') : rSl K x lo hi H Q := by
  unfold slV at e
  have viaL : (match lstOf h v with
    | some xs => some (Val.lst (cutL xs lo hi))
    | none => none) = some z → rSl K x lo hi H Q := fun e => by
    cases el : lstOf h v with
    | none => rw [el] at e; cases e
    | some vs =>
      rw [el] at e
      cases e
      obtain ⟨a, xs, rfl, sq, rr⟩ := lstOf_ok sr vr el
      exact .inr (.inr ⟨a, xs, rfl, sq, fun p hp => q _ _ _ (sr.allocStep hp _) (sr.alloc hp _) (.lst (.inl (.inl upd_same)) ((rr.cut lo hi).step (sr.allocStep hp (.lst (cutV xs lo hi)))))⟩)
  cases vr with
  | str s =>
    dsimp only at e
    split at e
    · rename_i hz
      cases e
      refine .inl ⟨_, rfl, by rw [str_len]; exact sizeOk hz, ?_⟩
      have ec : cutS ⟨s.toArray⟩ lo hi = ⟨(cutL s lo hi).toArray⟩ := by
        unfold cutS cutL
        rw [str_len]
      rw [ec]
      exact q F H _ .refl sr (.str _)
    · cases e
  | @tup vs a xs sq rr =>
    cases e
    refine .inr (.inl ⟨a, xs, rfl, sqT_mono sr.sub sq, fun w => ?_, fun w p hp => ?_⟩)
    · refine q F H _ .refl sr ?_
      rw [cutL_all (by rw [rr.length]; exact w)]
      exact .tup sq rr
    · exact q _ _ _ (sr.allocStep hp _) (sr.alloc hp _) (.tup (.inl (.inl upd_same)) ((rr.cut lo hi).step (sr.allocStep hp (.tup (cutV xs lo hi)))))
  | ref k hk => exact viaL e
  | lst sq rr => exact viaL e
  | non => exact viaL e
  | bl b => exact viaL e
  | int j => exact viaL e
  | obj a b c d => exact viaL e
  | glo g => exact viaL e
  | dct _ _ _ _ _ => exact viaL e
def xSlice (e : Ex) (lo hi : Ox) : Ex := fun sg h => (e sg h).bind fun v h1 => match lo sg h1 with
  | some (a, h2) => (match hi sg h2 with
    | some (b, h3) => (match partOf a, partOf b with
      | some l, some u => .ofO (slV h3 v l u) h3
      | _, _ => .bad)
    | none => .bad)
  | none => .bad
end
section
variable {T : Tb} {X : Cx} {W : WX} {pos : Pos}
def JO (T : Tb) (X : Cx) (e : Option Expr) (f : Ox) : Prop := ∃ t, PO X e t ∧ ∀ σ H io h F sg a h1 l (R : Option Int → Hp → Prop), SR T X.K io h F H → RSt T X.K io h.length F sg σ → f sg h = some (a, h1) → partOf a = some l →
  (∀ io1 F1 H1, Step io h.length F H io1 h1.length F1 H1 → SR T X.K io1 h1 F1 H1 → R l H1) → t σ H R
theorem jo_none : JO T X none oNone := ⟨_, po_none, fun σ H io h F sg a h1 l R sr rs e ea q => by
  cases e
  cases ea
  exact q io F H .refl sr⟩
theorem jo_some {e : Expr} {f : Ex} (he : JE T X Wno e f) : JO T X (some e) (oSome f) := ⟨_, po_some he, fun σ H io h F sg a h1 l R sr rs e ea q => by
  unfold oSome at e
  cases ef : f sg h with
  | bad => rw [ef] at e; cases e
  | exc c fs h' => rw [ef] at e; cases e
  | ok v h' =>
    rw [ef] at e
    cases e
    refine ⟨io, h, F, sg, sr, rs, ?_⟩
    rw [ef]
    intro io1 F1 H1 x st sr1 vr
    cases vr with
    | int i => cases ea; exact ⟨i, rfl, q io1 F1 H1 st sr1⟩
    | _ => cases ea⟩
theorem je_slice {e : Expr} {fe : Ex} {lo hi : Option Expr} {fl fh : Ox} {p2 : Pos} (he : JE T X W e fe) (hl : JO T X lo fl) (hh : JO T X hi fh) : JE T X W (.Subscript e (.Slice lo hi none p2) pos) (xSlice fe fl fh) := by
  obtain ⟨tl, pl, ql⟩ := hl
  obtain ⟨th, ph, qh⟩ := hh
  refine pe_imp (pe_slice sl_any he pl ph) fun σ H Q ⟨io, h, F, sg, sr, rs, w⟩ => ⟨io, h, F, sg, sr, rs, Wants.bind w fun v h1 io1 F1 H1 x st sr1 vr w1 => ?_⟩
  cases el : fl sg h1 with
  | none => rw [el] at w1; exact w1.elim
  | some z =>
    obtain ⟨a, h2⟩ := z
    rw [el] at w1
    dsimp only at w1
    cases eh : fh sg h2 with
    | none => rw [eh] at w1; exact w1.elim
    | some z =>
      obtain ⟨b, h3⟩ := z
      rw [eh] at w1
      dsimp only at w1
      cases pa : partOf a with
      | none => rw [pa] at w1; exact w1.elim
      | some l =>
        cases pb : partOf b with
        | none => rw [pa, pb] at w1; exact w1.elim
        | some u =>
          rw [pa, pb] at w1
          dsimp only at w1
          refine ql σ H1 io1 h1 F1 sg a h2 l _ sr1 (rs.step st) el pa fun io2 F2 H2 st2 sr2 => ?_
          refine qh σ H2 io2 h2 F2 sg b h3 u _ sr2 ((rs.step st).step st2) eh pb fun io3 F3 H3 st3 sr3 => ?_
          cases es : slV h3 v l u with
          | none => rw [es] at w1; exact w1.elim
          | some z =>
            rw [es] at w1
            refine slV_ok sr3 ((vr.step st2).step st3) es fun F' H' x' st4 sr4 vr4 => ?_
            exact w1 io3 F' H' x' ((st2.trans sr2 st3).trans sr3 st4) sr4 vr4
end
end Py
namespace Py
open PySem PySem.Spec PyProof.Rows L2
section
variable {T : Tb} {X : Cx} {W : WX} {pos : Pos}
def fmtV (h : Hh) : Val → Option Val
  | .str s => if s.length ≤ 1000000 then some (.str s) else none
  | .int i => if okDec i = true then some (.str (dec i)) else none
  | _ => none
theorem je_fmt {e : Expr} {f : Ex} (he : JE T X W e f) : JE T X W (.FormattedValue e (-1) none pos) (xUn fmtV f) := by
  refine pe_imp (pe_fmt he) fun σ H Q ⟨io, h, F, sg, sr, rs, w⟩ => ⟨io, h, F, sg, sr, rs, Wants.bind w fun v h1 io1 F1 H1 x st sr1 vr w1 => ?_⟩
  cases vr with
  | str s =>
    unfold fmtV at w1; dsimp only at w1
    by_cases hz : s.length ≤ 1000000
    · rw [if_pos hz] at w1
      exact .inl ⟨_, rfl, by rw [str_len]; exact sizeOk hz, w1 io1 F1 H1 _ .refl sr1 (.str s)⟩
    · rw [if_neg hz] at w1; exact w1.elim
  | int i =>
    unfold fmtV at w1; dsimp only at w1
    by_cases hz : okDec i = true
    · rw [if_pos hz] at w1
      refine .inr ⟨i, rfl, okDec_log hz, ?_⟩
      rw [← dec_str]
      exact w1 io1 F1 H1 _ .refl sr1 (.str _)
    · rw [if_neg hz] at w1; exact w1.elim
  | _ => exact w1.elim
def xJ : List Ex → List Nat → Ex
  | [], acc => fun _ h => .ok (.str acc) h
  | f :: r, acc => fun sg h => (f sg h).bind fun v h1 => match v with
    | .str s => if (acc ++ s).length ≤ 1000000 then xJ r (acc ++ s) sg h1 else .bad
    | _ => .bad
def JJ (T : Tb) (X : Cx) (W : WX) (es : List Expr) (fs : List Ex) : Prop := ∃ ts, PJ X es ts ∧ ∀ σ H io h F sg acc Q, SR T X.K io h F H → RSt T X.K io h.length F sg σ →
  Wants T X.K io h.length F H (fun c d H' => W c d σ H') Q (xJ fs acc sg h) → tJs ts ⟨acc.toArray⟩ σ H fun out H1 => Q (V.str out) H1
theorem jj_nil : JJ T X W [] [] := ⟨[], .nil, fun σ H io h F sg acc Q sr rs w => w io F H _ .refl sr (.str acc)⟩
theorem jj_cons {e : Expr} {es : List Expr} {f : Ex} {fs : List Ex} (he : JE T X W e f) (hr : JJ T X W es fs) : JJ T X W (e :: es) (f :: fs) := by
  obtain ⟨ts, p, q⟩ := hr
  refine ⟨_, .cons he p, fun σ H io h F sg acc Q sr rs w => ?_⟩
  unfold tJs
  refine ⟨io, h, F, sg, sr, rs, Wants.bind w fun v h1 io1 F1 H1 x st sr1 vr w1 => ?_⟩
  cases vr with
  | str s =>
    dsimp only at w1
    by_cases hz : (acc ++ s).length ≤ 1000000
    · rw [if_pos hz] at w1
      refine ⟨_, rfl, ?_, ?_⟩
      · rw [str_cat, str_len]; exact sizeOk hz
      · rw [str_cat]
        exact q σ H1 io1 h1 F1 sg (acc ++ s) Q sr1 (rs.step st) w1
    · rw [if_neg hz] at w1; exact w1.elim
  | _ => exact w1.elim
theorem je_joined {v1 v2 : Expr} {rest : List Expr} {fs : List Ex} (h : JJ T X W (v1 :: v2 :: rest) fs) : JE T X W (.JoinedStr (v1 :: v2 :: rest) pos) (xJ fs []) := by
  obtain ⟨ts, p, q⟩ := h
  exact pe_imp (pe_joined p) fun σ H Q ⟨io, h, F, sg, sr, rs, w⟩ => q σ H io h F sg [] Q sr rs w
def txts : List Val → Option (List Str)
  | [] => some []
  | .str s :: r => (txts r).map fun l => (⟨s.toArray⟩ : Str) :: l
  | _ => none
theorem txts_ok {K : PySem.W.Frag} {io : Nat → Addr} {n : Nat} {F : Hp} : ∀ {vs : List Val} {xs : List V} {l : List Str}, VRs T K io n F vs xs → txts vs = some l → xs = l.map V.str
  | _, _, _, .nil, e => by cases e; rfl
  | _, _, l, .cons (v := v) a t, e => by
    cases a with
    | str s =>
      unfold txts at e
      obtain ⟨l', e1, rfl⟩ := map_some e
      rw [txts_ok t e1]
      rfl
    | _ => cases e
def unS (s : Str) : List Nat := s.cps.toList
theorem unS_eq (s : Str) : (⟨(unS s).toArray⟩ : Str) = s := by unfold unS; simp
theorem VR.unS {K : PySem.W.Frag} {io : Nat → Addr} {n : Nat} {F : Hp} (s : Str) : VR T K io n F (.str (Py.unS s)) (.str s) := by
  have h := VR.str (T := T) (K := K) (io := io) (n := n) (F := F) (Py.unS s)
  rw [unS_eq] at h
  exact h
theorem VRs.unS {K : PySem.W.Frag} {io : Nat → Addr} {n : Nat} {F : Hp} : ∀ l : List Str, VRs T K io n F (l.map fun s => Val.str (Py.unS s)) (l.map V.str)
  | [] => .nil
  | s :: r => .cons (VR.unS s) (VRs.unS r)
def sqOf (h : Hh) (v : Val) : Option (List Val) := match v with
  | .tup xs => some xs
  | v => lstOf h v
theorem sqOf_ok {K : PySem.W.Frag} {io : Nat → Addr} {F H : Hp} {h : Hh} {v : Val} {x : V} {vs : List Val} (sr : SR T K io h F H) (r : VR T K io h.length F v x) (e : sqOf h v = some vs) : ∃ a xs, x = .ref a ∧ (SqL K H a xs ∨ SqT K H a xs) ∧ VRs T K io h.length F vs xs := by
  have viaL : lstOf h v = some vs → ∃ a xs, x = .ref a ∧ (SqL K H a xs ∨ SqT K H a xs) ∧ VRs T K io h.length F vs xs := fun e => by
    obtain ⟨a, xs, rfl, sq, rr⟩ := lstOf_ok sr r e
    exact ⟨a, xs, rfl, .inl sq, rr⟩
  unfold sqOf at e
  cases r with
  | @tup us a xs sq rr => cases e; exact ⟨a, xs, rfl, .inr (sqT_mono sr.sub sq), rr⟩
  | _ => exact viaL e
def gJoin : GM := fun h v vs => match v, vs with
  | .str a, [u] => (match sqOf h u with
    | some ws => (match txts ws with
      | some l => if (l.map fun x => x.length).sum + l.length * a.length ≤ 1000000 then some (.str (unS (Txt.join ⟨a.toArray⟩ l)), h) else none
      | none => none)
    | none => none)
  | _, _ => none
theorem one_of {K : PySem.W.Frag} {io : Nat → Addr} {n : Nat} {F : Hp} {u : Val} {xs : List V} (r : VRs T K io n F [u] xs) : ∃ x, xs = [x] ∧ VR T K io n F u x := by
  cases r with
  | cons a t => cases t; exact ⟨_, rfl, a⟩
theorem lift_join {K : PySem.W.Frag} : LiftM T K (fun x xs H Q => ∃ a p ys, x = V.str a ∧ xs = [V.ref p] ∧ (SqL K H p (ys.map V.str) ∨ SqT K H p (ys.map V.str)) ∧ (ys.map fun x => x.length).sum + ys.length * a.length ≤ 16777216 ∧ Q (V.str (Txt.join a ys)) H) gJoin := by
  intro io h F H v x vs xs z h' Q sr vr rr e q
  unfold gJoin at e
  split at e
  · rename_i a u
    cases es : sqOf h u with
    | none => rw [es] at e; cases e
    | some ws =>
      rw [es] at e
      dsimp only at e
      cases el : txts ws with
      | none => rw [el] at e; cases e
      | some l =>
        rw [el] at e
        dsimp only at e
        split at e
        · rename_i hz
          cases e
          obtain ⟨y, rfl, r1⟩ := one_of rr
          obtain ⟨p, ys, rfl, sq, r2⟩ := sqOf_ok sr r1 es
          have ey := txts_ok r2 el
          subst ey
          cases vr
          exact ⟨_, p, l, rfl, rfl, sq, by rw [str_len]; omega, q io F H _ .refl sr (VR.unS _)⟩
        · cases e
  · cases e
end
end Py
namespace Py
open PySem PySem.Spec PyProof.Rows L2
section
variable {T : Tb} {X : Cx} {W : WX} {pos : Pos}
abbrev EF : XK := fun _ _ _ => False
theorem passNo (X : Cx) : Passes (L2.CX X.prog X.w) X EF := fun pins σ H s e s' I hc => by
  obtain ⟨_, _, _, _, _, _, _, _, _, _, _, _, z⟩ := hc
  exact z.elim
def noX : Res → Res
  | .ok v h => .ok v h
  | _ => .bad
theorem noX_ok {K : PySem.W.Frag} {io : Nat → Addr} {n : Nat} {F H : Hp} {V1 V2 : XK} {Q : VK} {r : Res} (w : Wants T K io n F H V1 Q (noX r)) : Wants T K io n F H V2 Q r := by
  cases r with
  | ok v h => exact w
  | exc c fs h => exact w.elim
  | bad => exact w
abbrev STab := List (Nat × Fx)
def strBack : Res → Option Val
  | .ok (.str s) _ => some (.str s)
  | _ => none
def strG (T : Nat → List Str) (tb : STab) (h : Hh) : Val → Option Val
  | .int i => if okDec i = true then some (.str (dec i)) else none
  | .str s => some (.str s)
  | .obj c fs => (match tb.lookup c with
    | some f => strBack (callP T f [.obj c fs] h)
    | none => none)
  | _ => none
def gStrT (T : Nat → List Str) (tb : STab) : GC := fun h vs => match vs with
  | [v] => (strG T tb h v).map fun z => (z, h)
  | _ => none
def StrOk (T : Tb) (X : Cx) (tb : STab) : Prop := ∃ r, CallR X (.type "str") r ∧ LiftC T X.K r (gStrT T.fn tb)
theorem gStrT_one {K : PySem.W.Frag} {io : Nat → Addr} {n : Nat} {F : Hp} {h h' : Hh} {tb : STab} {vs : List Val} {xs : List V} {z : Val} (r : VRs T K io n F vs xs) (e : gStrT T.fn tb h vs = some (z, h')) : ∃ v x, vs = [v] ∧ xs = [x] ∧ VR T K io n F v x ∧ strG T.fn tb h v = some z ∧ h = h' := by
  cases r with
  | nil => cases e
  | cons a t =>
    cases t with
    | cons b u => cases e
    | nil =>
      unfold gStrT at e
      obtain ⟨z', e1, e2⟩ := map_some e
      cases e2
      exact ⟨_, _, rfl, rfl, a, e1, rfl⟩
theorem str_nil : StrOk T X [] := ⟨_, CallR.or call_str_int SkE.call_str_str, by
  intro io h F H vs xs z h' Q sr rr e q
  obtain ⟨v, x, rfl, rfl, r, e1, rfl⟩ := gStrT_one rr e
  cases r with
  | int i =>
    unfold strG at e1
    dsimp only at e1
    split at e1
    · rename_i hz
      cases e1
      refine .inl ⟨i, rfl, okDec_log hz, ?_⟩
      rw [← dec_str]
      exact q io F H _ .refl sr (.str _)
    · cases e1
  | str s => cases e1; exact .inr ⟨_, rfl, q io F H _ .refl sr (.str s)⟩
  | _ => cases e1⟩
theorem call_strO {CXq : CXT} {k : Nat} {C f : Addr} {fd : FuncData} {ps : List Str} {sp : Sp} {E : XK} (F : FnG X.prog X.w X.K X.mg X.base CXq k f fd ps sp) (M : Meth X.K C "__str__" f) (hb : Binds X.K fd ps []) (hr : RoomG (k + 2) X.A) (hx : Passes CXq X E) :
    CallR X (.type "str") (fun xs H Q => ∃ a dx fs, xs = [.ref a] ∧ H a = some (.ins C dx fs) ∧ sp [.ref a] H (fun v H' => ∃ y, v = .str y ∧ Q v H') E) := by
  rintro pins s σ H xs us Q I vals ⟨a, dx, fs, rfl, ea, hsp⟩
  cases vals with
  | cons r0 t0 =>
  cases t0
  cases r0
  obtain ⟨mA, J, _⟩ := ins_get I.hok ea
  obtain ⟨od, J, _⟩ := J.look
  refine PySem.W.kso_call hr.in1.in1.units0 I.kIn J M.at_ M.fn ?_
  have hl := F.len _ _ _ _ hsp
  have r2 : Vals [V.ref a] [Value.ref a] := .cons rfl .nil
  refine wpAny_call (codeAny_mono (F.run X.A.in1.in1 X.stack s H ⟨[.ref a], []⟩ [.ref a] [.ref a] _ E hr.in1.in1 I.env0.in1.in1 (by
    have := hb s [.ref a] I.kIn (by simpa using hl)
    simpa using this) r2 hsp) fun r s' hq => ?_)
  cases r with
  | error er => exact hx pins σ H s er s' I hq
  | ok fl =>
    cases fl with
    | ret w =>
      obtain ⟨z, H', I', rz, y, ez, qz⟩ := I.after hq
      subst ez
      obtain ⟨t, rfl⟩ := id rz
      exact ⟨_, H', I', rz, qz⟩
    | next => exact hq.elim
    | brk => exact hq.elim
    | cont => exact hq.elim
theorem str_cons {c : Nat} {k : Nat} {f : Addr} {ps : List Str} {fx : Fx} {tb : STab} (C : CalleeX T X k f ps fx []) (M : Meth X.K (He.ga X.K (T.cn c)) "__str__" f) (hr : RoomG (k + 2) X.A) (h : StrOk T X tb) : StrOk T X ((c, fx) :: tb) := by
  obtain ⟨r, cr, lf⟩ := h
  obtain ⟨fd, ds, G, kp, hv, hb⟩ := C
  cases hv
  refine ⟨_, CallR.or (call_strO G M hb hr (passNo X)) cr, ?_⟩
  intro io h F H vs xs z h' Q sr rr e q
  obtain ⟨v, x, rfl, rfl, r1, e1, rfl⟩ := gStrT_one rr e
  have other : strG T.fn tb h v = some z → r [x] H Q := fun e2 => lf io h F H [v] [x] z h Q sr rr (by show (strG T.fn tb h v).map _ = _; rw [e2]; rfl) q
  cases r1 with
  | @obj cc us a dx ys q1 qd r2 hl =>
    by_cases hc : cc = c
    · subst hc
      unfold strG at e1
      simp only [List.lookup_cons_self] at e1
      refine .inl ⟨a, dx, _, rfl, sr.sub _ _ q1, ?_⟩
      have w : Wants T X.K io h.length F H EF (fun v H' => ∃ y, v = .str y ∧ Q v H') (callP T.fn fx [.obj cc us] h) := by
        cases ec : callP T.fn fx [.obj cc us] h with
        | bad => rw [ec] at e1; cases e1
        | exc c fs h' => rw [ec] at e1; cases e1
        | ok v h2 =>
          have eh := callP_heap ec
          subst eh
          rw [ec] at e1
          cases v with
          | str s =>
            cases e1
            intro io1 F1 H1 x1 st sr1 vr
            cases vr
            exact ⟨_, rfl, q io1 F1 H1 _ st sr1 (.str s)⟩
          | _ => cases e1
      exact callP_ok sr (.cons (.obj q1 qd r2 hl) .nil) w
    · refine .inr (other ?_)
      unfold strG at e1 ⊢
      have : (cc == c) = false := beq_false_of_ne hc
      simp only [List.lookup_cons, this] at e1
      exact e1
  | int i => exact .inr (other e1)
  | str s => exact .inr (other e1)
  | non => cases e1
  | bl b => cases e1
  | tup a b => cases e1
  | lst a b => cases e1
  | ref k hk => cases e1
  | glo g => cases e1
  | dct _ _ _ _ _ => cases e1
theorem je_strT {tb : STab} {e : Expr} {fl : Lx} {p : Pos} (h : StrOk T X tb) (hm : X.mg "str" = none) (ha : JA T X W [e] fl) (hg : Gl X "str" := by rfl) (he : starEach [e] X.env = (false, eval e X.env) :: starEach [] X.env := by rfl) (hpl : (backTo pos (starEach [] X.env)).any (·.1) = false := by rfl) :
    JE T X W (.Call (.Name "str" p) [e] [] pos) (xCB (gStrT T.fn tb) fl) := by
  obtain ⟨r, cr, lf⟩ := h
  exact je_callTy cr lf hm ha (hg := hg) (he := he) (hpl := hpl)
end
end Py
namespace Py
open PySem PySem.Spec PyProof.Rows L2 Builtin
section
variable {prog : Program} {w : World} {A : Around} {E : Value → Shared → Prop} {s : Shared} {K : PySem.W.Frag} {x C f : Addr} {ox : PySem.Obj} {od : Option PySem.Obj} {b : Value}
theorem ne_body {Q : PySem.Fin → Shared → Prop} (hu : A.units < cLine) (X : K.In s.heap) (I : PySem.W.InstAt s.heap x ox C od) (hs : PySem.W.findIn K (.ref C) "__eq__" = some (some (.ref f))) (hf : PySem.W.isFn K (.ref f) = true)
    (hc : wpAny (model prog w) A (call (.ref f) [.ref x, b]) (fun v s' => ∃ k, v = .bool k ∧ Q (.done (.ret (.bool (!k)))) s') E s) : wpAny (model prog w) A (Builtin.«object.__ne__» ⟨[.ref x, b], []⟩) Q E s := by
  unfold Builtin.«object.__ne__»
  repeat (first
    | with_reducible refine wpAny_cRoomFor hu ?_
    | (refine wpAny_bind (m := callSpecialIfBound? (.ref x) (Str.ofString "__eq__") [b]) (PySem.W.ifBound_K X I hs hf (wpAny_mono hc (fun r s' hr => by
          obtain ⟨k, rfl, hq⟩ := hr
          repeat (first | exact hq | exact wpAny_pure hq | exact wpAny_truthy_bool hq | (refine wpAny_bind (m := truthy (.bool _)) (wpAny_truthy_bool ?_)) | wp_step)) fun _ _ e => e)))
    | wp_step)
theorem ne_own {Q : Value → Shared → Prop} (hu : A.units + 1 < cLine) (X : K.In s.heap) (I : PySem.W.InstAt s.heap x ox C od) (hb : PySem.W.Looks (model prog w) s.heap (typeOf b) (.ref C)) (hn : PySem.W.findIn K (.ref C) "__ne__" = some (some (.builtin "object.__ne__")))
    (hs : PySem.W.findIn K (.ref C) "__eq__" = some (some (.ref f))) (hf : PySem.W.isFn K (.ref f) = true) (hob : PySem.W.mroIn K C (.type "object") = some true)
    (hc : wpAny (model prog w) A.in1 (call (.ref f) [.ref x, b]) (fun v s' => ∃ k, v = .bool k ∧ Q (.bool (!k)) s') E s) : wpAny (model prog w) A (richCompare .NotEq (.ref x) b) Q E s := by
  have cl : wpAny (model prog w) A (call (.builtin "object.__ne__") ([.ref x] ++ [b])) (fun v s' => ∃ k, v = .bool k ∧ Q v s') E s := by
    refine wpAny_call (codeAny_call_builtin F.cmp_object.ne.plain F.cmpEntry_ne (PySem.W.check_slot F.cmpKind_ne F.cmpSplit_ne (I.type.andThen (PySem.W.looks_mroIn X hob)) (F.cmpArgs_ne _ _) (ne_body (A := A.in1) hu X I hs hf (wpAny_mono hc (fun v s' hv => ?_) fun _ _ e => e))))
    obtain ⟨k, rfl, hq⟩ := hv
    exact ⟨k, rfl, _, rfl, hq⟩
  have one : wpAny (model prog w) A (tryCompare (.ref x) "__ne__" b) (fun r s' => ∃ v, r = some v ∧ Q v s') E s := by
    unfold tryCompare
    have fin : wpAny (model prog w) A (call (.builtin "object.__ne__") ([.ref x] ++ [b]) >>= fun v => pure (some v)) (fun r s' => wpAny (model prog w) A (match r with | some .notImplemented | none => pure none | some v => pure (some v)) (fun r s' => ∃ v, r = some v ∧ Q v s') E s') E s :=
      wpAny_bind (wpAny_mono cl (fun v s' ⟨k, ek, hq⟩ => wpAny_pure (by subst ek; exact wpAny_pure ⟨_, rfl, hq⟩)) fun _ _ e => e)
    refine wpAny_bind ?_
    simp only [callSpecialIfBound?, bindSpecialIfBound?]
    refine wpAny_holding (wpAny_bind (wpAny_bind (wpAny_bind (I.type.here ((PySem.W.looks_findIn X hn).here ?_)))))
    simp only [F.cmp_object.ne.bind]
    refine wpAny_bind (wpAny_askSetting (wpAny_ite ?_))
    split
    · exact wpAny_bind (wpAny_pure (wpAny_pure fin))
    · exact wpAny_tryCatch (wpAny_bind (wpAny_pure (wpAny_pure fin)))
  unfold richCompare
  simp only [oneThing_ref]
  refine wpAny_holding (wpAny_bind (wpAny_cRoomFor (by omega) (wpAny_bind (I.type.here (wpAny_bind (hb.here ?_))))))
  rw [show (Value.ref C != Value.ref C) = false from by simp]
  refine wpAny_bind (wpAny_pure ?_)
  simp only [Bool.false_eq_true, if_false]
  refine wpAny_bind (wpAny_mono one (fun r s' z => by obtain ⟨v, rfl, hq⟩ := z; exact wpAny_pure hq) fun _ _ e => e)
end
section
variable {T : Tb} {X : Cx} {W : WX} {pos : Pos}
def rOwn (C : Addr) (sp : Sp) (E : XK) (g : Bool → Bool) : R2 := fun x y H Q => ∃ a b dx dy fs gs, x = .ref a ∧ y = .ref b ∧ H a = some (.ins C dx fs) ∧ H b = some (.ins C dy gs) ∧ sp [.ref a, .ref b] H (fun v H' => ∃ k, v = .bl k ∧ Q (.bl (g k)) H') E
theorem op_eqO {CXq : CXT} {k : Nat} {C f : Addr} {fd : FuncData} {ps : List Str} {sp : Sp} {E : XK} (F : FnG X.prog X.w X.K X.mg X.base CXq k f fd ps sp) (M : Meth X.K C "__eq__" f) (hb : Binds X.K fd ps []) (hr : RoomG k X.A) (hx : Passes CXq X E) :
    OpR X (compareOp .Eq) (rOwn C sp E id) := by
  rintro pins s σ H x y v u Q I rx ry ⟨a, b, dx, dy, fs, gs, rfl, rfl, ea, eb, hsp⟩
  cases rx
  cases ry
  obtain ⟨mA, J, _⟩ := ins_get I.hok ea
  obtain ⟨od, J, _⟩ := J.look
  obtain ⟨mB, J', _⟩ := ins_get I.hok eb
  obtain ⟨od', J', _⟩ := J'.look
  obtain ⟨m, hF⟩ := I.fr
  refine PySem.W.cmp_ofEq (PySem.W.cmp_K (op := .Eq) (tb := .ref C) hr.units0 hF I.ok.mod.kin J J'.type (by simp [PySem.W.notFirst]) M.at_ M.fn ?_)
  have hl := F.len _ _ _ _ hsp
  refine wpAny_call (codeAny_mono (F.run X.A X.stack s H ⟨[.ref a, .ref b], []⟩ [.ref a, .ref b] [.ref a, .ref b] _ E hr I.env0 (by
    have z := hb s [.ref a, .ref b] I.kIn (by simpa using hl)
    simpa using z) (.cons rfl (.cons rfl .nil)) hsp) fun r s' hq => ?_)
  cases r with
  | error er => exact hx pins σ H s er s' I hq
  | ok fl =>
    cases fl with
    | ret w =>
      obtain ⟨z, H', I', rz, k, ez, qz⟩ := I.after hq
      subst ez
      cases rz
      exact ⟨.bl k, H', I', rfl, qz⟩
    | next => exact hq.elim
    | brk => exact hq.elim
    | cont => exact hq.elim
theorem op_neO {CXq : CXT} {k : Nat} {C f : Addr} {fd : FuncData} {ps : List Str} {sp : Sp} {E : XK} (F : FnG X.prog X.w X.K X.mg X.base CXq k f fd ps sp) (M : Meth X.K C "__eq__" f) (hn : PySem.W.findIn X.K (.ref C) "__ne__" = some (some (.builtin "object.__ne__"))) (hob : PySem.W.mroIn X.K C (.type "object") = some true)
    (hb : Binds X.K fd ps []) (hr : RoomG (k + 1) X.A) (hx : Passes CXq X E) : OpR X (compareOp .NotEq) (rOwn C sp E not) := by
  rintro pins s σ H x y v u Q I rx ry ⟨a, b, dx, dy, fs, gs, rfl, rfl, ea, eb, hsp⟩
  cases rx
  cases ry
  obtain ⟨mA, J, _⟩ := ins_get I.hok ea
  obtain ⟨od, J, _⟩ := J.look
  obtain ⟨mB, J', _⟩ := ins_get I.hok eb
  obtain ⟨od', J', _⟩ := J'.look
  refine PySem.W.cmp_ofNotEq (ne_own (by have := hr.un; omega) I.kIn J J'.type hn M.at_ M.fn hob ?_)
  have hl := F.len _ _ _ _ hsp
  refine wpAny_call (codeAny_mono (F.run X.A.in1 X.stack s H ⟨[.ref a, .ref b], []⟩ [.ref a, .ref b] [.ref a, .ref b] _ E hr.in1 I.env0.in1 (by
    have z := hb s [.ref a, .ref b] I.kIn (by simpa using hl)
    simpa using z) (.cons rfl (.cons rfl .nil)) hsp) fun r s' hq => ?_)
  cases r with
  | error er => exact hx pins σ H s er s' I hq
  | ok fl =>
    cases fl with
    | ret w =>
      obtain ⟨z, H', I', rz, k, ez, qz⟩ := I.after hq
      subst ez
      cases rz
      exact ⟨k, rfl, .bl (!k), H', I', rfl, qz⟩
    | next => exact hq.elim
    | brk => exact hq.elim
    | cont => exact hq.elim
def boolBack : Res → Option Bool
  | .ok (.bl b) _ => some b
  | _ => none
def eqG (T : Nat → List Str) (tb : STab) (h : Hh) (v u : Val) : Option Bool := match v, u with
  | .obj c fs, .obj c' gs => (match tb.lookup c with
    | some f => if c = c' then boolBack (callP T f [.obj c fs, .obj c' gs] h) else none
    | none => none)
  | v, u => eqD h v u
def gEqT (T : Nat → List Str) (tb : STab) : G2 := fun h v u => (eqG T tb h v u).map .bl
def gNeT (T : Nat → List Str) (tb : STab) : G2 := fun h v u => (eqG T tb h v u).map fun b => .bl (!b)
def EqOk (T : Tb) (X : Cx) (tb : STab) : Prop := (∃ r, OpR X (compareOp .Eq) r ∧ Lift2 T X.K r (gEqT T.fn tb)) ∧ (∃ r, OpR X (compareOp .NotEq) r ∧ Lift2 T X.K r (gNeT T.fn tb))
theorem eqG_nil {h : Hh} {v u : Val} {b : Bool} (e : eqG T.fn [] h v u = some b) : eqD h v u = some b := by
  unfold eqG at e
  split at e
  · cases e
  · exact e
theorem eq_nil (hu : X.A.units + 64 < cLine) : EqOk T X [] := by
  refine ⟨⟨_, op_eqD hu, ?_⟩, ⟨_, op_neD hu, ?_⟩⟩
  · intro io h F H v u x y z Q sr vr ur e q
    obtain ⟨b, e1, e2⟩ := map_some e
    exact lift_eqD io h F H v u x y z Q sr vr ur (by unfold gEq; rw [eqG_nil e1]; exact congrArg some e2) q
  · intro io h F H v u x y z Q sr vr ur e q
    obtain ⟨b, e1, e2⟩ := map_some e
    exact lift_neD io h F H v u x y z Q sr vr ur (by unfold gNe; rw [eqG_nil e1]; exact congrArg some e2) q
theorem eqG_cons {c : Nat} {fx : Fx} {tb : STab} {h : Hh} {v u : Val} {b : Bool} (e : eqG T.fn ((c, fx) :: tb) h v u = some b) :
    (∃ fs gs, v = .obj c fs ∧ u = .obj c gs ∧ boolBack (callP T.fn fx [.obj c fs, .obj c gs] h) = some b) ∨ eqG T.fn tb h v u = some b := by
  unfold eqG at e
  split at e
  · rename_i cc fs c' gs
    by_cases hc : cc = c
    · subst hc
      simp only [List.lookup_cons_self] at e
      split at e
      · rename_i hcc
        subst hcc
        exact .inl ⟨fs, gs, rfl, rfl, e⟩
      · cases e
    · have z : (cc == c) = false := beq_false_of_ne hc
      simp only [List.lookup_cons, z] at e
      exact .inr e
  · rename_i hne
    refine .inr ?_
    unfold eqG
    split
    · rename_i a1 a2 a3 a4
      exact absurd rfl (hne _ _ _ _ rfl)
    · exact e
theorem SR.reio {K : PySem.W.Frag} {io io1 : Nat → Addr} {h : Hh} {F H : Hp} (s : SR T K io1 h F H) (e : ∀ k, k < h.length → io1 k = io k) : SR T K io h F H where
  sub := s.sub
  tabs := s.tabs
  dis := fun k hk => by rw [← e k hk]; exact s.dis k hk
  inj := fun j k hj hk q => s.inj j k hj hk (by rw [e j hj, e k hk]; exact q)
  obj := fun k o q => by
    have hk : k < h.length := (List.getElem?_eq_some_iff.mp q).1
    have z := s.obj k o q
    rw [e k hk] at z
    cases o with
    | lst vs =>
      obtain ⟨xs, a, b⟩ := z
      exact ⟨xs, a, b.mono (Nat.le_refl _) (fun j hj => (e j hj).symm) fun _ _ w => w⟩
    | dct ks vs =>
      obtain ⟨es, ep, xs, ys, a, b1, b2, b, d⟩ := z
      exact ⟨es, ep, xs, ys, a, b1, b2, b.mono (Nat.le_refl _) (fun j hj => (e j hj).symm) (fun _ _ w => w), d.mono (Nat.le_refl _) (fun j hj => (e j hj).symm) (fun _ _ w => w)⟩
    | ins c vs =>
      obtain ⟨dx, xs, a, b, d, f⟩ := z
      exact ⟨dx, xs, a, b, d.mono (Nat.le_refl _) (fun j hj => (e j hj).symm) (fun _ _ w => w), f⟩
theorem Step.reio {io io1 : Nat → Addr} {n : Nat} {F H F1 H1 : Hp} (s : Step io n F H io1 n F1 H1) : Step io n F H io n F1 H1 := ⟨Nat.le_refl _, fun _ _ => rfl, s.phi, s.frm, fun k a b => absurd b (Nat.not_lt.mpr a), s.fresh⟩
theorem own_of {K : PySem.W.Frag} {io : Nat → Addr} {h : Hh} {F H : Hp} {Q : VK} {c : Nat} {fs gs : List Val} {x y : V} {fx : Fx} {b : Bool} {g : Bool → Bool} (sr : SR T K io h F H) (vr : VR T K io h.length F (.obj c fs) x) (ur : VR T K io h.length F (.obj c gs) y)
    (e : boolBack (callP T.fn fx [.obj c fs, .obj c gs] h) = some b) (q : ∀ F' H' x', Step io h.length F H io h.length F' H' → SR T K io h F' H' → VR T K io h.length F' (.bl (g b)) x' → Q x' H') : rOwn (He.ga K (T.cn c)) (spF T K fx) EF g x y H Q := by
  have vr' := vr
  have ur' := ur
  cases vr with
  | @obj _ us a dx ys q1 qd r2 hl =>
    cases ur with
    | @obj _ us' b' dx' ys' q1' qd' r2' hl' =>
      refine ⟨a, b', dx, dx', _, _, rfl, rfl, sr.sub _ _ q1, sr.sub _ _ q1', callP_ok sr (.cons vr' (.cons ur' .nil)) ?_⟩
      cases ec : callP T.fn fx [.obj c fs, .obj c gs] h with
      | bad => rw [ec] at e; cases e
      | exc c fs h' => rw [ec] at e; cases e
      | ok v h2 =>
        have eh := callP_heap ec
        subst eh
        rw [ec] at e
        cases v with
        | bl k =>
          cases e
          intro io1 F1 H1 x1 st sr1 vr1
          cases vr1
          exact ⟨_, rfl, q F1 H1 _ st.reio (sr1.reio st.eq) (.bl _)⟩
        | _ => cases e
theorem eq_cons {c : Nat} {k : Nat} {f : Addr} {ps : List Str} {fx : Fx} {tb : STab} (C : CalleeX T X k f ps fx []) (M : Meth X.K (He.ga X.K (T.cn c)) "__eq__" f) (hn : PySem.W.findIn X.K (.ref (He.ga X.K (T.cn c))) "__ne__" = some (some (.builtin "object.__ne__")))
    (hob : PySem.W.mroIn X.K (He.ga X.K (T.cn c)) (.type "object") = some true) (hr : RoomG (k + 1) X.A) (h : EqOk T X tb) : EqOk T X ((c, fx) :: tb) := by
  obtain ⟨⟨r, or1, lf⟩, ⟨r', or2, lf'⟩⟩ := h
  obtain ⟨fd, ds, G, kp, hv, hb⟩ := C
  cases hv
  refine ⟨⟨_, OpR.or (op_eqO G M hb (hr.mono (by omega)) (passNo X)) or1, ?_⟩, ⟨_, OpR.or (op_neO G M hn hob hb hr (passNo X)) or2, ?_⟩⟩
  · intro io h F H v u x y z Q sr vr ur e q
    obtain ⟨b, e1, e2⟩ := map_some e
    subst e2
    rcases eqG_cons e1 with ⟨fs, gs, rfl, rfl, eb⟩ | eb
    · exact .inl (own_of sr vr ur eb q)
    · exact .inr (lf io h F H v u x y _ Q sr vr ur (by unfold gEqT; rw [eb]; rfl) q)
  · intro io h F H v u x y z Q sr vr ur e q
    obtain ⟨b, e1, e2⟩ := map_some e
    subst e2
    rcases eqG_cons e1 with ⟨fs, gs, rfl, rfl, eb⟩ | eb
    · exact .inl (own_of (g := not) sr vr ur eb q)
    · exact .inr (lf' io h F H v u x y _ Q sr vr ur (by unfold gNeT; rw [eb]; rfl) q)
section
variable {a b : Expr} {fa fb : Ex} {tb : STab}
theorem jt_neT (h : EqOk T X tb) (ha : JE T X W a fa) (hb : JE T X W b fb) (hm : behindInMarks .NotEq b = false := by first | exact nomark _ | rfl | with_unfolding_all rfl) : JT T X W (.Compare a [.NotEq] [b] pos) (xOp (gNeT T.fn tb) fa fb) := by
  obtain ⟨_, r, o, l⟩ := h
  exact jt_cmp o l ha hb hm
end
end
end Py
namespace Py
open PySem PySem.Spec PyProof.Rows L2
structure IsOk (T : Tb) (K : PySem.W.Frag) (x : Str) (l : List (Nat × Bool)) : Prop where
  kd : ∀ k : Kd, PySem.W.kitOne K (.type k.name) (.ref (He.ga K x)) = some false
  own : ∀ c b, l.lookup c = some b → PySem.W.kitOne K (.ref (He.ga K (T.cn c))) (.ref (He.ga K x)) = some b ∧ CTy K (He.ga K (T.cn c))
def isB (T : Nat → Str) (K : PySem.W.Frag) (x : Str) (l : List (Nat × Bool)) : Bool := (kds.all fun k => decide (PySem.W.kitOne K (.type k.name) (.ref (He.ga K x)) = some false)) && l.all fun p => decide (PySem.W.kitOne K (.ref (He.ga K (T p.1))) (.ref (He.ga K x)) = some p.2) && ctyB K (T p.1)
theorem lookup_mem {l : List (Nat × Bool)} {c : Nat} {b : Bool} (h : l.lookup c = some b) : (c, b) ∈ l := by
  induction l with
  | nil => cases h
  | cons p l ih =>
    obtain ⟨c', b'⟩ := p
    by_cases hc : c = c'
    · subst hc
      simp only [List.lookup_cons_self] at h
      cases h
      exact List.Mem.head _
    · have z : (c == c') = false := beq_false_of_ne hc
      simp only [List.lookup_cons, z] at h
      exact List.Mem.tail _ (ih h)
theorem is_of {T : Tb} {K : PySem.W.Frag} {x : Str} {l : List (Nat × Bool)} (h : isB T.cn K x l = true) : IsOk T K x l := by
  obtain ⟨h1, h2⟩ := He.ba h
  refine ⟨fun k => of_decide_eq_true (List.all_eq_true.mp h1 k (by cases k <;> decide)), fun c b e => ?_⟩
  obtain ⟨a, b⟩ := He.ba (List.all_eq_true.mp h2 (c, b) (lookup_mem e))
  exact ⟨of_decide_eq_true a, cty_of b⟩
def gIsO (l : List (Nat × Bool)) : Hh → Val → Option Val := fun h v => match v with
  | .obj c _ => (l.lookup c).map .bl
  | v => (kdOf h v).map fun _ => .bl false
section
variable {T : Tb} {X : Cx} {W : WX} {e : Expr} {fe : Ex} {pos p1 p2 : Pos}
theorem je_isO {x : Str} {l : List (Nat × Bool)} (he : JE T X W e fe) (k : IsOk T X.K x l) (hm : X.mg "isinstance" = none) (hmc : X.mg x = some (.ref (He.ga X.K x))) (hgc : Gl X x := by rfl) (hg : Gl X "isinstance" := by rfl) (hd : (x == ("__debug__" : Str)) = false := by decide)
    (hs : starEach [e, .Name x p2] X.env = (false, eval e X.env) :: starEach [.Name x p2] X.env := by rfl) (hs2 : starEach [.Name x p2] X.env = (false, eval (.Name x p2) X.env) :: starEach [] X.env := by rfl) (hpl : (backTo pos (starEach [.Name x p2] X.env)).any (·.1) = false := by rfl) :
    JE T X W (.Call (.Name "isinstance" p1) [e, .Name x p2] [] pos) (xUn (gIsO l) fe) := by
  refine pe_imp (pe_callB call_isi hg hm (by decide +kernel) (pa_cons he (pa_cons (pe_glob (v := .ref (He.ga X.K x)) hgc hmc rfl hd) pa_nil hs2) hs) (by decide) (by decide) hs hpl) fun σ H Q ⟨io, h, F, sg, sr, rs, w⟩ => ⟨io, h, F, sg, sr, rs, Wants.bind w fun v h1 io1 F1 H1 y st sr1 vr w1 => ?_⟩
  obtain ⟨z, ez, w2⟩ := wants_ofO w1
  have viaK : (kdOf h1 v).map (fun _ => Val.bl false) = some z → ∃ (x' c : V) (t u : Value) (b : Bool), [y, .ref (He.ga X.K x)] = [x', c] ∧ ClsV c u ∧ TyX X.K H1 x' t ∧ PySem.W.kitOne X.K t u = some b ∧ Q (.bl b) H1 := fun ez => by
    obtain ⟨kk, ek, rfl⟩ := map_some ez
    exact ⟨y, _, .type kk.name, _, false, rfl, .own _, kdOf_ok sr1 vr ek, k.kd kk, w2 io1 F1 H1 _ .refl sr1 (.bl _)⟩
  unfold gIsO at ez
  cases vr with
  | @obj c us a dx ys q1 qd r2 hl =>
    obtain ⟨b, eb, rfl⟩ := map_some ez
    obtain ⟨k1, k2⟩ := k.own c b eb
    exact ⟨_, _, _, _, b, rfl, .own _, .base (.ins (sr1.sub _ _ q1) k2.cls k2.cc k2.gt k2.tk k2.ob), k1, w2 io1 F1 H1 _ .refl sr1 (.bl _)⟩
  | non => exact viaK ez
  | bl b => exact viaK ez
  | int i => exact viaK ez
  | str s => exact viaK ez
  | tup a b => exact viaK ez
  | lst a b => exact viaK ez
  | ref k hk => exact viaK ez
  | glo g => exact viaK ez
  | dct _ _ _ _ _ => exact viaK ez
end
structure DefP where
  adr : PySem.W.Frag → Addr
  d : He.DefD
def fnWA (K : PySem.W.Frag) (a : Addr) : He.FnW := match K.lookup a with
  | some ⟨_, _, .func fd, _⟩ => some (fd.name, fd.qualname, fd.params, fd.body, fd.scope, fd.globals, fd.closure, fd.builtins)
  | _ => none
def DefP.ok (K : PySem.W.Frag) (d : DefP) : Bool := PySem.W.keepIn K (.ref (d.adr K)) && (match K.lookup (d.adr K) with
  | some ⟨_, _, .func fd, _⟩ => PySem.W.codeIn K fd.code d.d.qual && (He.dflB K fd.defaults (d.d.dvs K) && He.kwdB K fd.kwdefaults (d.d.kws K))
  | _ => false)
theorem DefP.funD {K : PySem.W.Frag} {d : DefP} (e : fnWA K (d.adr K) = d.d.val) (c : d.ok K = true) : ∃ fd, FunD K d.d.name d.d.qual d.d.params d.d.body d.d.scope (d.d.dvs K) (d.d.kws K) (d.adr K) fd := by
  obtain ⟨kp, c2⟩ := He.ba c
  unfold fnWA at e
  cases q : K.lookup (d.adr K) with
  | none => rw [q] at c2; cases c2
  | some o =>
    obtain ⟨oc, od, dt, osl⟩ := o
    rw [q] at c2 e
    cases dt with
    | func fd =>
      obtain ⟨m1, m2, m3, m4, m5, m6, m7, m8, m9, m10, m11, m12, m13, m14, m15⟩ := fd
      have e2 : (some (m1, m2, m3, m4, m5, m6, m7, m15) : He.FnW) = some (d.d.name, d.d.qual, d.d.params, .stmts d.d.body, d.d.scope, mainGlobals, [], builtinsNs) := e
      simp only [Option.some.injEq, Prod.mk.injEq] at e2
      obtain ⟨g1, g2, g3, g4, g5, g6, g7, g8⟩ := e2
      subst g1 g2 g3 g4 g5 g6 g7 g8
      have c3 : (PySem.W.codeIn K m13 d.d.qual && (He.dflB K m8 (d.d.dvs K) && He.kwdB K m9 (d.d.kws K))) = true := c2
      obtain ⟨l1, l2⟩ := He.ba c3
      obtain ⟨l3, l4⟩ := He.ba l2
      exact ⟨_, ⟨oc, od, m8, m9, m10, m11, m12, m13, m14, osl, rfl, q, l1, He.dflB_ok l3, He.kwdB_ok l4⟩, kp⟩
    | _ => cases c2
def valP (fn : List DefP) : He.AlD := (true, fn.map fun d => d.d.val)
def obsP (chk : PySem.W.Frag → Bool) (fn : List DefP) (K : PySem.W.Frag) : He.AlD := (chk K && fn.all fun d => d.ok K, fn.map fun d => fnWA K (d.adr K))
def SaysP (chk : PySem.W.Frag → Bool) (fn : List DefP) (K : PySem.W.Frag) : Prop := obsP chk fn K = valP fn
section
variable {ck : PySem.W.Frag → Bool} {fn : List DefP} {K : PySem.W.Frag}
theorem SaysP.both (c : SaysP ck fn K) : ck K = true ∧ (fn.all fun d => d.ok K) = true := He.ba (congrArg (fun z : He.AlD => z.1) c : (ck K && fn.all fun d => d.ok K) = true)
theorem SaysP.def_ (c : SaysP ck fn K) (i : Nat) {d : DefP} (h : fn[i]? = some d := by rfl) : ∃ fd, FunD K d.d.name d.d.qual d.d.params d.d.body d.d.scope (d.d.dvs K) (d.d.kws K) (d.adr K) fd := by
  have e : fn.map (fun d => fnWA K (d.adr K)) = fn.map fun d => d.d.val := congrArg (fun z : He.AlD => z.2) c
  have e2 := congrArg (fun l : List He.FnW => l[i]?) e
  simp only [List.getElem?_map, h, Option.map_some, Option.some.injEq] at e2
  exact DefP.funD e2 (List.all_eq_true.mp c.both.2 d (List.mem_of_getElem? h))
end
def propB (K : PySem.W.Frag) (x m : Str) : Bool := He.eqO (PySem.W.findIn K (.ref (He.ga K x)) m) (some (some (.ref (He.ma K (He.ga K x) m)))) &&
  (He.eqO (PySem.W.specialIn K (.ref (He.ma K (He.ga K x) m)) "__get__") (some (some (.builtin "property.__get__"))) && (decide (PySem.W.takesIn K (.ref (He.ma K (He.ga K x) m)) = some true) &&
  (match PySem.W.recIn K (He.ma K (He.ga K x) m) "property" with | some (.ref _ :: _) => true | _ => false)))
end Py
namespace Py
open PySem PySem.Spec PyProof.Rows L2
section
variable {T : Tb} {X : Cx} {W : WX} {pos : Pos}
end
end Py
namespace Py
open PySem PySem.Spec PyProof.Rows L2
section
variable {T : Tb} {X : Cx} {W : WX} {pos : Pos}
section
variable {a b : Expr} {fa fb : Ex} {p p2 pos2 : Pos}
end
def gIntX : GC := fun h vs => match vs with
  | [.int i] => some (.int i, h)
  | [.bl b] => some (.int (if b then 1 else 0), h)
  | [.str s] => if s.length ≤ 600 then (match PySem.intText? ⟨s.toArray⟩ with
    | some n => some (.int n, h)
    | none => none) else none
  | _ => none
def gInA : G2 := fun h v u => match u with
  | .str s => (match v with
    | .str [c] => some (.bl (decide (c ∈ s)))
    | _ => none)
  | u => (match gIn false h v u with
    | some z => some z
    | none => (match dat h 30 v, dat h 30 u with
      | some d, some (.list ds) => some (.bl (ds.any fun z => PyData.eqv z d))
      | _, _ => none))
def xPar3 (i j l : Nat) (r : Lx) : Sx := fun sg h => match r sg h with
  | .ok [u, v, z] h1 => .next (((sg.set i (some u)).set j (some v)).set l (some z)) h1
  | .ok _ _ => .bad
  | .exc c fs h1 => .exc c fs sg h1
  | .bad => .bad
theorem js_par3 (i j l : Nat) {a b c : Expr} {x y z : Str} {fl : Lx} {px py pz pt : Pos} {kt k2 pt2} (hc : X.calm = true) (hN : X.N.Nodup) (hij : i ≠ j) (hil : i ≠ l) (hjl : j ≠ l) (ha : JA T X W [a, b, c] fl) (hi : X.N[i]? = some x := by rfl) (hj : X.N[j]? = some y := by rfl) (hl : X.N[l]? = some z := by rfl)
    (hx : X.env.scope.names.lookup x = some .local := by rfl) (hy : X.env.scope.names.lookup y = some .local := by rfl) (hz : X.env.scope.names.lookup z = some .local := by rfl)
    (hw : swappedStores [.Tuple [.Name x px, .Name y py, .Name z pz] kt pt] (.Tuple [a, b, c] k2 pt2) X.env = pure (some [x, y, z]) := by rfl)
    (hs : swapsWithSole [.Tuple [.Name x px, .Name y py, .Name z pz] kt pt] (.Tuple [a, b, c] k2 pt2) pos.line X.env = pure false := by rfl) :
    JS T X W (.Assign [.Tuple [.Name x px, .Name y py, .Name z pz] kt pt] (.Tuple [a, b, c] k2 pt2) pos) (xPar3 i j l fl) := by
  refine ps_imp (ps_par3 hc hN hi hj hl hij hil hjl hx hy hz ha hw hs) fun D σ H ⟨io, h, F, sg, sr, rs, w⟩ => ⟨io, h, F, sg, sr, rs, ?_⟩
  unfold xPar3 at w
  cases e : fl sg h with
  | ok vs h1 =>
    rw [e] at w
    intro io' F' H' xs st sr' vrs
    match vs, vrs, w with
    | [v, u, t], .cons r1 (.cons r2 (.cons r3 .nil)), w => exact ⟨_, _, _, rfl, w io' F' H' _ st sr' ((((rs.step st).set i r1).set j r2).set l r3)⟩
    | [], _, w => exact w.elim
    | [_], _, w => exact w.elim
    | [_, _], _, w => exact w.elim
    | _ :: _ :: _ :: _ :: _, _, w => exact w.elim
  | exc c fs h1 =>
    rw [e] at w
    exact fun io' F' H' d st sr xr => w io' F' H' σ d st sr (rs.step st) xr
  | bad => rw [e] at w; exact w
end
end Py
namespace Py
open PySem PySem.Spec PyProof.Rows L2
section
variable {T : Tb} {X : Cx} {W : WX} {pos : Pos}
theorem run_in1 {k : Nat} {f : Addr} {fd : FuncData} {ps : List Str} {sp : Sp} {pins : List (Addr × PySem.Obj)} {σ : L2.St} {H : Hp} {s : Shared} {Q : VK} {vs : List V} {us : List Value} {R : Value → Shared → Prop} (F : FnG X.prog X.w X.K X.mg X.base (L2.CX X.prog X.w) k f fd ps sp) (hr : RoomG (k + 1) X.A) (hb : Binds X.K fd ps [])
    (I : L2.Inv X pins σ H s) (r : Vals vs us) (h : sp vs H Q EF) (back : ∀ v H' s', L2.Inv X pins σ H' s' → ∀ u, RelV v u → Q v H' → R u s') : wpAny (model X.prog X.w) X.A.in1 (call (.ref f) us) R X.xe s := by
  have hl := F.len _ _ _ _ h
  refine wpAny_call (codeAny_mono (F.run X.A.in1 X.stack s H ⟨us, []⟩ us vs Q EF hr.in1 I.env0.in1 (by
    have z := hb s us I.kIn (by rw [List.append_nil, ← r.length]; exact hl)
    simpa using z) r h) fun res s' z => ?_)
  match res, z with
  | .error er, z => exact passNo X pins σ H s er s' I z
  | .ok (.ret w), z =>
    obtain ⟨v, H', I', rv, q⟩ := I.after z
    exact back v H' s' I' w rv q
  | .ok .next, z => exact False.elim z
  | .ok .brk, z => exact False.elim z
  | .ok .cont, z => exact False.elim z
section
variable {pl : Sem Bool} {C g pa : Addr} {mc : Value} {m : Str} {o e : Expr} {es : List Expr} {apos : Pos} {k : Nat} {fd : FuncData} {ps : List Str} {ds : List Value} {dvs : List V} {sp : Sp} {E : L2.St → XK} {ta : TE} {t : TA}
end
end
end Py
namespace Py
open PySem PySem.Spec PyProof.Rows L2
def cmA (K : PySem.W.Frag) (x m : Str) : Addr := match PySem.W.recIn K (He.ma K (He.ga K x) m) "classmethod" with
  | some (.ref g :: _) => g
  | _ => 0
def cmB (K : PySem.W.Frag) (x m : Str) : Bool := PySem.W.readsIn K (He.ga K x) (.type "type") && (He.eqO (PySem.W.specialIn K (.ref (He.ga K x)) "__getattribute__") (some (some (.builtin "type.__getattribute__"))) &&
  ((match PySem.W.findCls K (.ref (He.ga K x)) (.type "type") m with
    | some (.get a b c d) => decide (a = .builtin "classmethod.__get__") && (decide (b = .ref (He.ma K (He.ga K x) m)) && (decide (c = .none) && decide (d = .ref (He.ga K x))))
    | _ => false) && ((match PySem.W.recIn K (He.ma K (He.ga K x) m) "classmethod" with | some (.ref _ :: _) => true | _ => false) && PySem.W.fnIn K (cmA K x m))))
def tup0B (K : PySem.W.Frag) (a : Addr) : Bool := match K.lookup a with
  | some ⟨.type c, _, .seq its _, _⟩ => decide (c = "tuple") && decide (its.size = 0)
  | _ => false
section
variable {T : Tb} {X : Cx} {W : WX} {pos : Pos}
section
variable {a b : Expr} {fa fb : Ex} {tb : STab}
end
theorem ix_own {k : Nat} {C f : Addr} {fd : FuncData} {ps : List Str} {sp : Sp} (F : FnG X.prog X.w X.K X.mg X.base (L2.CX X.prog X.w) k f fd ps sp) (M : Meth X.K C "__getitem__" f) (hfi : PySem.W.fnIn X.K f = true) (hb : Binds X.K fd ps []) (hr : RoomG (k + 1) X.A) (value slice : Expr) {pins : List (Addr × PySem.Obj)} {s : Shared} {σ : L2.St} {H : Hp} {a dx : Addr} {fs : List (Str × V)} {i : Int} {t : Tok} {Q : VK} (I : L2.Inv X pins σ H s) (ea : H a = some (.ins C dx fs)) (h : sp [.ref a, .int i] H Q EF)
    (hsl : subscripted slice true (.ref a) (.int i t) = runValue (.builtin "lifetime.subscript" ⟨[.ref a, .int i t], []⟩)) : wpAny (model X.prog X.w) X.A (subscriptTail value slice (.ref a) (.int i t)) (EP X pins σ Q) X.xe s := by
  obtain ⟨mA, J, _⟩ := ins_get I.hok ea
  obtain ⟨od, J, _⟩ := J.look
  obtain ⟨m, hF⟩ := I.fr
  exact PySem.W.sub_K hF I.ok.mod.kin J M.at_ hfi M.fn (run_in1 (vs := [.ref a, .int i]) F hr hb I (.cons rfl (.cons ⟨t, rfl⟩ .nil)) h fun v H' s' I' u ru q => ⟨v, H', I', ru, q⟩) hsl
def xIxO (T : Nat → List Str) (c : Nat) (f : Fx) (a b : Ex) : Ex := fun sg h => (a sg h).bind fun v h1 => (b sg h1).bind fun u h2 => match v, u with
  | .obj c' fs, .int i => if c' = c then noX (callP T f [.obj c' fs, .int i] h2) else .bad
  | _, _ => .bad
theorem je_ixO {c k : Nat} {f : Addr} {ps : List Str} {fx : Fx} {a b : Expr} {fa fb : Ex} (C : CalleeX T X k f ps fx []) (M : Meth X.K (He.ga X.K (T.cn c)) "__getitem__" f) (hfi : PySem.W.fnIn X.K f = true) (hr : RoomG (k + 1) X.A) (ha : JE T X W a fa) (hb : JE T X W b fb)
    (hsl : ∀ (p : Addr) (i : Int) (t : Tok), subscripted b true (.ref p) (.int i t) = runValue (.builtin "lifetime.subscript" ⟨[.ref p, .int i t], []⟩) := by intro _ _ _; with_unfolding_all rfl) : JE T X W (.Subscript a b pos) (xIxO T.fn c fx fa fb) := by
  obtain ⟨fd, ds, G, kp, hv, hbd⟩ := C
  cases hv
  have P : PE X (.Subscript a b pos) (tOp (fun x y H Q => ∃ p dx fs i, x = .ref p ∧ y = .int i ∧ H p = some (.ins (He.ga X.K (T.cn c)) dx fs) ∧ spF T X.K fx [.ref p, .int i] H Q EF) (tE T X.K W fa) (tE T X.K W fb)) :=
    ⟨fun pins s σ H Q I h => Subscript_ (binT ha hb I h fun v u s2 x y H2 I2 rx ry ⟨p, dx, fs, i, ex, ey, ep, q⟩ => by
      subst ex ey
      cases (show v = Value.ref p from rx)
      obtain ⟨t, rfl⟩ := ry
      exact ix_own G M hfi hbd hr a b I2 ep q (hsl p i t))⟩
  refine pe_imp P fun σ H Q ⟨io, h, F, sg, sr, rs, w⟩ => ⟨io, h, F, sg, sr, rs, Wants.bind w fun v h1 io1 F1 H1 x st sr1 vr w1 => ⟨io1, h1, F1, sg, sr1, rs.step st, Wants.bind w1 fun u h2 io2 F2 H2 y st2 sr2 ur w2 => ?_⟩⟩
  have vr2 := vr.step st2
  have vr3 := vr2
  have ur3 := ur
  cases vr2 with
  | @obj c' us p dx ys q1 qd r2 hl =>
    cases ur with
    | int i =>
      dsimp only at w2
      by_cases hc : c' = c
      · subst hc
        rw [if_pos rfl] at w2
        exact ⟨p, dx, _, i, rfl, rfl, sr2.sub _ _ q1, callP_ok sr2 (.cons vr3 (.cons ur3 .nil)) (noX_ok w2)⟩
      · rw [if_neg hc] at w2; exact w2.elim
    | _ => exact w2.elim
  | _ => exact w2.elim
end
end Py
namespace Py
open PySem PySem.Spec PyProof.Rows L2
def tidxB (K : PySem.W.Frag) (x : Str) : Bool := match K.lookup (He.ga K x) with
  | some o => decide (o.cls = .type "tuple") && o.dict.isNone
  | none => false
def obsPL (as : List Addr) (chk : PySem.W.Frag → Bool) (fn : List DefP) (g : Addr → Option PySem.Obj) : He.AlD := obsP chk fn (He.frG g as)
def hookL (as : List Addr) (chk : PySem.W.Frag → Bool) (fn : List DefP) : PySem.W.Hook where
  α := He.AlD
  obs := fun s => obsPL as chk fn s.heap.get?
  val := fun _ => valP fn
  says := fun _ h => ∃ K : PySem.W.Frag, K.In h ∧ SaysP chk fn K
  of := fun _ _ e => ⟨_, He.frG_in, e⟩
  keeps := fun _ _ _ ⟨K, hK, c⟩ k => ⟨K, PySem.W.Frag.In.keeps hK k, c⟩
theorem obsPL_eq {as : List Addr} {chk : PySem.W.Frag → Bool} {fn : List DefP} {g : Addr → Option PySem.Obj} {s : Shared} (h : ∀ a, g a = s.heap.get? a) : obsPL as chk fn g = (hookL as chk fn).obs s := by
  obtain rfl : g = s.heap.get? := funext h
  rfl
end Py
namespace PySem
namespace ExI
open PySem.W PySem.Calls PyProof.Rows PySem.HandSPX
def iA (f : Str) (p1 p2 : Pos) : Arguments := { posonlyargs := [], args := [{ arg := "self", annotation := none, pos := p1 }, { arg := f, annotation := none, pos := p2 }], vararg := none, kwonlyargs := [], kw_defaults := [], kwarg := none, defaults := [] }
def iB (f : Str) (a1 a2 a3 a4 a5 a6 q1 q2 q3 q4 : Pos) : List Stmt := [.Expr (.Call (.Attribute (.Call (.Name "super" a1) [] [] a2) "__init__" a3) [.Name f a4] [] a5) a6, .Assign [.Attribute (.Name "self" q1) f q2] (.Name f q3) q4]
def iS (f : Str) : Scope := { kind := .function, names := [("self", .local), (f, .local), ("__class__", .free), ("super", .globalImplicit)], isGenerator := false, isCoroutine := false, more := [] }
def argsB (f : Str) (a : Arguments) : Bool := match a with
  | ⟨[], [⟨s1, none, _⟩, ⟨s2, none, _⟩], none, [], [], none, []⟩ => decide (s1 = "self") && decide (s2 = f)
  | _ => false
def bodyB (f : Str) (b : FuncBody) : Bool := match b with
  | .stmts [.Expr (.Call (.Attribute (.Call (.Name s1 _) [] [] _) s2 a3) [.Name s3 _] [] a5) _, .Assign [.Attribute (.Name s4 _) s5 _] (.Name s6 _) _] =>
    decide (a3.endLine = a5.line) && (decide (s1 = "super") && (decide (s2 = "__init__") && (decide (s3 = f) && (decide (s4 = "self") && (decide (s5 = f) && decide (s6 = f))))))
  | _ => false
def initB (K : Frag) (file : Str) (f : Str) (C fI : Addr) : Bool := match K.lookup fI with
  | some ⟨_, _, .func ⟨nm, q, pr, bd, sc, gl, [(cn, cc)], .none, .none, _, _, _, .ref cda, _, bt⟩, _⟩ =>
    decide (nm = "__init__") && (argsB f pr && (bodyB f bd && (decide (sc = iS f) && (decide (gl = mainGlobals) && (decide (bt = builtinsNs) && (decide (cn = "__class__") && (codeIn K (.ref cda) q &&
      ((match K.lookup cda with
        | some ⟨_, _, .fields vs, _⟩ => (match (vs[2]? : Option Value) with
          | some (Value.str fl _) => (file == fl)
          | _ => false)
        | _ => false) &&
      (match K.lookup cc with
        | some ⟨_, _, .cell (some (.ref D)), _⟩ => decide (D = C)
        | _ => false)))))))))
  | _ => false
def bNm (i : Bool) : String := cond i "IndexError" "ValueError"
def bNew (i : Bool) : String := cond i "IndexError.__new__" "ValueError.__new__"
def bIni (i : Bool) : String := cond i "IndexError.__init__" "ValueError.__init__"
def bTl (i : Bool) : List Value := cond i [.type "IndexError", .type "LookupError", .type "Exception", .type "BaseException", .type "object"] [.type "ValueError", .type "Exception", .type "BaseException", .type "object"]
def clsB (i : Bool) (K : Frag) (C : Addr) : Bool := match K.lookup C with
  | some ⟨.type "type", _, .cls cd, sl⟩ => (match cd.mro, sl.toList with
    | .ref C' :: bm, [_, _, _, _, some (.builtin n), _] => C' == C && n == bNew i && !cd.hasDel && cd.hasDict && excTail (bTl i) bm
    | _, _ => false)
  | _ => false
def exwB (i : Bool) (K : Frag) (file : Str) (C fI : Addr) (f : Str) : Bool := (decide (f = "word") || decide (f = "at")) && (clsB i K C && (initB K file f C fI && (He.eqO (findIn K (.ref C) "__setattr__") (some (some (.builtin "object.__setattr__"))) &&
  (He.eqO (findIn K (.ref C) "__getattribute__") (some (some (.builtin "BaseException.__getattribute__"))) && (He.eqO (findIn K (.ref C) "__getattr__") (some none) && (He.eqO (findIn K (.ref C) f) (some none) &&
  (He.eqO (findIn K (.ref C) "__init__") (some (some (.ref fI))) && (decide (typeIn K (.ref fI) = some (.type "function")) && (keepIn K (.ref C) && (decide (subIn K (.ref C) (.type "BaseException") = some true) &&
  (decide (typeIn K (.ref C) = some (.type "type")) && (hasDictIn K C && (He.eqO (nsIn K cStatics "thirdparty.any") (some none) && (He.eqO (nsIn K mainGlobals "super") (some none) &&
  (He.eqO (ks_superIn K C C "__init__") (some (some (.builtin (bIni i)))) && (decide (subIn K (.ref C) (.type (bNm i)) = some true) && decide (mroIn K C (.ref C) = some true)))))))))))))))))
end ExI
end PySem
namespace Py
open PySem PySem.Spec PyProof.Rows L2
def excB (K : PySem.W.Frag) (D : Addr) : Bool := He.eqO (PySem.W.findIn K (.ref D) "__getattribute__") (some (some (.builtin "BaseException.__getattribute__"))) && (He.eqO (PySem.W.findIn K (.ref D) "__getattr__") (some none) && (decide (PySem.W.subIn K (.ref D) (.type "BaseException") = some true) && (PySem.W.hasDictIn K D &&
  (He.eqO (PySem.W.findIn K (.ref D) "__class__") (some (some (.builtin "object.__class__"))) && (He.eqO (PySem.W.specialIn K (.builtin "object.__class__") "__get__") (some (some (.builtin "getset_descriptor.__get__"))) && (decide (PySem.W.takesIn K (.builtin "object.__class__") = some true) && decide (PySem.W.mroIn K D (.type "object") = some true)))))))
def xcB (K : PySem.W.Frag) (file x f : Str) : Bool := (ExI.exwB false K file (He.ga K x) (He.ma K (He.ga K x) "__init__") f || ExI.exwB true K file (He.ga K x) (He.ma K (He.ga K x) "__init__") f) && excB K (He.ga K x)
def emB (K : PySem.W.Frag) (cn : Nat → Str) (cs : List Nat) : Bool := cs.all fun c => cs.all fun k => decide (PySem.W.exmOne K (.ref (He.ga K (cn c))) (.ref (He.ga K (cn k))) = some (decide (c = k)))
def ktB (K : PySem.W.Frag) (x : Str) (c : Value) (b : Bool) : Bool := decide (PySem.W.kitOne K (.ref (He.ga K x)) c = some b)
end Py
namespace Law
open PySem PySem.Spec PyProof.Rows L2 Py
def TBc : Nat → Str := fun c => match c with
    | 0 => "DimError"
    | 1 => "InvalidDay"
    | 2 => "InvalidRule"
    | 3 => "InvalidFrame"
    | 4 => "InvalidText"
    | 5 => "InvalidLooks"
    | 6 => "InvalidSlot"
    | 7 => "InvalidCommand"
    | 8 => "Refused"
    | 9 => "NoMeeting"
    | 10 => "Day"
    | 11 => "Rule"
    | 12 => "Frame"
    | 13 => "Course"
    | 14 => "Live"
    | 15 => "Desk"
    | _ => "?"
def TBf : Nat → List Str := fun c => match c with
    | 0 => []
    | 1 => ["word"]
    | 2 => ["word"]
    | 3 => ["word"]
    | 4 => ["at"]
    | 5 => ["at"]
    | 6 => []
    | 7 => []
    | 8 => ["at"]
    | 9 => ["at"]
    | 10 => ["length", "meetings"]
    | 11 => ["step", "gap", "least", "private", "hours"]
    | 12 => ["length", "shortest", "most", "private", "known"]
    | 13 => ["given", "home", "is_whole", "first", "ways", "links", "rest", "good", "many"]
    | 14 => ["frame", "looks", "past"]
    | 15 => ["live"]
    | _ => []
end Law
namespace Py
open PySem PySem.Spec PyProof.Rows L2
def tabFree (K : PySem.W.Frag) (x : Str) : Bool := match PySem.W.tabIn K x with
  | some q => (K.lookup q.2).isNone
  | none => false
theorem tabFree_ok {K : PySem.W.Frag} {x : Str} (h : tabFree K x = true) : ∃ c P, PySem.W.tabIn K x = some (c, P) ∧ K.lookup P = none := by
  unfold tabFree at h
  cases e : PySem.W.tabIn K x with
  | none => rw [e] at h; cases h
  | some q =>
    rw [e] at h
    exact ⟨q.1, q.2, rfl, Option.isNone_iff_eq_none.mp h⟩
end Py
namespace Law
open PySem PySem.Spec PyProof.Rows L2 Py
def topS (i : Nat) : Stmt := PySem.Challenge.pw_dimdays_k05_days_with_one_meeting_more_o.main.body.getD i (.Pass ⟨0, 0, 0, 0⟩)
def TBg : Nat → Str := fun c => match c with
    | 0 => "DimError"
    | 1 => "InvalidDay"
    | 4 => "InvalidText"
    | 9 => "NoMeeting"
    | 10 => "Day"
    | _ => "?"
def TBk : Nat → Str := fun c => match c with
    | 0 => "DimError"
    | 1 => "InvalidDay"
    | 2 => "InvalidRule"
    | 3 => "InvalidFrame"
    | 4 => "InvalidText"
    | 5 => "InvalidLooks"
    | 6 => "InvalidSlot"
    | 7 => "InvalidCommand"
    | 8 => "Refused"
    | 9 => "NoMeeting"
    | 10 => "Day"
    | 11 => "Day"
    | 12 => "Day"
    | 13 => "Day"
    | 14 => "Day"
    | 15 => "Day"
    | _ => "Day"
abbrev TB (P : Program) (w : World) (tb : Addr) : Tb := ⟨TBk, TBf, TBg, P, w, [(tb, "law.<locals>.<lambda>")]⟩
abbrev is_Day : List (Nat × Bool) := [(10, true)]
abbrev s_Lseed : Stmt := topS 22
abbrev s_Lchoose : Stmt := topS 23
abbrev s_Lone_of : Stmt := topS 24
abbrev s_Lday : Stmt := topS 25
abbrev s_is_integer : Stmt := topS 9
abbrev s_is_bool : Stmt := topS 11
abbrev s_is_number : Stmt := topS 10
abbrev s_is_meeting : Stmt := topS 17
abbrev s_is_sequence : Stmt := topS 12
abbrev s_are_meetings : Stmt := topS 18
abbrev s_Day_init : Stmt := inClass (topS 19) 0
abbrev s_Day_need_indexX : Stmt := inClass (topS 19) 3
abbrev s_Day_withoutX : Stmt := inClass (topS 19) 4
abbrev s_Dayw_getitemwX : Stmt := inClass (topS 19) 7
abbrev s_Dayw_strw : Stmt := inClass (topS 19) 10
abbrev s_Dayw_eqw : Stmt := inClass (topS 19) 9
abbrev s_Day_having : Stmt := inClass (topS 19) 5
abbrev s_Lheard : Stmt := topS 27
abbrev s_Lday_text : Stmt := topS 26
abbrev s_law : Stmt := topS 28
def names0 : List PySem.Str := [("_wall" : PySem.Str), ("DimError" : PySem.Str), ("InvalidDay" : PySem.Str), ("InvalidText" : PySem.Str), ("NoMeeting" : PySem.Str), ("DIGITS" : PySem.Str), ("MOST_DIGITS" : PySem.Str), ("is_integer" : PySem.Str), ("is_number" : PySem.Str), ("is_bool" : PySem.Str), ("is_sequence" : PySem.Str), ("number_in" : PySem.Str), ("range_in" : PySem.Str), ("ENDING" : PySem.Str), ("is_meeting" : PySem.Str), ("are_meetings" : PySem.Str), ("Day" : PySem.Str), ("meeting_in" : PySem.Str), ("_law_seed" : PySem.Str), ("_law_choose" : PySem.Str), ("_law_one_of" : PySem.Str), ("_law_day" : PySem.Str), ("_law_day_text" : PySem.Str), ("_law_heard" : PySem.Str)]
def names : List PySem.Str := names0
def D_Lseed : DefP := ⟨fun K => He.ga K "_law_seed", ⟨("_law_seed", none), "_law_seed", "_law_seed", defArgs s_Lseed, defBody s_Lseed, defScope s_Lseed, [], []⟩⟩
def D_Lchoose : DefP := ⟨fun K => He.ga K "_law_choose", ⟨("_law_choose", none), "_law_choose", "_law_choose", defArgs s_Lchoose, defBody s_Lchoose, defScope s_Lchoose, [], []⟩⟩
def D_Lone_of : DefP := ⟨fun K => He.ga K "_law_one_of", ⟨("_law_one_of", none), "_law_one_of", "_law_one_of", defArgs s_Lone_of, defBody s_Lone_of, defScope s_Lone_of, [], []⟩⟩
def D_Lday : DefP := ⟨fun K => He.ga K "_law_day", ⟨("_law_day", none), "_law_day", "_law_day", defArgs s_Lday, defBody s_Lday, defScope s_Lday, [], []⟩⟩
def D_is_integer : DefP := ⟨fun K => He.ga K "is_integer", ⟨("is_integer", none), "is_integer", "is_integer", defArgs s_is_integer, defBody s_is_integer, defScope s_is_integer, [], []⟩⟩
def D_is_bool : DefP := ⟨fun K => He.ga K "is_bool", ⟨("is_bool", none), "is_bool", "is_bool", defArgs s_is_bool, defBody s_is_bool, defScope s_is_bool, [], []⟩⟩
def D_is_number : DefP := ⟨fun K => He.ga K "is_number", ⟨("is_number", none), "is_number", "is_number", defArgs s_is_number, defBody s_is_number, defScope s_is_number, [], []⟩⟩
def D_is_meeting : DefP := ⟨fun K => He.ga K "is_meeting", ⟨("is_meeting", none), "is_meeting", "is_meeting", defArgs s_is_meeting, defBody s_is_meeting, defScope s_is_meeting, [], []⟩⟩
def D_is_sequence : DefP := ⟨fun K => He.ga K "is_sequence", ⟨("is_sequence", none), "is_sequence", "is_sequence", defArgs s_is_sequence, defBody s_is_sequence, defScope s_is_sequence, [], []⟩⟩
def D_are_meetings : DefP := ⟨fun K => He.ga K "are_meetings", ⟨("are_meetings", none), "are_meetings", "are_meetings", defArgs s_are_meetings, defBody s_are_meetings, defScope s_are_meetings, [], []⟩⟩
def D_Day_init : DefP := ⟨fun K => He.ma K (He.ga K "Day") "__init__", ⟨("Day", some "__init__"), "__init__", "Day.__init__", defArgs s_Day_init, defBody s_Day_init, defScope s_Day_init, [.adr (He.dflAt ("Day", some "__init__") 0)], []⟩⟩
def D_Day_need_indexX : DefP := ⟨fun K => He.ma K (He.ga K "Day") "need_index", ⟨("Day", some "need_index"), "need_index", "Day.need_index", defArgs s_Day_need_indexX, defBody s_Day_need_indexX, defScope s_Day_need_indexX, [], []⟩⟩
def D_Day_withoutX : DefP := ⟨fun K => He.ma K (He.ga K "Day") "without", ⟨("Day", some "without"), "without", "Day.without", defArgs s_Day_withoutX, defBody s_Day_withoutX, defScope s_Day_withoutX, [], []⟩⟩
def D_Dayw_getitemwX : DefP := ⟨fun K => He.ma K (He.ga K "Day") "__getitem__", ⟨("Day", some "__getitem__"), "__getitem__", "Day.__getitem__", defArgs s_Dayw_getitemwX, defBody s_Dayw_getitemwX, defScope s_Dayw_getitemwX, [], []⟩⟩
def D_Dayw_strw : DefP := ⟨fun K => He.ma K (He.ga K "Day") "__str__", ⟨("Day", some "__str__"), "__str__", "Day.__str__", defArgs s_Dayw_strw, defBody s_Dayw_strw, defScope s_Dayw_strw, [], []⟩⟩
def D_Dayw_eqw : DefP := ⟨fun K => He.ma K (He.ga K "Day") "__eq__", ⟨("Day", some "__eq__"), "__eq__", "Day.__eq__", defArgs s_Dayw_eqw, defBody s_Dayw_eqw, defScope s_Dayw_eqw, [], []⟩⟩
def D_Day_having : DefP := ⟨fun K => He.ma K (He.ga K "Day") "having", ⟨("Day", some "having"), "having", "Day.having", defArgs s_Day_having, defBody s_Day_having, defScope s_Day_having, [], []⟩⟩
def D_Lheard : DefP := ⟨fun K => He.ga K "_law_heard", ⟨("_law_heard", none), "_law_heard", "_law_heard", defArgs s_Lheard, defBody s_Lheard, defScope s_Lheard, [], []⟩⟩
def D_Lday_text : DefP := ⟨fun K => He.ga K "_law_day_text", ⟨("_law_day_text", none), "_law_day_text", "_law_day_text", defArgs s_Lday_text, defBody s_Lday_text, defScope s_Lday_text, [], []⟩⟩
def D_law : DefP := ⟨fun K => He.ga K "law", ⟨("law", none), "law", "law", defArgs s_law, defBody s_law, defScope s_law, [], []⟩⟩
def fn0 : List DefP := [D_Lseed, D_Lchoose, D_Lone_of, D_Lday, D_is_integer, D_is_bool, D_is_number, D_is_meeting, D_is_sequence, D_are_meetings, D_Day_init, D_Day_need_indexX, D_Day_withoutX, D_Dayw_getitemwX, D_Dayw_strw, D_Dayw_eqw, D_Day_having, D_Lheard, D_Lday_text, D_law]
def fn : List DefP := fn0
def fa0 : List He.Fa := [.free "IndexError", .free "abs", .free "all", .free "bool", .free "int", .free "isinstance", .free "len", .free "list", .free "max", .free "min", .free "range", .free "str", .free "tuple", .glo "_law_seed", .glo "_law_choose", .glo "_law_one_of", .glo "_law_day", .glo "is_integer", .glo "InvalidDay", .glo "is_bool", .glo "is_number", .glo "is_meeting", .glo "is_sequence", .glo "are_meetings", .glo "Day", .glo "NoMeeting", .glo "InvalidText", .glo "DimError", .glo "_law_heard", .glo "_law_day_text"]
def fa1 : List He.Fa := [.str "ENDING" ⟨([32, 112, 114, 105, 118, 97, 116, 101] : List Nat).toArray⟩, .meth "Day" "need_index", .meth "Day" "without", .meth "Day" "__getitem__", .meth "Day" "__str__", .meth "Day" "__eq__", .meth "Day" "having", .mkr "Day", .glo "law"]
def fa : List He.Fa := fa0 ++ fa1
def tps : List (Str × List He.Dv) := []
def ccs : List Nat := [10]
def prs : List (Str × Str) := []
def cms : List (Str × Str) := []
def sbs : List Str := []
def fis : List (PySem.W.Frag → Addr) := [fun K => He.ma K (He.ga K "Day") "__getitem__"]
def t0s : List (PySem.W.Frag → Addr) := []
def tis : List Str := []
def cts : List Str := ["Day"]
def iss : List (Str × List (Nat × Bool)) := [("Day", is_Day)]
def xfile : Str := PySem.Challenge.pw_dimdays_k05_days_with_one_meeting_more_o.main.file
def xcs : List (Str × Str) := [("InvalidDay", "word"), ("NoMeeting", "at")]
def ems : List Nat := [1, 4, 9]
def kts : List (Str × (PySem.W.Frag → Value) × Bool) := [("NoMeeting", (fun K => .ref (He.ga K "DimError")), false), ("NoMeeting", (fun K => .type "IndexError"), true)]
def kos : List Nat := [10, 11, 12, 13, 14, 15, 16]
def chk0 (K : PySem.W.Frag) : Bool := (fa.all fun f => f.ok K) && ((tps.all fun t => He.tupB K t.1 t.2) && ((ccs.all fun c => cfB K (TBk c) (TBf c)) && ((prs.all fun t => propB K t.1 t.2) && ((cts.all fun c => ctyB K c) && ((iss.all fun t => isB TBk K t.1 t.2) && ((cms.all fun t => cmB K t.1 t.2) && ((sbs.all fun c => decide (PySem.W.subIn K (.type "str") (.ref (He.ga K c)) = some false)) && ((fis.all fun a => PySem.W.fnIn K (a K)) && ((t0s.all fun a => tup0B K (a K)) && ((tis.all fun x => tidxB K x) && ((kos.all fun c => koB K (TBk c)) && ((xcs.all fun t => xcB K xfile t.1 t.2) && (emB K TBk ems && (kts.all fun t => ktB K t.1 (t.2.1 K) t.2.2))))))))))))))
def chk (K : PySem.W.Frag) : Bool := tabFree K "law" && chk0 K
abbrev R : PySem.W.OpenRow := PySem.W.OpenLaw.row PySem.Challenge.rw_dimdays_k05_days_with_one_meeting_more_o
abbrev als : List Addr := (List.range 1400).filter fun a => a != 288
abbrev hk : PySem.W.Hook := hookL als chk fn
def ob (s : PySem.W.SharedT) : He.AlD := obsPL als chk fn (HandSHeadRun.getT s)
theorem ob_eq (s : PySem.W.SharedT) : ob s = hk.obs s.abs := obsPL_eq (HandSHeadRun.getT_eq s)
theorem run (w : World) : HandSHeadRun.RunEq R (PySem.W.view R.prog [28]) hk ob 60000 names w := by
  intro os
  kernel_rfl
end Law
namespace Py
open PySem PySem.Spec PyProof.Rows L2
theorem nbeq (a b : Nat) : Nat.beq a b = decide (a = b) := by
  by_cases h : a = b
  · subst h; simp
  · rw [decide_eq_false h]; exact Bool.eq_false_iff.mpr fun z => h (Nat.eq_of_beq_eq_true z)
def iEq : Int → Int → Bool
  | .ofNat a, .ofNat b => Nat.beq a b
  | .negSucc a, .negSucc b => Nat.beq a b
  | _, _ => false
theorem iEq_ok (i j : Int) : iEq i j = decide (i = j) := by
  cases i with
  | ofNat a => cases j with
    | ofNat b => rw [iEq, nbeq]; exact decide_eq_decide.mpr ⟨fun z => congrArg _ z, fun z => Int.ofNat.inj z⟩
    | negSucc b => simp [iEq]
  | negSucc a => cases j with
    | ofNat b => simp [iEq]
    | negSucc b => rw [iEq, nbeq]; exact decide_eq_decide.mpr ⟨fun z => congrArg _ z, fun z => Int.negSucc.inj z⟩
def lEq : List Nat → List Nat → Bool
  | [], [] => true
  | a :: as, b :: bs => Nat.beq a b && lEq as bs
  | _, _ => false
theorem lEq_ok : ∀ a b : List Nat, lEq a b = decide (a = b)
  | [], [] => rfl
  | [], _ :: _ => rfl
  | _ :: _, [] => rfl
  | a :: as, b :: bs => by
    unfold lEq
    rw [lEq_ok as bs, nbeq]
    by_cases h : a = b
    · subst h; simp
    · simp [h]
theorem str_eq_iff (a b : List Nat) : ((⟨a.toArray⟩ : Str) = ⟨b.toArray⟩) ↔ a = b := by
  constructor
  · intro h
    have := congrArg (fun s : Str => s.cps.toList) h
    simpa using this
  · intro h; rw [h]
mutual
def kEq : Val → Val → Bool
  | .int i, .int j => iEq i j
  | .tup a, .tup b => kEqs a b
  | .str a, .str b => lEq a b
  | .non, .non => true
  | .bl a, .bl b => a == b
  | .bl a, .int j => iEq (if a = true then 1 else 0) j
  | .int i, .bl b => iEq i (if b = true then 1 else 0)
  | _, _ => false
def kEqs : List Val → List Val → Bool
  | [], [] => true
  | a :: as, b :: bs => kEq a b && kEqs as bs
  | _, _ => false
end
mutual
theorem kEq_beq : ∀ (a b : Val) (m k : NestedKey), nkV a = some m → nkV b = some k → kEq a b = NestedKey.beq m k
  | a, b, m, k, ha, hb => by
    cases a <;> cases b <;> simp only [nkV, Option.some.injEq, reduceCtorEq, Option.map_eq_some_iff] at ha hb
    all_goals first
      | (subst ha; subst hb; simp [kEq, NestedKey.beq, iEq_ok, lEq_ok, str_eq_iff]; done)
      | (subst ha; obtain ⟨l, e, rfl⟩ := hb; simp [kEq, NestedKey.beq]; done)
      | (subst hb; obtain ⟨l, e, rfl⟩ := ha; simp [kEq, NestedKey.beq]; done)
      | skip
    · rename_i x y
      subst ha hb
      cases x <;> cases y <;> simp [kEq, NestedKey.beq]
    · rename_i xs ys
      obtain ⟨l, e, rfl⟩ := ha
      obtain ⟨l2, e2, rfl⟩ := hb
      rw [kEq, NestedKey.beq]
      exact kEqs_beq xs ys l l2 e e2
theorem kEqs_beq : ∀ (a b : List Val) (m k : List NestedKey), nkVs a = some m → nkVs b = some k → kEqs a b = NestedKey.beqAll m k
  | [], [], m, k, ha, hb => by simp [nkVs] at ha hb; subst ha hb; rfl
  | [], b :: bs, m, k, ha, hb => by
    simp [nkVs] at ha; subst ha
    cases k with
    | nil =>
      unfold nkVs at hb
      split at hb <;> simp at hb
    | cons x xs => rfl
  | a :: as, [], m, k, ha, hb => by
    simp [nkVs] at hb; subst hb
    cases m with
    | nil =>
      unfold nkVs at ha
      split at ha <;> simp at ha
    | cons x xs => rfl
  | a :: as, b :: bs, m, k, ha, hb => by
    unfold nkVs at ha hb
    cases qa : nkV a with
    | none => rw [qa] at ha; cases ha
    | some x =>
      cases qas : nkVs as with
      | none => rw [qa, qas] at ha; cases ha
      | some xs =>
        cases qb : nkV b with
        | none => rw [qb] at hb; cases hb
        | some y =>
          cases qbs : nkVs bs with
          | none => rw [qb, qbs] at hb; cases hb
          | some ys =>
            rw [qa, qas] at ha
            rw [qb, qbs] at hb
            cases ha; cases hb
            rw [kEqs, NestedKey.beqAll, kEq_beq a b x y qa qb, kEqs_beq as bs xs ys qas qbs]
end
theorem kEq_ok {a b : Val} {m k : NestedKey} (ha : nkV a = some m) (hb : nkV b = some k) : kEq a b = decide (m = k) := by rw [kEq_beq a b m k ha hb, NestedKey.decide_eq]
def okK : Nat → Val → Bool
  | 0, v => match v with
    | .non => true
    | .bl _ => true
    | .int _ => true
    | .str _ => true
    | _ => false
  | n + 1, v => match v with
    | .non => true
    | .bl _ => true
    | .int _ => true
    | .str _ => true
    | .tup vs => vs.all (okK n)
    | _ => false
theorem okK_all {n : Nat} (ih : ∀ v, okK n v = true → ∃ k, nkV v = some k ∧ k.depth ≤ n) : ∀ vs : List Val, vs.all (okK n) = true → ∃ l, nkVs vs = some l ∧ NestedKey.depthAll l ≤ n
  | [], _ => ⟨[], rfl, by simp [NestedKey.depthAll]⟩
  | v :: vs, h => by
    rw [List.all_cons, Bool.and_eq_true] at h
    obtain ⟨k, e1, d1⟩ := ih v h.1
    obtain ⟨l, e2, d2⟩ := okK_all ih vs h.2
    refine ⟨k :: l, by unfold nkVs; rw [e1, e2], ?_⟩
    unfold NestedKey.depthAll
    omega
theorem okK_ok : ∀ (n : Nat) (v : Val), okK n v = true → ∃ k, nkV v = some k ∧ k.depth ≤ n
  | 0, v, h => by
    cases v <;> first | (exact ⟨_, rfl, Nat.le_refl _⟩) | (simp [okK] at h)
  | n + 1, v, h => by
    cases v with
    | tup vs =>
      obtain ⟨l, e, d⟩ := okK_all (okK_ok n) vs h
      refine ⟨.tup l, by unfold nkV; rw [e]; rfl, ?_⟩
      unfold NestedKey.depth
      omega
    | non => exact ⟨_, rfl, Nat.zero_le _⟩
    | bl b => exact ⟨_, rfl, Nat.zero_le _⟩
    | int i => exact ⟨_, rfl, Nat.zero_le _⟩
    | str s => exact ⟨_, rfl, Nat.zero_le _⟩
    | _ => simp [okK] at h
def isTupV : Val → Bool
  | .tup _ => true
  | _ => false
def isLeafV : Val → Bool
  | .int _ => true
  | .str _ => true
  | _ => false
def hdIs (p : Val → Bool) : List Val → Bool
  | [] => true
  | k :: _ => p k
def fitK (ks : List Val) (q : Val) : Bool := match q with
  | .tup _ => okK 8 q && hdIs isTupV ks
  | .int _ => hdIs isLeafV ks
  | .str _ => hdIs isLeafV ks
  | _ => false
theorem KeyT.isT {k : Val} (h : KeyT k) : isTupV k = true ∧ isLeafV k = false := by
  obtain ⟨l', e, _⟩ := h
  cases k <;> simp [nkV] at e <;> exact ⟨rfl, rfl⟩
theorem KeyL.isL {k : Val} (h : KeyL k) : isTupV k = false ∧ isLeafV k = true := by
  rcases h with ⟨i, rfl⟩ | ⟨s, rfl⟩ <;> exact ⟨rfl, rfl⟩
theorem fit_ok {ks : List Val} {q : Val} (hk : KeysOk ks) (h : fitK ks q = true) : (KeyT q ∧ ∀ k ∈ ks, KeyT k) ∨ (KeyL q ∧ ∀ k ∈ ks, KeyL k) := by
  have leaf : KeyL q → hdIs isLeafV ks = true → (KeyL q ∧ ∀ k ∈ ks, KeyL k) := fun hq h2 => by
    refine ⟨hq, ?_⟩
    cases ks with
    | nil => exact fun k hk => by cases hk
    | cons k ks =>
      rcases hk.1 with z | z
      · have := (z k (by simp)).isT.2
        rw [hdIs, this] at h2; cases h2
      · exact z
  cases q with
  | tup vs =>
    unfold fitK at h
    rw [Bool.and_eq_true] at h
    obtain ⟨k, e, d⟩ := okK_ok 8 _ h.1
    have e2 := e
    unfold nkV at e2
    obtain ⟨l, e3, rfl⟩ := map_some e2
    refine .inl ⟨⟨l, e, d⟩, ?_⟩
    cases ks with
    | nil => exact fun k hk => by cases hk
    | cons k ks =>
      rcases hk.1 with z | z
      · exact z
      · have := (z k (by simp)).isL.1
        have h2 := h.2
        rw [hdIs, this] at h2; cases h2
  | int i => exact .inr (leaf (.inl ⟨i, rfl⟩) h)
  | str s => exact .inr (leaf (.inr ⟨s, rfl⟩) h)
  | _ => simp [fitK] at h
def dAt {α : Type} : List Val → List α → Val → Option α
  | k :: ks, v :: vs, q => if kEq k q = true then some v else dAt ks vs q
  | _, _, _ => none
def dAny (ks : List Val) (q : Val) : Bool := ks.any fun k => kEq k q
def dRep {α : Type} : List Val → List α → Val → α → List α
  | k :: ks, v :: vs, q, u => (if kEq k q = true then u else v) :: dRep ks vs q u
  | _, _, _, _ => []
def putKs {α : Type} (ks : List Val) (xs : List α) (q : Val) (x : α) : List α := if dAny ks q = true then xs else xs ++ [x]
def putVs {α : Type} (ks : List Val) (vs : List α) (q : Val) (u : α) : List α := if dAny ks q = true then dRep ks vs q u else vs ++ [u]
section
variable {T : Tb} {K : PySem.W.Frag} {io : Nat → Addr} {n : Nat} {F : Hp}
theorem dAt_rel {q : Val} : ∀ {ks vs : List Val} {ys : List V}, VRs T K io n F vs ys → (∀ v, dAt ks vs q = some v → ∃ y, dAt ks ys q = some y ∧ VR T K io n F v y) ∧ (dAt ks vs q = none → dAt ks ys q = none)
  | [], vs, ys, r => ⟨fun v e => by simp [dAt] at e, fun _ => by simp [dAt]⟩
  | k :: ks, _, _, .nil => ⟨fun v e => by simp [dAt] at e, fun _ => by simp [dAt]⟩
  | k :: ks, _, _, .cons a r => by
    have ih := dAt_rel (q := q) (ks := ks) r
    by_cases h : kEq k q = true
    · refine ⟨fun v e => ?_, fun e => ?_⟩
      · simp only [dAt, h, if_true] at e ⊢
        cases e; exact ⟨_, rfl, a⟩
      · simp only [dAt, h, if_true] at e; cases e
    · refine ⟨fun v e => ?_, fun e => ?_⟩
      · simp only [dAt, h] at e ⊢; exact ih.1 v e
      · simp only [dAt, h] at e ⊢; exact ih.2 e
end
end Py
namespace Py
open PySem PySem.Spec PyProof.Rows L2
section
variable {prog : Program} {w : World} {KT : Type} [DecidableEq KT] {A : Around} {E : Value → Shared → Prop} {s : Shared} {d a : Addr} {o : PySem.Obj} {es : Array DictEntry} {ep : Nat}
structure Stored (h h' : Heap) (d : Addr) (es es' : Array DictEntry) (ep : Nat) (l : List DictEntry) : Prop where
  raw : ∃ ep', h'.DictRaw d es' ep' ∧ ep' + es.size = ep + es'.size
  is_ : es'.toList = l
  same : Heap.SameBut d h h'
end
end Py
namespace Py
open PySem PySem.Spec PyProof.Rows L2
section
variable {X : Cx} {pins : List (Addr × PySem.Obj)} {σ : L2.St} {H : Hp} {s : Shared} {T : Tb} {io : Nat → Addr} {n : Nat} {F : Hp}
mutual
theorem nkV_is (I : L2.Inv X pins σ H s) (hF : ∀ b o, F b = some o → H b = some o) : ∀ (v : Val) (k : NestedKey) (x : V) (u : Value), nkV v = some k → VR T X.K io n F v x → RelV x u → NestedIs s.heap k u
  | .non, k, x, u, e, vr, r => by cases e; cases vr; cases (show u = Value.none from r); exact .none
  | .bl b, k, x, u, e, vr, r => by cases e; cases vr; cases (show u = Value.bool b from r); exact .bool rfl
  | .int i, k, x, u, e, vr, r => by cases e; cases vr; obtain ⟨t, rfl⟩ := r; exact .int i t
  | .str z, k, x, u, e, vr, r => by cases e; cases vr; obtain ⟨t, rfl⟩ := r; exact .text _ t
  | .tup vs, k, x, u, e, vr, r => by
    unfold nkV at e
    obtain ⟨l, el, rfl⟩ := map_some e
    cases vr with
    | @tup _ a xs h r' =>
      cases (show u = Value.ref a from r)
      obtain ⟨its, rv, ⟨ob, e1, e2, m, e3⟩, _⟩ := I.tuple (sqT_mono hF h)
      exact .tup e1 e2 e3 (by simpa using nkVs_is I hF vs l xs its el r' rv)
  | .lst _, _, _, _, e, _, _ => by simp [nkV] at e
  | .obj _ _, _, _, _, e, _, _ => by simp [nkV] at e
  | .ref _, _, _, _, e, _, _ => by simp [nkV] at e
  | .glo _, _, _, _, e, _, _ => by simp [nkV] at e
  | .dct _ _, _, _, _, e, _, _ => by simp [nkV] at e
theorem nkVs_is (I : L2.Inv X pins σ H s) (hF : ∀ b o, F b = some o → H b = some o) : ∀ (vs : List Val) (ks : List NestedKey) (xs : List V) (us : List Value), nkVs vs = some ks → VRs T X.K io n F vs xs → Vals xs us → NestedAll s.heap ks us
  | [], ks, xs, us, e, vr, r => by
    simp [nkVs] at e; subst e
    cases vr
    cases r; exact .nil
  | v :: vs, ks, xs, us, e, vr, r => by
    unfold nkVs at e
    cases q : nkV v with
    | none => rw [q] at e; cases e
    | some k =>
      cases q2 : nkVs vs with
      | none => rw [q, q2] at e; cases e
      | some ks =>
        rw [q, q2] at e
        cases e
        cases vr with
        | cons a t =>
          cases r with
          | cons r1 r2 => exact .cons (nkV_is I hF v _ _ _ q a r1) (nkVs_is I hF vs _ _ _ q2 t r2)
end
theorem do_at {a : Addr} {es : Array DictEntry} {ep : Nat} (I : L2.Inv X pins σ H s) (e : H a = some (DO a es ep)) : (a == sysModules) = false ∧ es.size ≤ sizeLine ∧ s.heap.DictRaw a es ep := by
  have z := I.hok a _ e
  obtain ⟨⟨h1, h2, h3⟩, _⟩ := (z : ObjOk X.prog X.w H s.heap a (.ext fun h => (a == sysModules) = false ∧ es.size ≤ sizeLine ∧ ∃ o, h.get? a = some o ∧ o.ExactDict ∧ o.data = .dict es ep))
  exact ⟨h1, h2, h3⟩
end
def ZR : List Val → List V → List V → List (NestedKey × Addr × Value) → Prop
  | [], [], [], [] => True
  | k :: ks, x :: xs, y :: ys, z :: zs => (nkV k = some z.1 ∧ x = .ref z.2.1 ∧ RelV y z.2.2) ∧ ZR ks xs ys zs
  | _, _, _, _ => False
section
variable {T : Tb} {K : PySem.W.Frag} {io : Nat → Addr} {n : Nat} {F : Hp} {P : Program} {w : World}
theorem KeyT.tupV {k : Val} {x : V} (h : KeyT k) (r : VR T K io n F k x) : ∃ a, x = .ref a := by
  obtain ⟨l, e, _⟩ := h
  cases r <;> first | (exact ⟨_, rfl⟩) | (simp [nkV] at e)
theorem zr_of : ∀ {es : List DictEntry} {ks : List Val} {xs ys : List V}, (∀ k ∈ ks, KeyT k) → Ents w es ks xs ys → VRs T K io n F ks xs → ∃ zs, ZR ks xs ys zs ∧ es = zs.map (entryOfKey (nestedKind P w))
  | [], [], [], [], _, _, _ => ⟨[], trivial, rfl⟩
  | e :: es, k :: ks, x :: xs, y :: ys, hk, ⟨⟨h1, h2, h3⟩, h4⟩, .cons a r => by
    obtain ⟨zs, z1, z2⟩ := zr_of (fun q hq => hk q (List.mem_cons_of_mem _ hq)) h4 r
    obtain ⟨b, rfl⟩ := (hk k (by simp)).tupV a
    obtain ⟨l, el, _⟩ := hk k (by simp)
    refine ⟨(.tup l, b, e.val) :: zs, ⟨⟨el, rfl, h3⟩, z1⟩, ?_⟩
    rw [List.map_cons, ← z2]
    congr 1
    obtain ⟨eh, ek, ev⟩ := e
    cases (show ek = Value.ref b from h2)
    have : eh = (NestedKey.tup l).hash w := by
      have h1' : eh = hashV w k := h1
      rw [h1', hashV, el]
    rw [this]; rfl
  | [], [], [], _ :: _, _, h, _ => False.elim h
  | [], [], _ :: _, _, _, h, _ => False.elim h
  | [], _ :: _, _, _, _, h, _ => False.elim h
  | _ :: _, [], _, _, _, h, _ => False.elim h
  | _ :: _, _ :: _, [], _, _, h, _ => False.elim h
  | _ :: _, _ :: _, _ :: _, [], _, h, _ => False.elim h
theorem zr_keys : ∀ {ks : List Val} {xs ys : List V} {zs : List (NestedKey × Addr × Value)}, ZR ks xs ys zs → ks.map nkV = zs.map fun z => some z.1
  | [], [], [], [], _ => rfl
  | k :: ks, x :: xs, y :: ys, z :: zs, ⟨⟨h1, _, _⟩, h4⟩ => by rw [List.map_cons, List.map_cons, h1, zr_keys h4]
  | [], [], [], _ :: _, h => False.elim h
  | [], [], _ :: _, _, h => False.elim h
  | [], _ :: _, _, _, h => False.elim h
  | _ :: _, [], _, _, h => False.elim h
  | _ :: _, _ :: _, [], _, h => False.elim h
  | _ :: _, _ :: _, _ :: _, [], h => False.elim h
theorem zr_nodup {ks : List Val} {xs ys : List V} {zs : List (NestedKey × Addr × Value)} (z : ZR ks xs ys zs) (h : (ks.map nkV).Nodup) : (zs.map (·.1)).Nodup := by
  rw [zr_keys z] at h
  have : (zs.map fun z => some z.1) = (zs.map (·.1)).map some := by rw [List.map_map]; rfl
  rw [this] at h
  rw [List.Nodup, List.pairwise_map] at h
  exact h.imp fun hne e => hne (congrArg some e)
theorem zr_at {q : Val} {m : NestedKey} (hq : nkV q = some m) : ∀ {ks : List Val} {xs ys : List V} {zs : List (NestedKey × Addr × Value)}, ZR ks xs ys zs → RelO (dAt ks ys q) ((atKey zs m).map (·.2))
  | [], [], [], [], _ => trivial
  | k :: ks, x :: xs, y :: ys, z :: zs, ⟨⟨h1, h2, h3⟩, h4⟩ => by
    have ih := zr_at hq h4
    have e := kEq_ok h1 hq
    by_cases hz : z.1 = m
    · have : kEq k q = true := by rw [e]; exact decide_eq_true hz
      simp only [dAt, this, if_true, atKey, List.find?_cons, hz, decide_true, Option.map_some]
      exact h3
    · have : kEq k q = false := by rw [e]; exact decide_eq_false hz
      simp only [dAt, this, Bool.false_eq_true, if_false, atKey, List.find?_cons, hz, decide_false]
      exact ih
  | [], [], [], _ :: _, h => False.elim h
  | [], [], _ :: _, _, h => False.elim h
  | [], _ :: _, _, _, h => False.elim h
  | _ :: _, [], _, _, h => False.elim h
  | _ :: _, _ :: _, [], _, h => False.elim h
  | _ :: _, _ :: _, _ :: _, [], h => False.elim h
end
def lk : Val → Option Key
  | .int i => some (.inl i)
  | .str s => some (.inr ⟨s.toArray⟩)
  | _ => none
def nkK : Key → NestedKey
  | .inl i => .num i
  | .inr x => .text x
theorem nkK_inj {a b : Key} (h : nkK a = nkK b) : a = b := by
  cases a <;> cases b <;> simp [nkK] at h <;> rw [h]
theorem lk_nk {v : Val} {k : Key} (h : lk v = some k) : nkV v = some (nkK k) := by
  cases v <;> simp [lk] at h <;> subst h <;> rfl
theorem KeyL.lk {v : Val} (h : KeyL v) : ∃ k, Py.lk v = some k := by rcases h with ⟨i, rfl⟩ | ⟨s, rfl⟩ <;> exact ⟨_, rfl⟩
theorem lk_eq {a b : Val} {m k : Key} (ha : lk a = some m) (hb : lk b = some k) : kEq a b = decide (m = k) := by
  rw [kEq_ok (lk_nk ha) (lk_nk hb)]
  exact decide_eq_decide.mpr ⟨nkK_inj, fun e => congrArg _ e⟩
def ZL : List Val → List V → List V → List DictEntry → List (Key × Value) → Prop
  | [], [], [], [], [] => True
  | k :: ks, x :: xs, y :: ys, e :: es, z :: zs => (lk k = some z.1 ∧ RelV x e.key ∧ keyIs z.1 e.key = true ∧ e.val = z.2 ∧ RelV y z.2) ∧ ZL ks xs ys es zs
  | _, _, _, _, _ => False
section
variable {T : Tb} {K : PySem.W.Frag} {io : Nat → Addr} {n : Nat} {F : Hp} {P : Program} {w : World}
theorem lk_is {v : Val} {k : Key} {x : V} {u : Value} (h : lk v = some k) (r : VR T K io n F v x) (q : RelV x u) : keyIs k u = true := by
  cases r <;> simp [lk] at h
  · subst h; obtain ⟨t, rfl⟩ := q; exact keyIs_int _ _
  · subst h; obtain ⟨t, rfl⟩ := q; exact keyIs_str _ _
theorem hash_lk {v : Val} {k : Key} (h : lk v = some k) : hashV w v = (mixKind P w).hash k := by
  unfold hashV
  rw [lk_nk h]
  cases k <;> rfl
theorem zl_of (P : Program) : ∀ {es : List DictEntry} {ks : List Val} {xs ys : List V}, (∀ k ∈ ks, KeyL k) → Ents w es ks xs ys → VRs T K io n F ks xs → ∃ zs, ZL ks xs ys es zs ∧ ∀ e ∈ es, ∃ k, (mixKind P w).is k e.key = true ∧ e.hash = (mixKind P w).hash k
  | [], [], [], [], _, _, _ => ⟨[], trivial, fun e h => by cases h⟩
  | e :: es, k :: ks, x :: xs, y :: ys, hk, ⟨⟨h1, h2, h3⟩, h4⟩, .cons a r => by
    obtain ⟨zs, z1, z2⟩ := zl_of P (fun q hq => hk q (List.mem_cons_of_mem _ hq)) h4 r
    obtain ⟨m, em⟩ := (hk k (by simp)).lk
    refine ⟨(m, e.val) :: zs, ⟨⟨em, h2, lk_is em a h2, rfl, h3⟩, z1⟩, fun e' h' => ?_⟩
    rcases List.mem_cons.mp h' with rfl | h'
    · exact ⟨m, lk_is em a h2, by rw [h1, hash_lk em]⟩
    · exact z2 e' h'
  | [], [], [], _ :: _, _, h, _ => False.elim h
  | [], [], _ :: _, _, _, h, _ => False.elim h
  | [], _ :: _, _, _, _, h, _ => False.elim h
  | _ :: _, [], _, _, _, h, _ => False.elim h
  | _ :: _, _ :: _, [], _, _, h, _ => False.elim h
  | _ :: _, _ :: _, _ :: _, [], _, h, _ => False.elim h
end
end Py
namespace Py
open PySem PySem.Spec PyProof.Rows L2
def LK : List Val → List V → List (Key × Value) → Prop
  | [], [], [] => True
  | k :: ks, y :: ys, z :: zs => (lk k = some z.1 ∧ RelV y z.2) ∧ LK ks ys zs
  | _, _, _ => False
section
variable {T : Tb} {K : PySem.W.Frag} {io : Nat → Addr} {n : Nat} {F : Hp} {P : Program} {w : World}
theorem zl_lk (P : Program) (w : World) : ∀ {ks : List Val} {xs ys : List V} {es : List DictEntry} {zs : List (Key × Value)}, ZL ks xs ys es zs → LK ks ys zs ∧ Pairs (mixKind P w) es zs
  | [], [], [], [], [], _ => ⟨trivial, .nil⟩
  | k :: ks, x :: xs, y :: ys, e :: es, z :: zs, ⟨⟨h1, h2, h3, h4, h5⟩, h6⟩ => by
    obtain ⟨a, b⟩ := zl_lk P w h6
    exact ⟨⟨⟨h1, h5⟩, a⟩, .cons h3 h4 b⟩
  | [], [], [], [], _ :: _, h => False.elim h
  | [], [], [], _ :: _, _, h => False.elim h
  | [], [], _ :: _, _, _, h => False.elim h
  | [], _ :: _, _, _, _, h => False.elim h
  | _ :: _, [], _, _, _, h => False.elim h
  | _ :: _, _ :: _, [], _, _, h => False.elim h
  | _ :: _, _ :: _, _ :: _, [], _, h => False.elim h
  | _ :: _, _ :: _, _ :: _, _ :: _, [], h => False.elim h
theorem lk_keys : ∀ {ks : List Val} {ys : List V} {zs : List (Key × Value)}, LK ks ys zs → ks.map nkV = zs.map fun z => some (nkK z.1)
  | [], [], [], _ => rfl
  | k :: ks, y :: ys, z :: zs, ⟨⟨h1, _⟩, h4⟩ => by rw [List.map_cons, List.map_cons, lk_nk h1, lk_keys h4]
  | [], [], _ :: _, h => False.elim h
  | [], _ :: _, _, h => False.elim h
  | _ :: _, [], _, h => False.elim h
  | _ :: _, _ :: _, [], h => False.elim h
theorem lk_nodup {ks : List Val} {ys : List V} {zs : List (Key × Value)} (z : LK ks ys zs) (h : (ks.map nkV).Nodup) : (zs.map (·.1)).Nodup := by
  rw [lk_keys z] at h
  have : (zs.map fun z => some (nkK z.1)) = (zs.map (·.1)).map (fun k => some (nkK k)) := by rw [List.map_map]; rfl
  rw [this] at h
  rw [List.Nodup, List.pairwise_map] at h
  exact h.imp fun hne e => hne (congrArg (fun k => some (nkK k)) e)
theorem lk_at {q : Val} {m : Key} (hq : lk q = some m) : ∀ {ks : List Val} {ys : List V} {zs : List (Key × Value)}, LK ks ys zs → RelO (dAt ks ys q) (valueAt zs m)
  | [], [], [], _ => trivial
  | k :: ks, y :: ys, z :: zs, ⟨⟨h1, h3⟩, h4⟩ => by
    have ih := lk_at hq h4
    have e := lk_eq h1 hq
    by_cases hz : z.1 = m
    · have : kEq k q = true := by rw [e]; exact decide_eq_true hz
      simp only [dAt, this, if_true, valueAt, List.find?_cons, hz, decide_true, Option.map_some]
      exact h3
    · have : kEq k q = false := by rw [e]; exact decide_eq_false hz
      simp only [dAt, this, Bool.false_eq_true, if_false, valueAt, List.find?_cons, hz, decide_false]
      exact ih
  | [], [], _ :: _, h => False.elim h
  | [], _ :: _, _, h => False.elim h
  | _ :: _, [], _, h => False.elim h
  | _ :: _, _ :: _, [], h => False.elim h
end
structure DGx (T : Tb) (K : PySem.W.Frag) (io : Nat → Addr) (n : Nat) (F H : Hp) (a : Addr) (ks : List Val) (xs ys : List V) (es : Array DictEntry) (ep : Nat) : Prop where
  at_ : H a = some (DO a es ep)
  ok : KeysOk ks
  en : Ents T.w es.toList ks xs ys
  rk : VRs T K io n F ks xs
theorem Ents.len {w : World} : ∀ {es : List DictEntry} {ks : List Val} {xs ys : List V}, Ents w es ks xs ys → ks.length = es.length ∧ xs.length = es.length ∧ ys.length = es.length
  | [], [], [], [], _ => ⟨rfl, rfl, rfl⟩
  | e :: es, k :: ks, x :: xs, y :: ys, ⟨_, h⟩ => by simp [Ents.len h]
  | [], [], [], _ :: _, h => False.elim h
  | [], [], _ :: _, _, h => False.elim h
  | [], _ :: _, _, _, h => False.elim h
  | _ :: _, [], _, _, h => False.elim h
  | _ :: _, _ :: _, [], _, h => False.elim h
  | _ :: _, _ :: _, _ :: _, [], h => False.elim h
section
variable {X : Cx} {pins : List (Addr × PySem.Obj)} {σ : L2.St} {H : Hp} {s : Shared} {T : Tb} {io : Nat → Addr} {n : Nat} {F : Hp} {a : Addr} {ks : List Val} {xs ys : List V} {es : Array DictEntry} {ep : Nat} {q : Val} {y : V} {u : Value} {A : Around} {E : Value → Shared → Prop}
theorem dgx_T (I : L2.Inv X pins σ H s) (hw : T.w = X.w) (hF : ∀ b o, F b = some o → H b = some o) (g : DGx T X.K io n F H a ks xs ys es ep) (hk : ∀ k ∈ ks, KeyT k) : ∃ zs, ZR ks xs ys zs ∧ s.heap.DictOfH (nestedKind X.prog X.w) a zs ∧ (a == sysModules) = false ∧ zs.length ≤ sizeLine := by
  obtain ⟨h1, h2, o, e1, e2, e3⟩ := do_at I g.at_
  obtain ⟨zs, z1, z2⟩ := zr_of (P := X.prog) hk (hw ▸ g.en) g.rk
  have hz : zs.length = es.size := by
    have := congrArg List.length z2
    simpa using this.symm
  refine ⟨zs, z1, ⟨o, es, ep, e1, e2, e3, z2, ?_, zr_nodup z1 g.ok.2⟩, h1, by rw [hz]; exact h2⟩
  have : ∀ {ks : List Val} {xs ys : List V} {zs : List (NestedKey × Addr × Value)}, (∀ k ∈ ks, KeyT k) → VRs T X.K io n F ks xs → ZR ks xs ys zs → ∀ x ∈ zs, (nestedKind X.prog X.w).is s.heap x.1 x.2.1 := by
    intro ks
    induction ks with
    | nil =>
      intro xs ys zs _ r z x hx
      cases r
      cases ys <;> cases zs <;> first | (exact False.elim z) | (cases hx)
    | cons k ks ih =>
      intro xs ys zs hk r z x hx
      cases r with
      | cons r1 r2 =>
        cases ys with
        | nil => exact False.elim z
        | cons y ys =>
          cases zs with
          | nil => exact False.elim z
          | cons z' zs =>
            obtain ⟨⟨a1, a2, a3⟩, a4⟩ := z
            rcases List.mem_cons.mp hx with rfl | hx
            · obtain ⟨l, el, dl⟩ := hk k (by simp)
              have : x.1 = NestedKey.tup l := by rw [el] at a1; exact (Option.some.inj a1).symm
              subst a2
              exact ⟨nkV_is I hF k _ _ _ a1 r1 rfl, by rw [this]; exact dl⟩
            · exact ih (fun k hk' => hk k (List.mem_cons_of_mem _ hk')) r2 a4 x hx
  exact this hk g.rk z1
theorem dgx_L (I : L2.Inv X pins σ H s) (hw : T.w = X.w) (g : DGx T X.K io n F H a ks xs ys es ep) (hk : ∀ k ∈ ks, KeyL k) : ∃ zs, LK ks ys zs ∧ s.heap.DictOf (mixKind X.prog X.w) a zs ∧ (a == sysModules) = false ∧ zs.length ≤ sizeLine := by
  obtain ⟨h1, h2, o, e1, e2, e3⟩ := do_at I g.at_
  obtain ⟨zs, z1, z2⟩ := zl_of X.prog hk (hw ▸ g.en) g.rk
  obtain ⟨l1, l2⟩ := zl_lk X.prog X.w z1
  refine ⟨zs, l1, ⟨o, es, ep, e1, e2, e3, fun e he => z2 e (by simpa using he), l2, lk_nodup l1 g.ok.2⟩, h1, ?_⟩
  rw [← l2.length]; simpa using h2
theorem keyT_is (I : L2.Inv X pins σ H s) (hF : ∀ b o, F b = some o → H b = some o) (hq : KeyT q) (rq : VR T X.K io n F q y) (ry : RelV y u) : ∃ m b, nkV q = some m ∧ y = .ref b ∧ u = .ref b ∧ (nestedKind X.prog X.w).is s.heap m b := by
  obtain ⟨b, rfl⟩ := hq.tupV rq
  obtain ⟨l, el, dl⟩ := hq
  cases (show u = Value.ref b from ry)
  exact ⟨_, b, el, rfl, rfl, nkV_is I hF q _ _ _ el rq rfl, dl⟩
theorem room8 (hu : A.units + 64 < cLine) : (nestedKind X.prog X.w).room A.in1 := by show A.units + 1 + 8 < cLine; omega
theorem x_get {z : V} {Q : Value → Shared → Prop} (hu : A.units + 64 < cLine) (I : L2.Inv X pins σ H s) (hw : T.w = X.w) (hF : ∀ b o, F b = some o → H b = some o) (g : DGx T X.K io n F H a ks xs ys es ep) (rq : VR T X.K io n F q y) (ry : RelV y u) (fit : fitK ks q = true) (hz : dAt ks ys q = some z)
    (h : ∀ w' s', L2.Inv X pins σ H s' → RelV z w' → Q w' s') : wpAny (model X.prog X.w) A (getItem (.ref a) u) Q E s := by
  rcases fit_ok g.ok fit with ⟨h1, h2⟩ | ⟨h1, h2⟩
  · obtain ⟨zs, z1, dd, hd, _⟩ := dgx_T I hw hF g h2
    obtain ⟨m, b, em, rfl, rfl, hk⟩ := keyT_is I hF h1 rq ry
    have r := zr_at em z1
    rw [hz] at r
    obtain ⟨w', hw', rw'⟩ := RelO.some_of (v := z) r
    obtain ⟨p, hp, hp2⟩ := Option.map_eq_some_iff.mp hw'
    refine wpAny_getItem_heap (room8 hu) hk dd hp ?_
    rw [hp2]
    exact h w' _ (I.tok _) rw'
  · obtain ⟨zs, z1, dd, hd, _⟩ := dgx_L I hw g h2
    obtain ⟨m, em⟩ := h1.lk
    have r := lk_at em z1
    rw [hz] at r
    obtain ⟨w', hw', rw'⟩ := RelO.some_of (v := z) r
    exact wpAny_getItem_of (knd := mixKind X.prog X.w) (lk_is em rq ry) dd.mapOf hw' (h w' _ (I.tok _) rw')
structure PutOk (X : Cx) (pins : List (Addr × PySem.Obj)) (σ : L2.St) (H : Hp) (T : Tb) (a : Addr) (es : Array DictEntry) (ep : Nat) (ks : List Val) (xs ys : List V) (q : Val) (y z : V) (s' : Shared) : Prop where
  ex : ∃ es' ep', Ents T.w es'.toList (putKs ks ks q q) (putKs ks xs q y) (putVs ks ys q z) ∧ (ep = es.size → ep' = es'.size) ∧ L2.Inv X pins σ (upd H a (DO a es' ep')) s'
end
end Py
namespace Py
open PySem PySem.Spec PyProof.Rows L2
def dctOf (h : Hh) : Val → Option (List Val × List Val)
  | .dct ks vs => some (ks, vs)
  | .ref k => (match h[k]? with
    | some (.dct ks vs) => some (ks, vs)
    | _ => none)
  | _ => none
theorem dctOf_ok {T : Tb} {K : PySem.W.Frag} {io : Nat → Addr} {F H : Hp} {h : Hh} {v : Val} {x : V} {ks vs : List Val} (sr : SR T K io h F H) (r : VR T K io h.length F v x) (e : dctOf h v = some (ks, vs)) :
    ∃ a xs ys es ep, x = .ref a ∧ DGx T K io h.length F H a ks xs ys es ep ∧ VRs T K io h.length F vs ys := by
  unfold dctOf at e
  cases r with
  | @dct ks' vs' a es ep xs ys q hk he r1 r2 =>
    cases e
    exact ⟨a, xs, ys, es, ep, rfl, ⟨sr.sub _ _ q, hk, he, r1⟩, r2⟩
  | ref k hk =>
    dsimp only at e
    cases ek : h[k]? with
    | none => rw [ek] at e; cases e
    | some ob =>
      rw [ek] at e
      cases ob with
      | dct ks' vs' =>
        cases e
        obtain ⟨es, ep, xs, ys, ea, hkk, he, r1, r2⟩ := sr.obj k _ ek
        exact ⟨io k, xs, ys, es, ep, rfl, ⟨ea, hkk.2, he, r1⟩, r2⟩
      | _ => cases e
  | _ => cases e
def DHas (K : PySem.W.Frag) (w : World) (H : Hp) (y : V) (a : Addr) (o : Option V) : Prop := ∃ (T : Tb) (io : Nat → Addr) (n : Nat) (F : Hp) (ks : List Val) (xs ys : List V) (es : Array DictEntry) (ep : Nat) (q : Val),
  T.w = w ∧ (∀ b u, F b = some u → H b = some u) ∧ DGx T K io n F H a ks xs ys es ep ∧ VR T K io n F q y ∧ fitK ks q = true ∧ o = dAt ks ys q
section
variable {X : Cx}
end
def gInX : G2 := fun h v u => match dctOf h u with
  | some (ks, vs) => if fitK ks v = true then some (.bl (dAt ks vs v).isSome) else none
  | none => gInA h v u
section
variable {T : Tb} {K : PySem.W.Frag} {w : World}
end
theorem pe_or {X : Cx} {e : Expr} {t u : TE} (h1 : PE X e t) (h2 : PE X e u) : PE X e (fun σ H Q => t σ H Q ∨ u σ H Q) := ⟨fun pins s σ H Q I q => q.elim (h1.run pins s σ H Q I) (h2.run pins s σ H Q I)⟩
def gIxX : G2 := fun h v u => match dctOf h v with
  | some (ks, vs) => if fitK ks u = true then dAt ks vs u else none
  | none => gIx h v u
section
variable {T : Tb} {X : Cx} {W : WX} {a b c e o i : Expr} {fa fb fc fe fo fi : Ex} {pos : Pos}
def tDGetX (K : PySem.W.Frag) (w : World) (td ty : TE) : TE := fun σ H Q => td σ H fun x H1 => ty σ H1 fun y H2 => ∃ a v, x = .ref a ∧ DHas K w H2 y a (some v) ∧ Q v H2
theorem dhas_type {pins : List (Addr × PySem.Obj)} {σ : L2.St} {H : Hp} {s : Shared} {y : V} {ad : Addr} {ov : Option V} (I : L2.Inv X pins σ H s) (g : DHas X.K X.w H y ad ov) : s.TypeIs (.ref ad) "dict" := by
  obtain ⟨T, io, n, F, ks, xs, ys, es, ep, q, hw, hF, g, rq, fit, rfl⟩ := g
  exact (do_at I g.at_).2.2.typeIs
theorem pe_dgetX {td ty : TE} (hu : X.A.units + 64 < cLine) (ho : PE X o td) (hi : PE X i ty) (hs : NoSl i) : PE X (.Subscript o i pos) (tDGetX X.K X.w td ty) := by
  refine ⟨fun pins s σ H Q I h => subD_of PySem.F.slot_dict_getitem.lookup hs (thn (ho.run pins s σ H _ I h) ?_)⟩
  rintro u s1 ⟨x, H1, I1, rx, q1⟩
  refine thn (hi.run pins s1 σ H1 _ I1 q1) ?_
  rintro iv s2 ⟨y, H2, I2, ry, ad, v, rfl, g, q2⟩
  obtain rfl : u = Value.ref ad := rx
  refine ⟨dhas_type I2 g, ?_⟩
  obtain ⟨T, io, n, F, ks, xs, ys, es, ep, q, hw, hF, g, rq, fit, e⟩ := g
  exact x_get hu I2 hw hF g rq ry fit e.symm fun w' s3 I3 rw' => ⟨v, H2, I3, rw', q2⟩
theorem xOp_ix (sg : Sg) (h : Hh) : (∃ v h1 u h2 p, fa sg h = .ok v h1 ∧ fb sg h1 = .ok u h2 ∧ dctOf h2 v = some p) ∨ xOp gIxX fa fb sg h = xOp gIx fa fb sg h := by
  unfold xOp
  cases e1 : fa sg h with
  | bad => exact .inr rfl
  | exc c fs h1 => exact .inr rfl
  | ok v h1 =>
    cases e2 : fb sg h1 with
    | bad => right; simp [Res.bind, e2]
    | exc c fs h2 => right; simp [Res.bind, e2]
    | ok u h2 =>
      cases ed : dctOf h2 v with
      | some p => exact .inl ⟨v, h1, u, h2, p, rfl, e2, ed⟩
      | none => right; simp [Res.bind, e2, gIxX, ed]
theorem je_ixX (hw : T.w = X.w) (hu : X.A.units + 64 < cLine) (ha : JE T X W a fa) (hb : JE T X W b fb) (hs : PlainIx b := by exact fun _ _ => rfl) (hs2 : NoSl b := by exact fun _ _ => rfl) : JE T X W (.Subscript a b pos) (xOp gIxX fa fb) := by
  refine pe_imp (pe_or (je_ix ha hb hs) (pe_dgetX hu ha hb hs2)) fun σ H Q ⟨io, h, F, sg, sr, rs, w⟩ => ?_
  rcases xOp_ix (fa := fa) (fb := fb) sg h with ⟨v, h1, u, h2, ⟨ks, vs⟩, e1, e2, ed⟩ | q
  · refine .inr ⟨io, h, F, sg, sr, rs, ?_⟩
    unfold xOp at w
    rw [e1] at w ⊢
    intro io1 F1 H1 x st1 sr1 vr
    have w1 := Wants.rebase w st1 sr1
    refine ⟨io1, h1, F1, sg, sr1, rs.step st1, ?_⟩
    simp only [Res.bind, e2] at w1
    rw [e2]
    intro io2 F2 H2 y st2 sr2 vu
    have w2 := Wants.rebase w1 st2 sr2
    simp only [gIxX, ed] at w2
    obtain ⟨z, ez, w3⟩ := wants_ofO w2
    split at ez
    · rename_i fit
      obtain ⟨ad, xs, ys, es, ep, rfl, g, r2⟩ := dctOf_ok sr2 (vr.step st2) ed
      obtain ⟨zz, ezz, rz⟩ := (dAt_rel (q := u) (ks := ks) r2).1 z ez
      exact ⟨ad, zz, rfl, ⟨T, io2, h2.length, F2, ks, xs, ys, es, ep, u, hw, sr2.sub, g, vu, fit, ezz.symm⟩, w3 io2 F2 H2 zz .refl sr2 rz⟩
    · cases ez
  · rw [q] at w
    exact .inl ⟨io, h, F, sg, sr, rs, w⟩
end
section
variable {T : Tb} {X : Cx} {W : WX} {pos : Pos}
theorem keys0 : KeysOk [] := ⟨.inl fun k hk => (by cases hk), List.nodup_nil⟩
end
end Py
namespace Py
open PySem PySem.Spec PyProof.Rows L2
def ItX (d : Addr) (ep n0 : Nat) (pick : DictEntry → Value) : It where
  go := fun i H => ∃ es e x, H d = some (DO d es ep) ∧ es.size = n0 ∧ es[i]? = some e ∧ RelV x (pick e)
  yld := fun i H x H' => H' = H ∧ ∀ es e, H d = some (DO d es ep) → es[i]? = some e → RelV x (pick e)
  stop := fun i H => ∃ es, H d = some (DO d es ep) ∧ es.size = n0 ∧ n0 ≤ i
def ItXi (d : Addr) (ep n0 : Nat) : It where
  go := fun i H => ∃ es e x y, H d = some (DO d es ep) ∧ es.size = n0 ∧ es[i]? = some e ∧ RelV x e.key ∧ RelV y e.val
  yld := fun i H z H' => ∃ p x y, z = .ref p ∧ H p = none ∧ H' = upd H p (.tup [x, y]) ∧ ∀ es e, H d = some (DO d es ep) → es[i]? = some e → RelV x e.key ∧ RelV y e.val
  stop := fun i H => ∃ es, H d = some (DO d es ep) ∧ es.size = n0 ∧ n0 ≤ i
theorem raw_same {h : Heap} {d : Addr} {es es' : Array DictEntry} {ep ep' : Nat} (a : h.DictRaw d es ep) (b : h.DictRaw d es' ep') : es = es' := by
  obtain ⟨o, h1, _, h3⟩ := a
  obtain ⟨o', k1, _, k3⟩ := b
  rw [h1] at k1; cases k1
  rw [h3] at k3; injection k3
section
variable {P : Program} {w : World} {K : PySem.W.Frag} {tg : Expr} {d : Addr} {ep n0 : Nat}
theorem turn_kx (it : Addr) : Turn P w K tg (ItX d ep n0 (·.key)) [it] it (fun i h => h.IsKeyIter it d i n0 ep) where
  mem := List.mem_singleton.mpr rfl
  obj := fun i h st b hb => by
    obtain rfl := List.mem_singleton.mp hb
    obtain ⟨oi, z, _, dd⟩ := st
    exact ⟨oi, z, fun v q => by rw [dd] at q; cases q⟩
  keep := fun i h h' st k => st.at fun oi z => k it (List.mem_singleton.mpr rfl) oi z
  item := by
    intro X eP ew eK hc i pins s σ H E I hf st ⟨es, e, x, hd, hz, he, rx⟩
    subst eP ew eK hz
    obtain ⟨f0, f1, _, f3, f4, f5⟩ := hf it (List.mem_singleton.mpr rfl)
    obtain ⟨_, _, hm⟩ := do_at I hd
    obtain ⟨hi, ee⟩ := Array.getElem?_eq_some_iff.mp he
    refine wpAny_pyNext_keys_item_raw st hm hi fun h' st' sb => ⟨_, rfl, ?_⟩
    obtain ⟨oi, z, c, dd⟩ := id st'
    refine go_of (s := { s with heap := h' }) z c dd (by decide) ⟨x, H, I.turned (t' := s.toks) (fun b ob hb q => (sb.2 b hb).trans q) f0 f1 f3 f4 f5, by rw [ee]; exact rx, ⟨rfl, fun es' e' hd' he' => ?_⟩, st', fun b hb => (hf b hb).1⟩
    obtain rfl := raw_same hm (do_at I hd').2.2
    rw [he] at he'; cases he'; exact rx
  done := by
    intro X eP ew eK hc i pins s σ H E I hf st ⟨es, hd, hz, hi⟩
    subst eP ew eK hz
    obtain ⟨f0, f1, _, f3, f4, f5⟩ := hf it (List.mem_singleton.mpr rfl)
    exact wpAny_pyNext_keys_end_raw (I.ok.hd hc) st (do_at I hd).2.2 hi fun h' eb => ⟨rfl, I.turned (t' := s.toks) (fun b ob hb q => eb b ob hb q) f0 f1 f3 f4 f5⟩
  self := fun A i s Q E st h => wpAny_pyIter_keyiter st h
end
def iKX (td : TE) : TI := fun σ H R => td σ H fun x H1 => ∃ d es ep, x = .ref d ∧ H1 d = some (DO d es ep) ∧ R (ItX d ep es.size (·.key)) H1
section
variable {X : Cx} {tg e : Expr} {td : TE} {apos cpos : Pos}
theorem pi_kx (he : PE X e td) : PI X tg e (iKX td) := by
  refine ⟨fun pins s σ H R I h => thn (he.run pins s σ H _ I h) ?_⟩
  rintro u s1 ⟨x, H1, I1, rx, d, es, ep, rfl, hd, q⟩
  obtain rfl : u = Value.ref d := rx
  obtain ⟨h1, h2, h3⟩ := do_at I1 hd
  exact wpAny_pyIter_dict_raw h1 h3 (pi_one (tk := s1.toks) I1 _ (turn_kx _) ⟨_, Heap.get?_push_size _ rfl, rfl, rfl⟩ q)
end
theorem ents_get {w : World} : ∀ {es : List DictEntry} {ks : List Val} {xs ys : List V} {i : Nat} {e : DictEntry}, Ents w es ks xs ys → es[i]? = some e → ∃ k x y, ks[i]? = some k ∧ xs[i]? = some x ∧ ys[i]? = some y ∧ RelV x e.key ∧ RelV y e.val
  | e :: es, k :: ks, x :: xs, y :: ys, 0, e', ⟨⟨_, h2, h3⟩, h4⟩, q => by
    simp at q; subst q
    exact ⟨k, x, y, rfl, rfl, rfl, h2, h3⟩
  | e :: es, k :: ks, x :: xs, y :: ys, i + 1, e', ⟨_, h4⟩, q => by
    obtain ⟨k', x', y', a, b, c, d⟩ := ents_get (i := i) h4 (by simpa using q)
    exact ⟨k', x', y', by simpa using a, by simpa using b, by simpa using c, d⟩
  | [], [], [], [], _, _, _, q => by simp at q
  | [], [], [], _ :: _, _, _, h, _ => False.elim h
  | [], [], _ :: _, _, _, _, h, _ => False.elim h
  | [], _ :: _, _, _, _, _, h, _ => False.elim h
  | _ :: _, [], _, _, _, _, h, _ => False.elim h
  | _ :: _, _ :: _, [], _, _, _, h, _ => False.elim h
  | _ :: _, _ :: _, _ :: _, [], _, _, h, _ => False.elim h
def prs (ks vs : List Val) : List Val := List.zipWith (fun k v => Val.tup [k, v]) ks vs
def dsel : Nat → List Val → List Val → List Val
  | 0, ks, _ => ks
  | 1, _, vs => vs
  | _, ks, vs => prs ks vs
def ItM (d : Addr) (ep n0 : Nat) : Nat → It
  | 0 => ItX d ep n0 (·.key)
  | 1 => ItX d ep n0 (·.val)
  | _ => ItXi d ep n0
section
variable {T : Tb} {K : PySem.W.Frag} {io : Nat → Addr} {F H : Hp} {h : Hh} {d : Addr} {ep : Nat} {ks vs : List Val} {xs ys : List V} {es : Array DictEntry}
theorem yld_m (sr : SR T K io h F H) (hd : H d = some (DO d es ep)) (he : Ents T.w es.toList ks xs ys) (r1 : VRs T K io h.length F ks xs) (r2 : VRs T K io h.length F vs ys) (m i : Nat) : YldOk T K (ItM d ep es.size m) i (dsel m ks vs)[i]? io h F H := by
  have hl := Ents.len he
  have l2 := r2.length
  have ll : es.toList.length = es.size := by simp
  by_cases hi : i < es.size
  · have ee : es.toList[i]? = some es[i] := by simp [hi]
    obtain ⟨k, x, y, ek, ex, ey, rx, ry⟩ := ents_get he ee
    have e2 : es[i]? = some es[i] := by simp [hi]
    obtain ⟨v, ev⟩ : ∃ v, vs[i]? = some v := ⟨vs[i]'(by omega), List.getElem?_eq_getElem _⟩
    have vk : VR T K io h.length F k x := by
      obtain ⟨x', e', q'⟩ := r1.get ek
      rw [ex] at e'; cases e'; exact q'
    have vv : VR T K io h.length F v y := by
      obtain ⟨y', e', q'⟩ := r2.get ev
      rw [ey] at e'; cases e'; exact q'
    match m with
    | 0 =>
      show YldOk T K (ItX d ep es.size (·.key)) i ks[i]? io h F H
      rw [ek]
      refine ⟨⟨es, es[i], x, hd, rfl, e2, rx⟩, fun x' H' ⟨e', z⟩ => ?_⟩
      subst e'
      have := (z es _ hd e2).inj rx
      subst this
      exact ⟨F, .refl, sr, vk⟩
    | 1 =>
      show YldOk T K (ItX d ep es.size (·.val)) i vs[i]? io h F H
      rw [ev]
      refine ⟨⟨es, es[i], y, hd, rfl, e2, ry⟩, fun x' H' ⟨e', z⟩ => ?_⟩
      subst e'
      have := (z es _ hd e2).inj ry
      subst this
      exact ⟨F, .refl, sr, vv⟩
    | m + 2 =>
      show YldOk T K (ItXi d ep es.size) i (prs ks vs)[i]? io h F H
      have ep2 : (prs ks vs)[i]? = some (.tup [k, v]) := by unfold prs; rw [List.getElem?_zipWith, ek, ev]
      rw [ep2]
      refine ⟨⟨es, es[i], x, y, hd, rfl, e2, rx, ry⟩, fun z' H' ⟨p, x', y', e1, hp, e', z⟩ => ?_⟩
      subst e1 e'
      obtain ⟨z1, z2⟩ := z es _ hd e2
      have q1 := z1.inj rx
      have q2 := z2.inj ry
      subst q1 q2
      exact ⟨_, sr.allocStep hp _, sr.alloc hp _, .tup (.inl (.inl upd_same)) ((VRs.cons vk (.cons vv .nil)).step (sr.allocStep hp (.tup [x', y'])))⟩
  · have hn : (dsel m ks vs)[i]? = none := by
      match m with
      | 0 => exact List.getElem?_eq_none (by show ks.length ≤ i; omega)
      | 1 => exact List.getElem?_eq_none (by show vs.length ≤ i; omega)
      | m + 2 => exact List.getElem?_eq_none (by show (prs ks vs).length ≤ i; unfold prs; rw [List.length_zipWith]; omega)
    rw [hn]
    match m with
    | 0 => exact ⟨es, hd, rfl, by omega⟩
    | 1 => exact ⟨es, hd, rfl, by omega⟩
    | m + 2 => exact ⟨es, hd, rfl, by omega⟩
end
def curD (k n0 m : Nat) : Hh → Option (List Val) := fun h => match h[k]? with
  | some (.dct ks vs) => if ks.length = n0 then some (dsel m ks vs) else none
  | _ => none
def srcD (m : Nat) (h : Hh) : Val → Option Src
  | .dct ks vs => some (.items (dsel m ks vs))
  | .ref k => (match h[k]? with
    | some (.dct ks _) => some (.ref (curD k ks.length m))
    | _ => none)
  | _ => none
theorem srcD_ok {T : Tb} {K : PySem.W.Frag} {io : Nat → Addr} {F H : Hp} {h : Hh} {v : Val} {x : V} {m : Nat} {s : Src} (sr : SR T K io h F H) (r : VR T K io h.length F v x) (e : srcD m h v = some s) :
    ∃ d es ep, x = .ref d ∧ H d = some (DO d es ep) ∧ SrcOk T K io h.length F (ItM d ep es.size m) s := by
  unfold srcD at e
  cases r with
  | @dct ks vs a es ep xs ys q hk he r1 r2 =>
    cases e
    refine ⟨a, es, ep, rfl, sr.sub _ _ q, fun i io2 h2 F2 H2 sr2 hn he2 hF hi => ?_⟩
    exact yld_m sr2 (sr2.sub _ _ (hF _ _ q)) he (r1.mono hn he2 hF) (r2.mono hn he2 hF) m i
  | ref k hk =>
    dsimp only at e
    cases ek : h[k]? with
    | none => rw [ek] at e; cases e
    | some ob =>
      rw [ek] at e
      cases ob with
      | dct ks vs =>
        cases e
        obtain ⟨es, ep, xs, ys, ea, hkk, he, r1, r2⟩ := sr.obj k _ ek
        refine ⟨io k, es, ep, rfl, ea, fun i io2 h2 F2 H2 zs sr2 hn he2 hF ec => ?_⟩
        unfold curD at ec
        split at ec
        · rename_i ks2 vs2 ek2
          split at ec
          · rename_i hlen
            cases ec
            obtain ⟨es2, ep2, xs2, ys2, ea2, hkk2, hee2, r12, r22⟩ := sr2.obj k _ ek2
            have l1 := Ents.len he
            have l2 := Ents.len hee2
            simp at l1 l2
            have z1 : es2.size = es.size := by omega
            have z2 : ep2 = ep := by rw [hkk2.1, hkk.1, z1]
            rw [he2 k hk, z2] at ea2
            have := yld_m sr2 ea2 hee2 r12 r22 m i
            rw [z1] at this
            exact this
          · cases ec
        · cases ec
      | _ => cases e
  | _ => cases e
def xID (m : Nat) (e : Ex) : Ix := fun sg h => match e sg h with
  | .ok v h1 => (match srcD m h1 v with
    | some s => .ok s h1
    | none => .bad)
  | .exc c fs h1 => .exc c fs h1
  | .bad => .bad
section
variable {T : Tb} {X : Cx} {W : WX} {tg iter : Expr} {fe : Ex} {apos cpos : Pos}
theorem tI_d {m : Nat} {td : TI} (hd : ∀ σ H R, (tE T X.K W fe σ H fun x H1 => ∃ d es ep, x = .ref d ∧ H1 d = some (DO d es ep) ∧ R (ItM d ep es.size m) H1) → td σ H R) : ∀ σ H R, tI T X.K W (xID m fe) σ H R → td σ H R := by
  rintro σ H R ⟨io, h, F, sg, sr, rs, w⟩
  refine hd σ H R ⟨io, h, F, sg, sr, rs, ?_⟩
  unfold xID at w
  cases e : fe sg h with
  | bad => rw [e] at w; exact w
  | exc c fs h1 => rw [e] at w; exact w
  | ok v h1 =>
    rw [e] at w
    intro io1 F1 H1 x st1 sr1 vr
    dsimp only at w
    cases es : srcD m h1 v with
    | none => rw [es] at w; exact w.elim
    | some s =>
      rw [es] at w
      obtain ⟨d, es, ep, ex, hd, so⟩ := srcD_ok sr1 vr es
      exact ⟨d, es, ep, ex, hd, w io1 F1 H1 _ st1 sr1 so⟩
theorem ji_dkeys (he : JE T X W iter fe) : JI T X W tg iter (xID 0 fe) := pi_imp (pi_kx he) (tI_d fun _ _ _ q => q)
def xISX (e : Ex) : Ix := fun sg h => match e sg h with
  | .ok v h1 => (match srcD 0 h1 v with
    | some s => .ok s h1
    | none => xISq e sg h)
  | _ => xISq e sg h
theorem ji_any (he : JE T X W iter fe) : JI T X W tg iter (xISX fe) := by
  refine pi_imp (pi_or (ji_seq (tg := tg) he) (ji_dkeys (tg := tg) he)) fun σ H R ⟨io, h, F, sg, sr, rs, w⟩ => ?_
  unfold xISX at w
  cases e : fe sg h with
  | bad => rw [e] at w; exact .inl ⟨io, h, F, sg, sr, rs, w⟩
  | exc c fs h1 => rw [e] at w; exact .inl ⟨io, h, F, sg, sr, rs, w⟩
  | ok v h1 =>
    rw [e] at w
    dsimp only at w
    cases es : srcD 0 h1 v with
    | none => rw [es] at w; exact .inl ⟨io, h, F, sg, sr, rs, w⟩
    | some s =>
      rw [es] at w
      refine .inr ⟨io, h, F, sg, sr, rs, ?_⟩
      unfold xID
      rw [e]
      dsimp only
      rw [es]
      exact w
end
end Py
namespace Py
open PySem PySem.Spec PyProof.Rows L2
section
variable {T : Tb} {X : Cx} {W : WX} {o e f : Expr} {fo fe ff : Ex} {apos cpos pos : Pos}
end
theorem call_lenD {X : Cx} : CallR X (.builtin "len") (fun xs H Q => ∃ a es ep, xs = [.ref a] ∧ H a = some (DO a es ep) ∧ Q (.int es.size) H) := by
  intro pins s σ H xs us Q I r h
  obtain ⟨a, es, ep, rfl, hd, q⟩ := h
  match us, r with
  | [u], .cons r1 .nil =>
    cases (show u = Value.ref a from r1)
    obtain ⟨h1, h2, h3⟩ := do_at I hd
    rw [sizeLine_eq] at h2
    exact PyProof.Rows.call_len_slot (n := es.size) h3.typeIs PySem.F.slot_dict_len (fun Q' hq => call_len_raw h1 h3 hq) (by omega) (by omega) ⟨.int es.size, H, I.tok _, ⟨_, rfl⟩, q⟩
def gLenX : GC := fun h vs => match vs with
  | [v] => (match dctOf h v with
    | some (ks, _) => some (.int ks.length, h)
    | none => gLen h [v])
  | _ => none
theorem lift_lenX {T : Tb} {K : PySem.W.Frag} : LiftC T K (fun xs H Q => (fun xs H Q => ∃ x n, xs = [x] ∧ LenV K x H n ∧ Q (.int n) H) xs H Q ∨ (∃ a es ep, xs = [.ref a] ∧ H a = some (DO a es ep) ∧ Q (.int es.size) H)) gLenX := by
  intro io h F H vs xs z h' Q sr r e q
  unfold gLenX at e
  match vs, r, e with
  | [v], .cons r1 .nil, e =>
    dsimp only at e
    cases ed : dctOf h v with
    | none => rw [ed] at e; exact .inl (lift_len io h F H [v] _ z h' Q sr (.cons r1 .nil) e q)
    | some p =>
      obtain ⟨ks, vs⟩ := p
      rw [ed] at e
      cases e
      obtain ⟨a, xs, ys, es, ep, rfl, g, r2⟩ := dctOf_ok sr r1 ed
      have hl := Ents.len g.en
      refine .inr ⟨a, es, ep, rfl, g.at_, ?_⟩
      have z : ks.length = es.size := by simpa using hl.1
      rw [← z]
      exact q io F H _ .refl sr (.int _)
theorem call_lenX {X : Cx} : CallR X (.builtin "len") (fun xs H Q => (fun xs H Q => ∃ x n, xs = [x] ∧ LenV X.K x H n ∧ Q (.int n) H) xs H Q ∨ (∃ a es ep, xs = [.ref a] ∧ H a = some (DO a es ep) ∧ Q (.int es.size) H)) := CallR.or call_len call_lenD
inductive PR (T : Tb) (K : PySem.W.Frag) (io : Nat → Addr) (n : Nat) (F : Hp) : List (Val × Val) → List (V × V) → Prop where
  | nil : PR T K io n F [] []
  | cons {k v : Val} {x y : V} {qs : List (Val × Val)} {ps : List (V × V)} (a : VR T K io n F k x) (b : VR T K io n F v y) (r : PR T K io n F qs ps) : PR T K io n F ((k, v) :: qs) ((x, y) :: ps)
section
variable {T : Tb} {X : Cx} {W : WX} {pins : List (Addr × PySem.Obj)} {σ : L2.St} {io : Nat → Addr} {n : Nat} {F : Hp} {d : Addr} {A : Around} {E : Value → Shared → Prop}
end
end Py
namespace Py
open PySem PySem.Spec PyProof.Rows L2
section
variable {X : Cx} {kx vx tg iter : Expr} {ifs : List Expr} {scope : Scope} {own : List (Str × Nat)} {pos : Pos} {wi : TI} {g : TG} {tt : TT} {tk tv : TE}
end
def Src.le : Src → Nat → Prop
  | .items vs, i => i ≤ vs.length
  | .ref _, _ => True
structure DInv (T : Tb) (K : PySem.W.Frag) (io1 : Nat → Addr) (n1 : Nat) (F1 H1 : Hp) (D : Addr) (io : Nat → Addr) (h : Hh) (F H : Hp) (ks vs : List Val) : Prop where
  sr : SR T K io h F H
  st : Step io1 n1 F1 H1 io h.length F H
  fd : F D = none
  nd : ∀ k, k < h.length → io k ≠ D
  ex : ∃ es ep xs ys, DGx T K io h.length F H D ks xs ys es ep ∧ VRs T K io h.length F vs ys
section
variable {T : Tb} {K : PySem.W.Frag} {io1 io io' : Nat → Addr} {n1 : Nat} {F1 H1 F H F' H' : Hp} {D : Addr} {h h' : Hh} {ks vs : List Val}
theorem DInv.go (c : DInv T K io1 n1 F1 H1 D io h F H ks vs) (st : Step io h.length F H io' h'.length F' H') (sr : SR T K io' h' F' H') : DInv T K io1 n1 F1 H1 D io' h' F' H' ks vs := by
  obtain ⟨es, ep, xs, ys, g, ru⟩ := c.ex
  have e := st.frame D _ g.at_ c.nd
  refine ⟨sr, c.st.trans c.sr st, ?_, fun k hk z => ?_, es, ep, xs, ys, ⟨e, g.ok, g.en, g.rk.step st⟩, ru.step st⟩
  · cases q : F' D with
    | none => rfl
    | some o =>
      exfalso
      rcases st.fresh D o q with z | z | ⟨y, z⟩
      · rw [c.fd] at z; cases z
      · rw [g.at_] at z; cases z
      · subst z
        have := sr.sub D _ q
        rw [e] at this; unfold DO at this; cases this
  · by_cases hk' : k < h.length
    · exact c.nd k hk' ((st.eq k hk').symm.trans z)
    · have := st.new k (by omega) hk
      rw [z, g.at_] at this; cases this
end
section
variable {T : Tb} {X : Cx} {W : WX} {kx vx tg iter : Expr} {ifs : List Expr} {scope : Scope} {pos : Pos} {fi : Ix} {g : Gx} {t fk fv : Ex} {ws : List Nat}
end
end Py
namespace Py
open PySem PySem.Spec PyProof.Rows L2
section
variable {X : Cx} {pins : List (Addr × PySem.Obj)} {σ : L2.St} {H : Hp} {s : Shared} {b : Bool} {l : Addr} {xs ys : List V}
end
section
variable {P : Program} {w : World} {K : PySem.W.Frag} {elts : List Expr} {kk : Nat} {tpos : Pos}
end
section
variable {P : Program} {w : World} {K : PySem.W.Frag} {elts : List Expr} {kk : Nat} {tpos : Pos}
end
end Py
namespace Py
open PySem PySem.Spec PyProof.Rows L2
section
variable {X : Cx} {e e2 e3 : Expr} {ta : TA} {p pos tpos : Pos} {elts : List Expr} {kk : Nat}
end
section
variable {T : Tb} {X : Cx} {W : WX} {e e2 e3 : Expr} {fl : Lx} {p pos tpos : Pos} {elts : List Expr} {kk : Nat}
theorem VRs.at {K : PySem.W.Frag} {io : Nat → Addr} {n : Nat} {F : Hp} {vs : List Val} {xs : List V} {i : Nat} {v : Val} {x : V} (r : VRs T K io n F vs xs) (ev : vs[i]? = some v) (ex : xs[i]? = some x) : VR T K io n F v x := by
  obtain ⟨y, e, q⟩ := r.get ev
  rw [ex] at e; cases e; exact q
end
end Py
namespace Py
open PySem PySem.Spec PyProof.Rows L2
def atL {α : Type} : List α → Nat → List α
  | [], _ => []
  | a :: _, 0 => [a]
  | _ :: l, n + 1 => atL l n
def pickL {α : Type} : List Nat → List α → List α
  | [], _ => []
  | i :: is, l => atL l i ++ pickL is l
section
variable {T : Tb} {K : PySem.W.Frag} {io : Nat → Addr} {n : Nat} {F : Hp}
end
def KB (K : PySem.W.Frag) (fd : FuncData) (ps : List Str) (np : Nat) (ks : List Str) (pk : List Nat) (ds : List Value) : Prop :=
  ∀ (s : Shared) (us ws : List Value), K.In s.heap → us.length = np → ws.length = ks.length → BindsTo s fd ⟨us, ks.zip ws⟩ (ps.zip (pickL pk (us ++ (ws ++ ds))))
section
variable {K : PySem.W.Frag} {x qual : Str} {params : Arguments} {body : List Stmt} {scope : Scope} {dvs : List V} {kws : List (Str × V)} {f : Addr} {fd : FuncData} {ps : List Str}
end
section
variable {T : Tb} {X : Cx} {W : WX} {e : Expr} {fe : Ex} {fr : Lx} {kws : List Keyword} {nm : Option Str} {kpos : Pos}
end
section
variable {T : Tb} {X : Cx} {W : WX} {k np : Nat} {a : Addr} {fd : FuncData} {ps ks : List Str} {sp : Sp} {pk : List Nat} {dvs : List V} {ds : List Value} {x : Str} {p pos : Pos} {e : Expr} {es : List Expr} {kws : List Keyword} {f : Fx} {l lk : Lx} {t tk : TA} {E : L2.St → XK} {CXq : CXT}
end
end Py
namespace Py
open PySem PySem.Spec PyProof.Rows L2
section
variable {T : Tb} {X : Cx} {W : WX} {e o : Expr} {es : List Expr} {fo : Ex} {fl : Lx} {pos apos : Pos} {ps : List Str} {k : Nat} {f : Fx} {m : Str} {c : Nat} {a : Addr} {dvs : List V} {dfl : List Val}
end
section
variable {T : Tb} {K : PySem.W.Frag} {X : Cx} {W : WX} {e : Expr} {fe : Ex} {pos : Pos}
end
end Py
namespace Py
open PySem PySem.Spec PyProof.Rows L2
section
variable {T : Tb} {K : PySem.W.Frag} {io : Nat → Addr} {n : Nat} {F : Hp}
end
section
variable {T : Tb} {K : PySem.W.Frag}
end
end Py
namespace Py
open PySem PySem.Spec PyProof.Rows L2
end Py
namespace Py
open PySem PySem.Spec PyProof.Rows L2
end Py
namespace Py
open PySem PySem.Spec PyProof.Rows L2
section
variable {prog : Program} {w : World} {A : Around} {E : Value → Shared → Prop} {s : Shared} {d : Addr} {xs : List (NestedKey × Addr × Value)}
end
def gInN : G2 := fun h v u => match v, dctOf h u with
  | .non, some (ks, _) => if ks.all isTupV = true then some (.bl false) else none
  | v, _ => gInX h v u
end Py
namespace Py
open PySem PySem.Spec PyProof.Rows L2
def tC (a c : Int) : Int := if 0 < a then c else c + 1
end Py
namespace Py
open PySem PySem.Spec PyProof.Rows L2
section
variable {T : Tb} {X : Cx} {W : WX} {pos : Pos}
end
end Py
namespace Py
open PySem PySem.Spec PyProof.Rows L2
section
variable {X : Cx} {t t' : TS} {te te' : TE} {st : Stmt} {ss : List Stmt} {e : Expr}
end
section
variable {T : Tb} {X : Cx} {W : WX} {st : Stmt} {rest : List Stmt} {e : Expr} {fe : Ex} {f g : Sx} {pos : Pos}
end
section
variable {T : Tb} {X : Cx} {W : WX} {e o : Expr} {es : List Expr} {fe fo : Ex} {fl : Lx} {apos cpos pos : Pos}
end
section
variable {P : Program} {w : World} {K : PySem.W.Frag} {mg : Str → Option Value} {base : Heap} {C : CXT} {k : Nat} {f : Addr} {x qual : Str} {params : Arguments} {body : List Stmt} {scope : Scope} {dvs : List V} {kws : List (Str × V)} {fd : FuncData} {N ps : List Str} {sp : Sp}
end
end Py
namespace Py
open PySem PySem.Spec PyProof.Rows L2
end Py
namespace Py
open PySem PySem.Spec PyProof.Rows L2
section
variable {T : Tb} {X : Cx} {W : WX} {pos : Pos}
end
end Py
namespace Py
open PySem PySem.Spec PyProof.Rows L2
section
variable {X : Cx} {e : Expr} {td : TE} {p pos apos cpos : Pos}
end
end Py
namespace Py
open PySem PySem.Spec PyProof.Rows L2
abbrev It2 := Val × PyData
def lt2 (a b : It2) : Bool := PySem.W.dataLt a.2 b.2
section
variable {T : Tb} {K : PySem.W.Frag} {io : Nat → Addr} {F H : Hp} {h : Hh}
end
end Py
namespace Py
open PySem PySem.Spec PyProof.Rows L2
theorem MtR.or {X : Cx} {id : String} {r r' : V → List V → Hp → VK → Prop} (h : MtR X id r) (h' : MtR X id r') : MtR X id fun x xs H Q => r x xs H Q ∨ r' x xs H Q :=
  fun pins s σ H x xs v us Q I rx rxs hq => hq.elim (h pins s σ H x xs v us Q I rx rxs) (h' pins s σ H x xs v us Q I rx rxs)
end Py
namespace Py
open PySem PySem.Spec PyProof.Rows L2
section
variable {T : Tb} {K : PySem.W.Frag} {io : Nat → Addr} {n : Nat} {F : Hp}
end
section
variable {T : Tb} {K : PySem.W.Frag}
end
end Py
namespace Py
open PySem PySem.Spec PyProof.Rows L2
section
variable {X : Cx} {i : Nat} {y : Str} {py pos spos : Pos} {kx vx tg iter : Expr} {ifs : List Expr} {scope : Scope} {own : List (Str × Nat)} {wi : TI} {g : TG} {tt : TT} {tk tv : TE}
end
section
variable {T : Tb} {X : Cx} {W : WX} {kx vx tg iter : Expr} {ifs : List Expr} {scope : Scope} {pos py spos : Pos} {fi : Ix} {g : Gx} {t fk fv : Ex} {ws : List Nat} {y : Str}
end
end Py
namespace Py
open PySem PySem.Spec PyProof.Rows L2
end Py
namespace Py
open PySem PySem.Spec PyProof.Rows L2
variable {T : Tb}
end Py
namespace Py
open PySem PySem.Spec PyProof.Rows L2
section
variable {T : Tb} {K : PySem.W.Frag} {io : Nat → Addr} {F H : Hp} {h : Hh}
end
theorem CallR.or {X : Cx} {f : Value} {r r' : List V → Hp → VK → Prop} (h : CallR X f r) (h' : CallR X f r') : CallR X f fun xs H Q => r xs H Q ∨ r' xs H Q :=
  fun pins s σ H xs us Q I rx hq => hq.elim (h pins s σ H xs us Q I rx) (h' pins s σ H xs us Q I rx)
end Py
namespace Py
open PySem PySem.Spec PyProof.Rows L2
theorem for_all3 {body : Val → Sg → Hh → ResS} {P : Sg → Prop} : ∀ (vs : List Val), (∀ v ∈ vs, ∀ sg h, P sg → ∃ sg1 o t, body v sg h = .next sg1 (o :: t) ∧ P sg1) → ∀ sg o t, P sg → ∃ sg1 o1 t1, forItems body vs sg (o :: t) = .next sg1 (o1 :: t1) ∧ P sg1
  | [], _, sg, o, t, p => ⟨sg, o, t, rfl, p⟩
  | v :: r, hb, sg, o, t, p => by
    obtain ⟨sg1, o1, t1, e, p1⟩ := hb v List.mem_cons_self sg (o :: t) p
    obtain ⟨sg2, o2, t2, e2, p2⟩ := for_all3 r (fun u hu => hb u (List.mem_cons_of_mem _ hu)) sg1 o1 t1 p1
    refine ⟨sg2, o2, t2, ?_, p2⟩
    unfold forItems
    rw [e]
    exact e2
theorem law_loop3 {m : Nat} {cnt : Lx} {body rest : Sx} {ns : List Int} (hc : ∀ sg, ∃ j : Int, cnt (some (.lst (ns.map Val.int)) :: sg) [] = .ok [.int j] [] ∧ small62 j = true ∧ 1 ≤ j)
    (hb : ∀ (k : Nat) r h, r.length = m → ∃ r' o t, body (some (.lst (ns.map Val.int)) :: some (.int k) :: r) h = .next (some (.lst (ns.map Val.int)) :: some (.int k) :: r') (o :: t) ∧ r'.length = m)
    (hr : ∀ x r o t, r.length = m → ∃ h', rest (some (.lst (ns.map Val.int)) :: x :: r) (o :: t) = .ret (.bl true) h') :
    ∃ h', fnOf 1 (m + 2) (xSeq (xFor (xIRng1 cnt) (gN 1) body) rest) [] [.lst (ns.map Val.int)] = .ok (.bl true) h' := by
  obtain ⟨j, e, hs, hj⟩ := hc (List.replicate (m + 1) none)
  have step : ∀ v ∈ rng 0 j.toNat, ∀ sg h, (∃ x r, sg = some (.lst (ns.map Val.int)) :: x :: r ∧ r.length = m) → ∃ sg1 o t, bodyOf (gN 1) body v sg h = .next sg1 (o :: t) ∧ ∃ x r, sg1 = some (.lst (ns.map Val.int)) :: x :: r ∧ r.length = m := by
    intro v hv sg h ⟨x, r, es, hr⟩
    obtain ⟨i, hi, ei⟩ := rng_mem _ _ _ hv
    obtain ⟨r', o, t, e, hr'⟩ := hb i r h hr
    refine ⟨_, o, t, ?_, some (.int i), r', rfl, hr'⟩
    subst es ei
    simpa [bodyOf, gN, ResG.bindS] using e
  have start : ∃ sg1 o t, forItems (bodyOf (gN 1) body) (rng 0 j.toNat) (some (.lst (ns.map Val.int)) :: List.replicate (m + 1) none) [] = .next sg1 (o :: t) ∧ ∃ x r, sg1 = some (.lst (ns.map Val.int)) :: x :: r ∧ r.length = m := by
    cases el : rng 0 j.toNat with
    | nil =>
      cases en : j.toNat with
      | zero => omega
      | succ n => rw [en] at el; cases el
    | cons v vs =>
      rw [el] at step
      obtain ⟨sg1, o, t, e1, p1⟩ := step v List.mem_cons_self (some (.lst (ns.map Val.int)) :: List.replicate (m + 1) none) [] ⟨none, List.replicate m none, rfl, by simp⟩
      obtain ⟨sg2, o2, t2, e2, p2⟩ := for_all3 vs (fun u hu => step u (List.mem_cons_of_mem _ hu)) sg1 o t p1
      refine ⟨sg2, o2, t2, ?_, p2⟩
      unfold forItems
      rw [e1]
      exact e2
  obtain ⟨sg', o', t', e2, y, r2, es2, hl2⟩ := start
  subst es2
  obtain ⟨h'', e3⟩ := hr y r2 o' t' hl2
  refine ⟨h'', fnOf_r rfl ((xSeq_n (sg1 := some (.lst (ns.map Val.int)) :: y :: r2) (h1 := o' :: t') ?_).trans e3)⟩
  show xFor (xIRng1 cnt) (gN 1) body (some (.lst (ns.map Val.int)) :: List.replicate (m + 1) none) [] = _
  unfold xFor xIRng1
  rw [e]
  simp only [hs, if_true]
  exact e2
end Py
namespace Py
open PySem PySem.Spec PyProof.Rows L2
section
variable {prog : Program} {w : World} {KT : Type} [DecidableEq KT] {A : Around} {E : Value → Shared → Prop} {s : Shared} {d a : Addr} {o : PySem.Obj} {es : Array DictEntry} {ep : Nat}
end
section
variable {X : Cx} {A : Around} {E : Value → Shared → Prop} {s : Shared} {pins : List (Addr × PySem.Obj)} {σ : L2.St} {H F : Hp} {T : Tb} {io : Nat → Addr} {n : Nat} {a : Addr} {ks : List Val} {xs ys : List V} {es : Array DictEntry} {ep : Nat} {q : Val} {y : V} {u : Value}
end
section
variable {T : Tb} {X : Cx} {W : WX} {o e f : Expr} {fo fe ff : Ex} {apos cpos pos : Pos}
end
end Py
namespace Py
open PySem PySem.Spec PyProof.Rows L2
end Py
namespace Py
open PySem PySem.Spec PyProof.Rows L2
def rCatS (K : PySem.W.Frag) : R2 := fun x y H Q => ∃ l b xs zs, x = .ref l ∧ y = .ref b ∧ SqL K H l xs ∧ SqL K H b zs ∧ xs.length + zs.length ≤ sizeLine ∧ ∀ p, H p = none → Q (.ref p) (upd H p (.lst (xs ++ zs)))
theorem op_catS {X : Cx} : OpR X (binaryOp .Add) (rCatS X.K) := by
  intro pins s σ H x y v u Q I rx ry h
  obtain ⟨l, b, xs, zs, rfl, rfl, hH, hB, hz, q⟩ := h
  cases rx
  cases ry
  obtain ⟨its, r, p1, hl⟩ := I.list hH
  obtain ⟨its2, r2, p2, hl2⟩ := I.list hB
  obtain ⟨⟨cls, dd, data, sl⟩, n, ho, hc, hd0, hd⟩ := p1
  obtain ⟨⟨cls2, dd2, data2, sl2⟩, n2, ho2, hc2, hd02, hd2⟩ := p2
  simp only at hc hd hd0 hc2 hd2 hd02
  subst hc hd hd0 hc2 hd2 hd02
  have e : its.toArray ++ its2.toArray = (its ++ its2).toArray := by simp
  have hsz : its.length + its2.length ≤ sizeLine := by rw [← r.length, ← r2.length]; exact hz
  refine concat_meets ⟨_, ho, rfl⟩ ⟨_, ho2, rfl⟩ noFill_list_add seq_list_add PySem.F.slot_list_add PySem.F.entry_list_add (PySem.F.args_list_add_2 _ _) (list_addW l b its.toArray its2.toArray n n2 none none sl sl2 (by simpa using hsz)) ⟨ho, ho2, ?_⟩
  rw [e]
  exact ⟨.ref _, _, I.lnew (t' := s.toks) (r.append r2) (by rw [List.length_append]; omega), rfl, q _ I.fresh⟩
def gPlusA : G2 := fun h v u => match lstOf h v, lstOf h u with
  | some us, some ws => if us.length + ws.length ≤ 1000000 then some (.lst (us ++ ws)) else none
  | _, _ => gPlus h v u
theorem op_plusA {X : Cx} : OpR X (binaryOp .Add) (fun x y H Q => rPlus X.K x y H Q ∨ rCatS X.K x y H Q) := OpR.or op_plus op_catS
theorem lift_plusA {T : Tb} {K : PySem.W.Frag} : Lift2 T K (fun x y H Q => rPlus K x y H Q ∨ rCatS K x y H Q) gPlusA := by
  intro io h F H v u x y z Q sr vr ur e q
  unfold gPlusA at e
  split at e
  · rename_i us ws em en
    split at e
    · rename_i hz
      cases e
      obtain ⟨a, xs, rfl, ea, ra⟩ := lstOf_ok sr vr em
      obtain ⟨b, ys, rfl, eb, rb⟩ := lstOf_ok sr ur en
      refine .inr ⟨a, b, xs, ys, rfl, rfl, ea, eb, by rw [← ra.length, ← rb.length]; exact sizeOk hz, fun p hp => ?_⟩
      exact q _ _ _ (sr.allocStep hp _) (sr.alloc hp _) (.lst (.inl (.inl upd_same)) ((ra.append rb).step (sr.allocStep hp (.lst (xs ++ ys)))))
    · cases e
  · exact .inl (lift_plus io h F H v u x y z Q sr vr ur e q)
end Py
namespace Py
open PySem PySem.Spec PyProof.Rows L2
section
variable {T : Tb} {X : Cx} {W : WX} {a b c : Expr} {pos : Pos}
end
end Py
namespace Py
open PySem PySem.Spec PyProof.Rows L2
end Py
namespace Py
open PySem PySem.Spec PyProof.Rows L2
variable {T : Tb}
end Py
namespace Py
open PySem PySem.Spec PyProof.Rows L2
theorem ko_all {T : Tb} {K : PySem.W.Frag} (hd : ∀ n, T.cn (n + 16) = T.cn 16) (h : ([10, 11, 12, 13, 14, 15, 16] : List Nat).all (fun c => koB K (T.cn c)) = true) : KdO T K := by
  intro c hc
  have h := List.all_eq_true.mp h
  by_cases h6 : 16 ≤ c
  · obtain ⟨n, rfl⟩ : ∃ n, c = n + 16 := ⟨c - 16, by omega⟩
    rw [hd n]; exact fun hm => ko_of (h 16 (by decide)) hm
  · have : c = 10 ∨ c = 11 ∨ c = 12 ∨ c = 13 ∨ c = 14 ∨ c = 15 := by omega
    exact fun hm => ko_of (h c (by rcases this with rfl | rfl | rfl | rfl | rfl | rfl <;> decide)) hm
end Py
namespace PySem
namespace ExI
open PySem.W PySem.Calls PyProof.Rows PySem.HandSPX
structure ExW (i : Bool) (P : Program) (K : Frag) (f : Str) (C fI : Addr) : Prop where
  ff : f = "word" ∨ f = "at"
  cls : ∃ nm q N bs bm sn sub ab col dd k0 k1 k2 k3 k5, K.lookup C = some (excClassObj nm q C N bs bm true sn sub ab col dd k0 k1 k2 k3 k5 (bNew i)) ∧ excTail (bTl i) bm = true
  sa : findIn K (.ref C) "__setattr__" = some (some (.builtin "object.__setattr__"))
  ga : findIn K (.ref C) "__getattribute__" = some (some (.builtin "BaseException.__getattribute__"))
  gg : findIn K (.ref C) "__getattr__" = some none
  noN : findIn K (.ref C) f = some none
  iC : findIn K (.ref C) "__init__" = some (some (.ref fI))
  tC : typeIn K (.ref fI) = some (.type "function")
  kC : keepIn K (.ref C) = true
  exC : subIn K (.ref C) (.type "BaseException") = some true
  tyC : typeIn K (.ref C) = some (.type "type")
  hdC : hasDictIn K C = true
  ho : nsIn K cStatics "thirdparty.any" = some none
  su : nsIn K mainGlobals "super" = some none
  si : ks_superIn K C C "__init__" = some (some (.builtin (bIni i)))
  sv : subIn K (.ref C) (.type (bNm i)) = some true
  sc : mroIn K C (.ref C) = some true
  top : (P.main.scope.names.lookup ("super" : Str)).isSome = false
  fn : ∃ (oc : Value) (od : Option Addr) (doc pm : Value) (an : Option Addr) (cda : Addr) (ct : Value) (osl : Array (Option Value)) (cc : Addr) (qual : Str) (p1 p2 a1 a2 a3 a4 a5 a6 q1 q2 q3 q4 : Pos), a3.endLine = a5.line ∧
    K.lookup fI = some ⟨oc, od, .func (ksFn "__init__" qual (iA f p1 p2) (iB f a1 a2 a3 a4 a5 a6 q1 q2 q3 q4) (iS f) .none .none doc pm an (.ref cda) ct cc), osl⟩ ∧ codeIn K (.ref cda) qual = true ∧
    (∃ (ccl : Value) (cdd : Option Addr) (vs : Array Value) (ccs : Array (Option Value)) (file : Str) (tf : Tok), K.lookup cda = some ⟨ccl, cdd, .fields vs, ccs⟩ ∧ vs[2]? = some (.str file tf) ∧ ((P.main.file : Str) == file) = true) ∧
    ∃ (cl : Value) (cld : Option Addr) (csl : Array (Option Value)), K.lookup cc = some ⟨cl, cld, .cell (some (.ref C)), csl⟩
structure InitEnd (f : Str) (h h' : Heap) (x C dx : Addr) (v : Value) : Prop where
  keep : ∀ b o, b ≠ x → h.get? b = some o → h'.get? b = some o
  obj : ∃ t1 : Addr, h'.get? x = some { cls := .ref C, dict := some dx, data := .fields #[.ref t1, .none, .none, .none, .bool false, .none] }
  dbig : h.objs.size ≤ dx
  dne : dx ≠ x
  ns : h'.Ns1 dx (fun y => if y = f then some v else none)
structure OwnMade (f : Str) (h h' : Heap) (e C d : Addr) (v : Value) : Prop where
  keep : ∀ b o, h.get? b = some o → h'.get? b = some o
  new : h.objs.size ≤ e
  obj : ∃ oe vs, h'.get? e = some oe ∧ oe.cls = .ref C ∧ oe.dict = some d ∧ oe.data = .fields vs ∧ vs[1]? = some .none
  dbig : h.objs.size ≤ d
  dne : d ≠ e
  ns : h'.Ns1 d (fun y => if y = f then some v else none)
section
variable {prog : Program} {w : World} {A : Around} {E : Value → Shared → Prop} {h : Heap} {g : Array GenState} {d : Drawn} {t : Nat} {os : OsState}
theorem mc_eq {o : Expr} {name fl : Str} {apos pos a4 : Pos} {env : Env} (hl : apos.endLine = pos.line) : eval (.Call (.Attribute o name apos) [.Name fl a4] [] pos) env = (do
      let ov ← attributeBase o name env (eval o env)
      standAt apos.atName
      let (f, first) ← holding [ov] (getMethod ov name (do return (← importBound o env).getD true))
      callWith pos f first (backTo pos (starEach [.Name fl a4] env)) []) := by
  have few : methodCallForm ([Expr.Name fl a4].length + ([] : List Keyword).length) (backTo pos (starEach [.Name fl a4] env)) (backToKw pos (keywordEach [] env)) = true := by rfl
  show (do
    let ov ← attributeBase o name env (eval o env)
    standAt apos.atName
    methodCall o name apos pos env ov ([Expr.Name fl a4].length + ([] : List Keyword).length) (backTo pos (starEach [.Name fl a4] env)) (backToKw pos (keywordEach [] env))) = _
  unfold methodCall
  rw [few]
  have hp : methodCallPos true o env apos pos = pure pos := by
    unfold methodCallPos
    simp [hl]
  rw [hp]
  simp only [pure_bind]
  rfl
theorem call_mw {nm q : Str} {C N : Addr} {bs bm : List Value} {hdct : Bool} {sn : List Str} {sub : List Value} {ab : Bool} {col : Option Bool} {dd : Option Addr} {k0 k1 k2 k3 k5 : Option Value} {B newId initId : String} {bmB : List Value} (FB : ExcBaseFacts B newId initId bmB) {u e t0 : Addr} {rest : List Value} {Q : Value → Shared → Prop}
    (hC : h.get? C = some (excClassObj nm q C N bs bm hdct sn sub ab col dd k0 k1 k2 k3 k5 newId)) (he : h.get? e = some (HandSPX.excO C t0)) (hu : h.get? u = some (kxs_mw initId e)) (hrest : rest.length ≤ sizeLine)
    (hq : ∀ h' t1, (∀ b o, b ≠ e → h.get? b = some o → h'.get? b = some o) → h'.get? e = some (HandSPX.excO C t1) → Q .none ⟨h', g, d, t, os⟩) :
    wpAny (model prog w) A (call (.ref u) rest) Q E ⟨h, g, d, t, os⟩ := by
  refine wpAny_call (codeAny_of_tree ?_)
  show wpAny _ A.in1 (callAny (.ref u) ⟨rest, []⟩) _ _ _
  simp only [callAny]
  refine wpAny_bind (wpAny_load hu ?_)
  simp only [kxs_mw, show (Value.type "method-wrapper" == Value.type "method" || Value.type "method-wrapper" == Value.type "builtin_function_or_method" || Value.type "method-wrapper" == Value.type "method-wrapper") = true by decide, if_true]
  refine KFB.if_so (by decide) ?_
  refine wpAny_bind (check_bound_init FB.toExcCallFacts hC he rfl ?_)
  refine wpAny_bind (wpAny_pure (wpAny_pure ?_))
  refine ⟨plainId_quiet FB.init.plain _, codeAny_builtin FB.initEntry ?_⟩
  exact exc_init_tree (cls := .ref C) (t0 := t0) (dv := none) (c2 := .none) (c3 := .none) (b4 := .bool false) he hrest fun h' k e' t' => hq h' _ k e'
end
section
variable {prog : Program} {w : World} {A : Around} {E : Value → Shared → Prop} {R : Result → Shared → Prop} {s : Shared} {K : Frag} {mg mb : Str → Option Value} {C fI : Addr} {f : Str} {i : Bool}
theorem ns_to {h h4 : Heap} {L : Addr} {m : Str → Option Value} (hn : h.Ns L m) (k : ∀ o, h.get? L = some o → h4.get? L = some o) : h4.Ns L m := by
  obtain ⟨oL, es, ep, e, r⟩ := hn
  exact ⟨oL, es, ep, k _ e, r⟩
theorem one_size (v : Value) : [v].length ≤ sizeLine := by
  rw [sizeLine_eq]
  exact (by decide : 1 ≤ 16777216)
theorem kxs_b : ∀ i : Bool, KxsFacts (bNm i) (bIni i)
  | true => kxs_IndexError
  | false => kxs_ValueError
theorem exb_b : ∀ i : Bool, ExcBaseFacts (bNm i) (bNew i) (bIni i) (bTl i)
  | true => F.excBase_IndexError
  | false => F.excBase_ValueError
theorem sto_b : ∀ i : Bool, StoreFacts (bNm i) (bTl i) "object.__setattr__" "object"
  | true => F.store_IndexError
  | false => F.store_ValueError
theorem osa_b (i : Bool) {hp : Heap} {g : Array GenState} {d : Drawn} {t : Nat} {os : OsState} {name : Str} {tk : Tok} {v : Value} {x : Addr} {fv : Array Value} {cd : ClassData} {bm : List Value}
    (X : K.In hp) (hx : hp.get? x = some { cls := .ref C, data := .fields fv }) (hcd : clsIn K C = some cd) (hm : cd.mro = .ref C :: bm) (ht : excTail (bTl i) bm = true) (hh : cd.hasDict = true) (ha : findIn K (.ref C) name = some none)
    (hq : ∀ h' tk' dx, (∀ b o, b ≠ x → hp.get? b = some o → h'.get? b = some o) → hp.objs.size ≤ dx → dx ≠ x → h'.get? x = some { cls := .ref C, dict := some dx, data := .fields fv } → h'.Ns1 dx (fun y => if y = name then some v else none) → R (.ok (.ret .none)) ⟨h', g, d, tk', os⟩) :
    codeAny (model prog w) A (.call (.builtin "object.__setattr__") ⟨[.ref x, .str name tk, v], []⟩) R ⟨hp, g, d, t, os⟩ := by
  have over : excOver K C (bTl i) = true := by unfold excOver; rw [hcd]; simp [hm, ht]
  have free : takerIn K C name = some none := by unfold takerIn; rw [ha]; rfl
  refine osa_openX (od := none) (s := ⟨hp, g, d, t, os⟩) (sto_b i) X ⟨hx, rfl, rfl, trivial⟩ over free fun b => ?_
  have off : x ≠ hp.objs.size := Nat.ne_of_lt (Heap.lt_size hx)
  have known : W.Looks (model prog w) hp (classData C) cd := W.looks_clsIn X hcd
  obtain ⟨n0, bs0, mro0, ns0, q0, hd0, sn0, sb0, ab0, co0, de0⟩ := cd
  dsimp only at hh
  subst hh
  dsimp only
  unfold Builtin.ObjectAttr.storeInOwnDict Builtin.ObjectAttr.ownDictForStores
  repeat (first | with_reducible refine store_in_new ?_ ?_ | with_reducible refine wpAny_loadPart_at hx ?_ | with_reducible refine known.at ?_ | wp_step)
  · exact ⟨_, #[], _, (Heap.get?_update_ne _ _ _ _ off.symm).trans (Heap.get?_push_at rfl rfl), rfl, fun e he => absurd he (by simp), fun _ => rfl⟩
  · intro h2 tk2 hns rest
    have there : (hp.push { cls := .type "dict", data := .dict #[] }).get? x = some { cls := .ref C, data := .fields fv } := Heap.get?_push_of_some _ hx
    refine hq h2 tk2 hp.objs.size (fun b o hb ho => (rest.2 b (Nat.ne_of_lt (Heap.lt_size ho))).trans ((Heap.get?_update_ne _ _ _ _ hb).trans (Heap.get?_push_of_some _ ho))) (Nat.le_refl _) off.symm ?_ hns
    exact (rest.2 x off).trans (Heap.get?_update_self _ there rfl)
theorem ex_init (T : ExW i prog K f C fI) {x t0 : Addr} {v : Value} (X : K.In s.heap) (hg : s.heap.Ns mainGlobals mg) (hbn : s.heap.Ns builtinsNs mb) (hb : ∀ x : Str, x ≠ "__name__" → mb x = bootBuiltins x) (hlim : s.heap.NoLimit) (hx : s.heap.get? x = some (excO C t0)) (hnx : K.lookup x = none) (hroom : A.depth < recursionLimit)
    (hq : ∀ h' tk dx, InitEnd f s.heap h' x C dx v → R (.ok (.ret .none)) { s with heap := h', toks := tk }) :
    codeAny (model prog w) A (.call (.ref fI) ⟨[.ref x, v], []⟩) R s := by
  obtain ⟨oc, od, doc, pm, an, cda, ct, osl, cc, qual, p1, p2, a1, a2, a3, a4, a5, a6, q1, q2, q3, q4, hln, ho, hcd, ⟨ccl, cdd, vs, ccs, file, tf, hco, hvs, hfile⟩, cl, cld, csl, hcell⟩ := T.fn
  obtain ⟨nm, q, N, bs, bm, sn, sub, ab, col, dd, k0, k1, k2, k3, k5, hC, hbm⟩ := T.cls
  have hcl : clsIn K C = some { name := nm, bases := bs, mro := .ref C :: bm, ns := N, qualname := q, hasDict := true, slotNames := sn, subclasses := sub, abstract := ab, collection := col, hasDel := false } := by unfold clsIn; rw [hC] <;> rfl
  have hsi : alongIn K "__init__" (((.ref C :: bm : List Value).dropWhile (· != .ref C)).drop 1) = some (some (.builtin (bIni i))) := by
    have e := T.si
    unfold ks_superIn at e
    rw [hcl] at e
    exact e
  have hxC : x ≠ C := fun z => by rw [z, hC] at hnx; cases hnx
  obtain ⟨hp, g, d, t, os⟩ := s
  have mgs : mg "super" = none := mg_none_of X hg T.su
  rcases T.ff with e | e <;> subst e
  all_goals (
    refine ks_codeAny_call_defAt (fd := ksFn "__init__" qual (iA _ p1 p2) (iB _ a1 a2 a3 a4 a5 a6 q1 q2 q3 q4) (iS _) .none .none doc pm an (.ref cda) ct cc) (body := iB _ a1 a2 a3 a4 a5 a6 q1 q2 q3 q4) (binds := [("self", .ref x), (_, v)]) hroom (X _ _ ho) rfl hlim (codeRec_of X hcd) rfl (BindsTo.of_eq (by first | rfl | with_unfolding_all rfl)) (by intro y hy; simp [iS] at hy; rcases hy with rfl | rfl | rfl | rfl <;> simp) (by intro y hy; simp at hy; rcases hy with rfl | rfl <;> rfl) (fun h₁ hns hk => ?_) rfl rfl rfl
    have X₁ : K.In h₁ := X.keeps hk
    have hx₁ := hk _ _ hx
    have hL : hp.objs.size ≠ x := Nat.ne_of_gt (Heap.lt_size hx)
    change _root_.PySem.wpAt _ (A.deeper (ksEnv qual (iS _) hp.objs.size fI (.ref cda) cc)) (.func _ (ksEnv qual (iS _) hp.objs.size fI (.ref cda) cc)) (execs _ (ksEnv qual (iS _) hp.objs.size fI (.ref cda) cc)) _ _ _
    refine ks_wpAt_execs_cons (ks_wpAt_Expr_any ?_)
    refine ks_wpAt_MethodCall ?_ (mc_eq hln)
    refine ks_wpAt_super_base (file := file) (tf := tf) (by rfl) (by rfl) (by decide) rfl (X₁ _ _ ho) rfl rfl rfl (X₁ _ _ hco) rfl hvs hfile T.top ?_
    refine ks_loadName_global (by rfl) (by rfl) (loadGlobal_builtin (hg.keeps hk) mgs (hbn.keeps hk) ((hb _ (by decide +kernel)).trans (by first | rfl | decide +kernel)) ⟨rfl, ?_⟩)
    refine wpAny_loadName_free (c := cc) (v := .ref C) (by rfl) (by rfl) (by rfl) ⟨_, X₁ _ _ hcell, rfl⟩ ?_
    refine wpAny_loadName_local (v := .ref x) (by rfl) (by rfl) hns (by first | rfl | with_unfolding_all rfl | kernel_rfl) ?_
    refine ks_wpAny_isType_cls (X₁ _ _ hC) rfl ⟨rfl, ?_⟩
    refine ks_wpAny_call_super (X₁ _ _ hC) rfl hx₁ rfl (fun c e => by cases e) (looks_mroIn X₁ T.sc) (fun h2 e2 k2' => ?_)
    have X₂ : K.In h2 := X₁.keeps k2'
    have hx₂ := k2' _ _ hx₁
    have I2 : InstAt h2 x (excO C t0) C none := ⟨hx₂, rfl, rfl, trivial⟩
    refine kxs_getMethod (kxs_b i) e2 (looks_opaque X₂ T.ho) (l₀ := .ref C :: bm) ((looks_clsIn X₂ hcl).andThen .now) rfl X₂ hsi (I2.type.andThen (looks_subIn X₂ T.sv)) hxC (by decide) ?_
    have k3' : ∀ b o, h2.get? b = some o → (h2.push (kxs_mw (bIni i) x)).get? b = some o := fun b o e => Heap.get?_push_of_some _ e
    have hu : (h2.push (kxs_mw (bIni i) x)).get? h2.objs.size = some (kxs_mw (bIni i) x) := Heap.get?_push_at rfl rfl
    have hns3 := hns.keeps fun b o e => k3' b o (k2' b o e)
    refine kxs_callWith (i := bIni i) (x := x) (by rfl) (evalArgs_plain (spliced_cons ?_))
    refine ESX.ldL (v := v) hns3 (by first | rfl | with_unfolding_all rfl | kernel_rfl) (spliced_nil ⟨hu, ?_⟩) (by rfl) (by rfl) (by decide)
    refine call_mw (exb_b i) ((X₂.keeps k3') _ _ hC) (k3' _ _ hx₂) hu (one_size v) fun h4 t1 k4 hx₄ => ?_
    have k14 : ∀ b o, b ≠ x → h₁.get? b = some o → h4.get? b = some o := fun b o hbx e => k4 b o hbx (k3' b o (k2' b o e))
    have X₄ : K.In h4 := fun a o e => k14 a o (fun z => by rw [z, hnx] at e; cases e) (X₁ a o e)
    have hns4 := ns_to (h4 := h4) hns fun o e => k14 _ _ hL e
    refine wpAt_of_wpAny ?_
    refine wpAny_execs_cons (plainObj_wpAny_Assign_Attribute ?_)
    refine ESX.ldL (v := v) hns4 (by first | rfl | with_unfolding_all rfl | kernel_rfl) (ESX.ldL (v := .ref x) hns4 (by first | rfl | with_unfolding_all rfl | kernel_rfl) ?_ (by rfl) (by rfl) (by decide)) (by rfl) (by rfl) (by decide)
    refine set_plain X₄ (ox := excO C t1) (od := none) ⟨hx₄, rfl, rfl, trivial⟩ T.sa ?_
    refine osa_b i X₄ hx₄ hcl rfl hbm rfl T.noN (fun h₅ tk₅ dx k₅ dn dne hx₅ hn₅ => ?_)
    have big : hp.objs.size ≤ h4.objs.size := Nat.le_of_lt hns4.lt
    exact wpAny_execs_nil (hq h₅ _ dx ⟨fun b o hbx e => k₅ b o hbx (k14 b o hbx (hk b o e)), ⟨t1, hx₅⟩, Nat.le_trans big dn, dne, hn₅⟩))
theorem ex_made (T : ExW i prog K f C fI) {v : Value} (X : K.In s.heap) (hg : s.heap.Ns mainGlobals mg) (hbn : s.heap.Ns builtinsNs mb) (hb : ∀ x : Str, x ≠ "__name__" → mb x = bootBuiltins x) (hlim : s.heap.NoLimit) (hroom : A.depth + 1 < recursionLimit)
    (hq : ∀ h' tk e d, OwnMade f s.heap h' e C d v → R (.ok (.ret (.ref e))) { s with heap := h', toks := tk }) :
    codeAny (model prog w) A (.call (.ref C) ⟨[v], []⟩) R s := by
  obtain ⟨nm, q, N, bs, bm, sn, sub, ab, col, dd, k0, k1, k2, k3, k5, hC, hbm⟩ := T.cls
  obtain ⟨hp, g, dr, tk, os⟩ := s
  have k : ∀ b o, hp.get? b = some o → ((hp.push (kdv_tup [v])).push (excO C hp.objs.size)).get? b = some o := fun b o e => Heap.get?_push_of_some _ (Heap.get?_push_of_some _ e)
  have hget : ((hp.push (kdv_tup [v])).push (excO C hp.objs.size)).get? (hp.objs.size + 1) = some (excO C hp.objs.size) := by heap_get
  have hnx : K.lookup (hp.objs.size + 1) = none := by
    cases e : K.lookup (hp.objs.size + 1) with
    | none => rfl
    | some o =>
      have z : hp.get? (hp.objs.size + 1) = some o := X _ _ e
      exact absurd (Nat.lt_of_succ_lt (Heap.lt_size z)) (Nat.lt_irrefl _)
  refine call_own (exb_b i) (fun X => excTail_contains X bm hbm) (X _ _ hC) (looks_findIn X T.iC) (fun self => bind_fn X self T.tC) (one_size v) ?_
  refine ex_init (s := ⟨(hp.push (kdv_tup [v])).push (excO C hp.objs.size), g, dr, tk, os⟩) T (X.keeps k) (hg.keeps k) (hbn.keeps k) hb (hlim.keeps k) hget hnx ?_ fun h' tk' dx ⟨k', ⟨t1, hx⟩, dn, dne, hns⟩ => ?_
  · show A.depth + 1 < recursionLimit
    exact hroom
  · have old : ∀ b o, hp.get? b = some o → h'.get? b = some o := fun b o e => k' b o (Nat.ne_of_lt (Nat.lt_succ_of_lt (Heap.lt_size e))) (k b o e)
    have z : hp.objs.size + 1 + 1 ≤ dx := by
      first
        | (simpa only [Heap.size_push] using dn)
        | exact dn
        | (have q := dn; rw [Heap.size_push, Heap.size_push] at q; exact q)
    exact ⟨rfl, hq h' tk' (hp.objs.size + 1) dx ⟨old, Nat.le_succ _, ⟨_, _, hx, rfl, rfl, rfl, rfl⟩, Nat.le_trans (Nat.le_trans (Nat.le_succ _) (Nat.le_succ _)) z, dne, hns⟩⟩
end
end ExI
end PySem
namespace Py
open PySem PySem.Spec PyProof.Rows L2
theorem relO_ex {f : Str} {v : V} {v' : Value} (r : RelV v v') (g : Str) : RelO (List.lookup g [(f, v)]) (if g = f then some v' else none) := by
  by_cases hw : g = f
  · subst hw
    rw [if_pos rfl]
    have q : List.lookup g [(g, v)] = some v := by simp [List.lookup]
    rw [q]
    exact r
  · rw [if_neg hw]
    have qw : (g == f) = false := by simpa using hw
    have q2 : List.lookup g [(f, v)] = none := by simp [List.lookup, qw]
    rw [q2]
    trivial
def tMkX (C : Addr) (f : Str) (te : TE) : L2.St → Hp → XK → Prop := fun σ H Q => te σ H fun v H1 => ∀ d, H1 d = none → Q (.ref C) (some d) (upd H1 d (.xd [(f, v)]))
section
variable {X : Cx} {C fI : Addr} {f : Str} {i : Bool}
theorem pmk_exw {x : Str} {a : Expr} {te : TE} {p pos : Pos} {k : Nat} (T : ExI.ExW i X.prog X.K f C fI) (gC : X.mg x = some (.ref C)) (hr : RoomG k X.A) (ha : PE X a te) (hg : Gl X x := by rfl) (hdb : (x == ("__debug__" : Str)) = false := by decide)
    (he : starEach (a :: []) X.env = (false, eval a X.env) :: starEach [] X.env := by rfl) (hpl : (backTo pos (starEach [] X.env)).any (·.1) = false := by rfl) :
    PMk X (.Call (.Name x p) [a] [] pos) (tMkX C f te) := by
  intro pins s σ H Q I h
  refine wpAny_Call_Name_kw (ld_glob I hg gC ?_ hdb)
  refine PySem.W.callWith_K (h₀ := X.base) I.ok.mod.kin T.kC ?_ he hpl
  rw [he]
  show wpAny _ _ (spliced ((false, eval a X.env) :: backTo pos (starEach [] X.env))) _ _ s
  refine Calls.spliced_cons (thn (ha.run pins s σ H _ I h) fun v' s1 ⟨v, H1, I1, rv, q1⟩ => ?_)
  refine Calls.spliced_nil ⟨I1.kIn, ?_⟩
  show wpAny _ _ (call (.ref C) [v']) _ _ _
  have hlim := I1.nolimit
  obtain ⟨mb, hb1, hb2⟩ := I1.mod.blt
  have hgk := I1.mod.glob.keeps I1.bk
  have hbk := hb1.keeps I1.bk
  have hK := I1.kIn
  obtain ⟨hp, g, dr, tk, os⟩ := s1
  refine wpAny_call (ExI.ex_made (mb := mb) T hK hgk hbk hb2 hlim (by have := hr.rm.dp; omega) fun h' tk' e d M => ?_)
  show MkP X pins σ Q (.ref e) ⟨h', g, dr, tk', os⟩
  obtain ⟨oe, fv, hoe, hc, hd, hdat, h1⟩ := M.obj
  have hns := M.ns
  obtain ⟨G', g1, g2⟩ := restrict h' fun b => decide (b ≠ e)
  have gk : ∀ b, b ≠ e → G'.get? b = h'.get? b := fun b hb => g1 b (decide_eq_true hb)
  have ge : G'.get? e = none := g2 e (by simp)
  have old : ∀ b o, hp.get? b = some o → G'.get? b = some o := fun b o q => (gk b (Nat.ne_of_lt (Nat.lt_of_lt_of_le (Heap.lt_size q) M.new))).trans (M.keep b o q)
  have ob : ObjOk X.prog X.w (upd H1 d (.xd [(f, v)])) G' d (.xd [(f, v)]) :=
    ⟨_, hns.at (fun o q => (gk d M.dne).trans q), fun g => relO_ex rv g⟩
  have J : L2.Inv X pins σ (upd H1 d (.xd [(f, v)])) ⟨G', g, dr, tk', os⟩ := I1.laid (t' := tk') old M.dbig ob
  refine ⟨e, oe, fv, ⟨G', g, dr, tk', os⟩, _, .ref C, some d, rfl, J, fun b o q => ?_, ge, hoe, ⟨hc, hd⟩, hdat, h1, ?_, rfl, I1.bare, raises_own T.exC T.tyC, q1 d (I1.hok.fresh M.dbig)⟩
  · by_cases hb : b = e
    · have q' : G'.get? b = some o := q
      rw [hb, ge] at q'; cases q'
    · exact (gk b hb).symm.trans q
  · rw [upd_ne (Ne.symm M.dne)]
    exact I1.hok.fresh M.new
def tByX (C : Addr) (f : Str) (a : Addr) (cls : Value) (d : Option Addr) (te : TE) : TE := fun σ H Q => te σ H fun x H1 => x = .ref a ∧ cls = .ref C ∧ ∃ (dd : Addr) (v : V), d = some dd ∧ H1 dd = some (.xd [(f, v)]) ∧ Q v H1
theorem pe_byX {a : Addr} {oe : PySem.Obj} {cls : Value} {d : Option Addr} {pn : List (Addr × PySem.Obj)} {e : Expr} {te : TE} {pos : Pos} (T : ExI.ExW i X.prog X.K f C fI) (hz : Zc cls d oe) (hf : ∃ vs, oe.data = .fields vs) (he : PE (X.suite a ((a, oe) :: pn)) e te)
    (hb : attributeBase e f X.env (eval e X.env) = eval e X.env := by rfl) :
    PE (X.suite a ((a, oe) :: pn)) (.Attribute e f pos) (tByX C f a cls d te) := by
  refine ⟨fun pins s σ H Q I h => ?_⟩
  refine attr_of hb (thn (he.run pins s σ H _ I h) fun u s1 hh => ?_)
  obtain ⟨x, H1, I1, rx, ex, ec, dd, v, ed, ea, q⟩ := hh
  subst ex
  obtain rfl : u = Value.ref a := rx
  subst ec
  subst ed
  obtain ⟨ha, _⟩ := I1.pin (a, oe) (List.mem_append_left _ List.mem_cons_self)
  obtain ⟨vs, hd⟩ := hf
  have hx : ObjOk X.prog X.w H1 s1.heap dd (.xd [(f, v)]) := I1.hok dd _ ea
  obtain ⟨mA, hns, hr⟩ := hx
  obtain ⟨od, ho, hl⟩ := lookIn_ns hns
  have l : List.lookup f [(f, v)] = some v := by simp [List.lookup]
  obtain ⟨u, hu, ru⟩ := RelO.some_of (v := v) (o := mA f) (by rw [← l]; exact hr f)
  have J : PySem.W.InstAt s1.heap a oe C (some od) := ⟨ha, hz.1, by unfold PySem.W.notCls; rw [hd] <;> rfl, by rw [hz.2]; exact ho⟩
  exact HandSPX.exc_get I1.kIn J T.ga T.gg T.exC (PySem.W.findObj_own T.hdC T.noN rfl (by rw [hl, hu])) (handed_of ru) ⟨v, H1, I1.tok _, ru, q⟩
end
end Py
namespace L2
open PySem PySem.Spec PyProof.Rows
inductive HdsA (X : Cx) (n : Str) : List ExceptHandler → List (Value × (Addr → Value → Option Addr → TS)) → Prop
  | nil : HdsA X n [] []
  | cons {x : Str} {c : Value} {ts : Addr → Value → Option Addr → TS} {b₀ : Stmt} {suite : List Stmt} {np pos' : Pos} {hds : List ExceptHandler} {l : List (Value × (Addr → Value → Option Addr → TS))} (hc : Names X x c)
      (hsu : ∀ (a : Addr) (oe : Obj) (cls : Value) (d : Option Addr) (pn : List (Addr × Obj)), Zc cls d oe → (∃ vs, oe.data = .fields vs) → PSs (X.suite a ((a, oe) :: pn)) (b₀ :: suite) (ts a cls d)) (r : HdsA X n hds l) :
      HdsA X n (.ExceptHandler (some (.Name x np)) (some n) (b₀ :: suite) pos' :: hds) ((c, ts) :: l)
section
variable {X : Cx} {n : Str} {i : Nat} {body : List Stmt} {h₀ : ExceptHandler} {hds : List ExceptHandler} {l : List (Value × (Addr → Value → Option Addr → TS))} {pos : Pos} {tb : WX → TS} {Wout : WX}
end
end L2
namespace Py
open PySem PySem.Spec PyProof.Rows L2
def xRaise (c : Nat) (e : Ex) : Sx := fun sg h => (e sg h).bindS sg fun v h1 => .exc c [v] sg h1
structure XcOk (T : Tb) (P : Program) (K : PySem.W.Frag) (c : Nat) (f : Str) : Prop where
  fn : T.fn c = [f]
  ec : ExcC K (He.ga K (T.cn c))
  ex : ∃ ib fI, ExI.ExW ib P K f (He.ga K (T.cn c)) fI
section
variable {T : Tb} {X : Cx} {W : WX} {e : Expr} {fe : Ex} {pos p pos2 : Pos} {c k : Nat} {f x : Str}
theorem js_raise (hc : X.calm = true) (xc : XcOk T X.prog X.K c f) (gC : X.mg x = some (.ref (He.ga X.K (T.cn c)))) (hr : RoomG k X.A) (tk : Takes X W) (he : JE T X W e fe) (hg : Gl X x := by rfl) (hdb : (x == ("__debug__" : Str)) = false := by decide)
    (hs : starEach (e :: []) X.env = (false, eval e X.env) :: starEach [] X.env := by rfl) (hpl : (backTo pos (starEach [] X.env)).any (·.1) = false := by rfl) :
    JS T X W (.Raise (some (.Call (.Name x p) [e] [] pos)) none pos2) (xRaise c fe) := by
  obtain ⟨ib, fI, ex⟩ := xc.ex
  refine ps_imp (ps_raise hc tk (pmk_exw ex gC hr he hg hdb hs hpl)) fun D σ H ⟨io, h, F, sg, sr, rs, w⟩ => ⟨io, h, F, sg, sr, rs, WantsS.ofRes rs w fun v h1 io1 F1 H1 y st sr1 vr w1 d hd => ?_⟩
  refine w1 io1 (upd F1 d (.xd [(f, y)])) _ σ (some d) (sr1.allocStep hd _) (sr1.alloc hd _) ((rs.step st).step (sr1.allocStep hd (.xd [(f, y)]))) ?_
  unfold XR
  rw [xc.fn]
  exact ⟨d, [y], rfl, upd_same, .cons (vr.step (sr1.allocStep hd (.xd [(f, y)]))) .nil, rfl⟩
end
def unset (i : Nat) : ResS → ResS
  | .next sg h => .next (sg.set i none) h
  | .brk sg h => .brk (sg.set i none) h
  | .cont sg h => .cont (sg.set i none) h
  | .exc _ _ _ _ => .bad
  | r => r
def tryH (i : Nat) (c : Nat) (fs : List Val) (sg : Sg) (h : Hh) : List (Nat × (List Val → Sx)) → ResS
  | [] => .exc c fs sg h
  | (k, f) :: r => if c = k then unset i (f fs (sg.set i none) h) else tryH i c fs sg h r
def xTry (i : Nat) (cs : List Nat) (body : Sx) (hs : List (Nat × (List Val → Sx))) : Sx := fun sg h => match body sg h with
  | .exc c fs sg1 h1 => if c ∈ cs ∧ i < sg1.length then tryH i c fs sg1 h1 hs else .bad
  | r => r
theorem RSt.unset {T : Tb} {K : PySem.W.Frag} {io : Nat → Addr} {n : Nat} {F : Hp} {sg : Sg} {σ : L2.St} (r : RSt T K io n F sg σ) (i : Nat) (o : Option V) : RSt T K io n F (sg.set i none) (σ.set i o) := by
  refine ⟨by simp [r.len], fun j w e => ?_⟩
  by_cases hj : i = j
  · subst hj
    by_cases hl : i < sg.length
    · rw [List.getElem?_set_self hl] at e; cases e
    · rw [List.getElem?_eq_none (by simpa using hl)] at e; cases e
  · rw [List.getElem?_set_ne hj] at e
    obtain ⟨y, e1, e2⟩ := r.at_ j w e
    exact ⟨y, by rw [List.getElem?_set_ne hj]; exact e1, e2⟩
structure HX (T : Tb) (K : PySem.W.Frag) (io : Nat → Addr) (n : Nat) (F H : Hp) (i k : Nat) (a : Addr) (cls : Value) (d : Option Addr) (fs : List Val) (σ : L2.St) : Prop where
  at_ : σ[i]? = some (some (.ref a))
  cl : cls = .ref (He.ga K (T.cn k))
  xr : XR T K io n F H k fs d
def tHS (T : Tb) (K : PySem.W.Frag) (i k : Nat) (f : List Val → Sx) (a : Addr) (cls : Value) (d : Option Addr) : TS := fun D σ H => ∃ io h F sg fs, SR T K io h F H ∧ RSt T K io h.length F sg σ ∧ HX T K io h.length F H i k a cls d fs σ ∧ WantsS T K io h.length F H (fun _ _ _ _ => False) D (f fs sg h)
def tHE (T : Tb) (K : PySem.W.Frag) (i k : Nat) (f : List Val → Ex) (a : Addr) (cls : Value) (d : Option Addr) : TE := fun σ H Q => ∃ io h F sg fs, SR T K io h F H ∧ RSt T K io h.length F sg σ ∧ HX T K io h.length F H i k a cls d fs σ ∧ Wants T K io h.length F H (fun _ _ _ => False) Q (f fs sg h)
def tHT (T : Tb) (K : PySem.W.Frag) (i k : Nat) (f : List Val → Ex) (a : Addr) (cls : Value) (d : Option Addr) : TT := fun σ H Q => ∃ io h F sg fs, SR T K io h F H ∧ RSt T K io h.length F sg σ ∧ HX T K io h.length F H i k a cls d fs σ ∧ WantsB T K io h.length F H (fun _ _ _ => False) Q (f fs sg h)
section
variable {T : Tb} {K : PySem.W.Frag} {io io1 : Nat → Addr} {h h1 : Hh} {F F1 H H1 : Hp} {i k : Nat} {a : Addr} {cls : Value} {d : Option Addr} {fs : List Val} {σ : L2.St}
theorem XR.step {c : Nat} (sr : SR T K io h F H) (x : XR T K io h.length F H c fs d) (st : Step io h.length F H io1 h1.length F1 H1) : XR T K io1 h1.length F1 H1 c fs d := by
  unfold XR at x ⊢
  cases hfn : T.fn c with
  | nil => rw [hfn] at x; exact x
  | cons f r =>
    rw [hfn] at x
    obtain ⟨dd, xs, e1, e2, r, l⟩ := x
    refine ⟨dd, xs, e1, st.frame dd _ e2 fun j hj z => ?_, r.step st, l⟩
    subst z
    have ej : h[j]? = some h[j] := by simp [hj]
    have o := sr.obj j _ ej
    cases hq : h[j] with
    | lst vs => rw [hq] at o; obtain ⟨xs, q, _⟩ := o; rw [q] at e2; cases e2
    | ins c vs => rw [hq] at o; obtain ⟨dx, xs, q, _⟩ := o; rw [q] at e2; cases e2
    | dct ks vs => rw [hq] at o; obtain ⟨es, ep, xs, ys, q, _⟩ := o; rw [q] at e2; unfold DO at e2; cases e2
theorem HX.step (sr : SR T K io h F H) (x : HX T K io h.length F H i k a cls d fs σ) (st : Step io h.length F H io1 h1.length F1 H1) : HX T K io1 h1.length F1 H1 i k a cls d fs σ := ⟨x.at_, x.cl, x.xr.step sr st⟩
end
section
variable {T : Tb} {X : Cx} {W : WX} {n : Str} {i : Nat} {cs : List Nat} {body : List Stmt} {h₀ : ExceptHandler} {hds : List ExceptHandler} {pos : Pos} {fb : Sx}
inductive HdJ (T : Tb) (X : Cx) (n : Str) (i : Nat) : List ExceptHandler → List (Nat × (List Val → Sx)) → Prop
  | nil : HdJ T X n i [] []
  | cons {x : Str} {k : Nat} {f : List Val → Sx} {b₀ : Stmt} {suite : List Stmt} {np pos' : Pos} {hds : List ExceptHandler} {l : List (Nat × (List Val → Sx))} (hm : X.mg x = some (.ref (He.ga X.K (T.cn k)))) (hg : Gl X x) (hdb : (x == ("__debug__" : Str)) = false)
      (hsu : ∀ (a : Addr) (oe : PySem.Obj) (cls : Value) (d : Option Addr) (pn : List (Addr × PySem.Obj)), Zc cls d oe → (∃ vs, oe.data = .fields vs) → PSs (X.suite a ((a, oe) :: pn)) (b₀ :: suite) (tHS T X.K i k f a cls d)) (r : HdJ T X n i hds l) :
      HdJ T X n i (.ExceptHandler (some (.Name x np)) (some n) (b₀ :: suite) pos' :: hds) ((k, f) :: l)
abbrev ExmOk (T : Tb) (K : PySem.W.Frag) (cs : List Nat) : Prop := ∀ c ∈ cs, ∀ k ∈ cs, PySem.W.exmOne K (.ref (He.ga K (T.cn c))) (.ref (He.ga K (T.cn k))) = some (decide (c = k))
theorem WantsS.unset {K : PySem.W.Frag} {io : Nat → Addr} {n : Nat} {F H : Hp} {W : WX} {D : Ends} {i : Nat} {r : ResS} (w : WantsS T K io n F H W D (Py.unset i r)) :
    WantsS T K io n F H (fun _ _ _ _ => False) { nx := fun σ' H' => D.nx (σ'.set i none) H', rt := D.rt, bk := fun σ' H' => D.bk (σ'.set i none) H', ct := fun σ' H' => D.ct (σ'.set i none) H' } r := by
  cases r with
  | next sg h => exact fun io' F' H' σ' st sr rs => w io' F' H' _ st sr (rs.unset i none)
  | brk sg h => exact fun io' F' H' σ' st sr rs => w io' F' H' _ st sr (rs.unset i none)
  | cont sg h => exact fun io' F' H' σ' st sr rs => w io' F' H' _ st sr (rs.unset i none)
  | ret v h => exact w
  | exc c fs sg h => exact w.elim
  | bad => exact w
end
section
variable {T : Tb} {X : Cx} {i k : Nat} {a : Addr} {oe : PySem.Obj} {cls : Value} {d : Option Addr} {pn : List (Addr × PySem.Obj)} {pos p p1 p2 : Pos}
abbrev Wf : WX := fun _ _ _ _ => False
theorem jh_of {X : Cx} {e : Expr} {f : Ex} (h : JE T X Wf e f) : PE X e (tHE T X.K i k (fun _ => f) a cls d) :=
  pe_imp h fun σ H Q ⟨io, h, F, sg, fs, sr, rs, hx, w⟩ => ⟨io, h, F, sg, sr, rs, w⟩
def xXfld : List Val → Ex := fun fs _ h => match fs with
  | [v] => .ok v h
  | _ => .bad
theorem jh_fld {n f : Str} (xc : XcOk T X.prog X.K k f) (hz : Zc cls d oe) (hf : ∃ vs, oe.data = .fields vs) (hN : X.N[i]? = some n := by rfl) (hv : Vis X.env.scope n := by first | exact Or.inl rfl | exact Or.inr (Or.inl rfl) | exact Or.inr (Or.inr rfl)) (hd : (n == ("__debug__" : Str)) = false := by decide) (hcd : (n == ("__classdict__" : Str)) = false := by decide)
    (hb : attributeBase (.Name n p) f X.env (eval (.Name n p) X.env) = eval (.Name n p) X.env := by rfl) : PE (X.suite a ((a, oe) :: pn)) (.Attribute (.Name n p) f pos) (tHE T X.K i k xXfld a cls d) := by
  obtain ⟨ib, fI, ex⟩ := xc.ex
  refine pe_imp (pe_byX ex hz hf (pe_var (X := X.suite a ((a, oe) :: pn)) hN hv hd hcd) hb) fun σ H Q ⟨io, h, F, sg, fs, sr, rs, hx, w⟩ => ?_
  have xr := hx.xr
  unfold XR at xr
  rw [xc.fn] at xr
  obtain ⟨dd, xs, ed, eh, r, hl⟩ := xr
  match xs, hl with
  | [y], _ =>
    cases r with
    | @cons v _ _ _ r1 r2 =>
      cases r2
      exact ⟨_, hx.at_, rfl, hx.cl, dd, y, ed, eh, w io F H y .refl sr r1⟩
theorem call_isX {X : Cx} {a D dd : Addr} {oe : PySem.Obj} {pn : List (Addr × PySem.Obj)} (C : ExcC X.K D) (hz : Zc (.ref D) (some dd) oe) (hf : ∃ vs, oe.data = .fields vs) : CallR (X.suite a ((a, oe) :: pn)) (.builtin "isinstance")
    (fun xs H Q => ∃ (c : V) (cv : Value) (b : Bool) (l : List (Str × V)), xs = [.ref a, c] ∧ H dd = some (.xd l) ∧ (∀ u, RelV c u → u = cv) ∧ PySem.W.kitOne X.K (.ref D) cv = some b ∧ Q (.bl b) H) := by
  intro pins s σ H xs us Q I r h
  obtain ⟨c, cv, b, l, rfl, hd, hcv, e, q⟩ := h
  cases r with
  | cons rx rr =>
    cases rr with
    | cons rt rr =>
      cases rr
      cases rx
      have ec := hcv _ rt
      subst ec
      obtain ⟨hget, _⟩ := I.pin (a, oe) (List.mem_append.mpr (.inl List.mem_cons_self))
      obtain ⟨vs, hv⟩ := hf
      have hx : ObjOk X.prog X.w H s.heap dd (.xd l) := I.hok dd _ hd
      obtain ⟨mA, hns, hr⟩ := hx
      obtain ⟨od, ho, hl⟩ := lookIn_ns hns
      have J : PySem.W.InstAt s.heap a oe D (some od) := ⟨hget, hz.1, by unfold PySem.W.notCls; rw [hv] <;> rfl, by rw [hz.2]; exact ho⟩
      have hcl : (PySem.W.clsIn X.K D).isSome = true := by obtain ⟨cd, hc, _⟩ := PySem.W.any_some C.hd; rw [hc]; rfl
      exact PySem.W.kia_one (PySem.W.kitx_exc hcl C.hg C.hk C.hs C.ha C.hn C.ht C.hm) I.kIn J e (fun z => nomatch z) fun tk => ⟨.bl b, H, I.kept (t' := tk) fun _ _ z => z, rfl, q⟩
theorem jh_isE {n x f : Str} {cv : Value} {v : V} {b : Bool} (xc : XcOk T X.prog X.K k f) (hz : Zc cls d oe) (hf : ∃ vs, oe.data = .fields vs) (hn : X.mg "isinstance" = none) (hcE : PE (X.suite a ((a, oe) :: pn)) (.Name x p2) (L2.tC v)) (hcv : ∀ u, RelV v u → u = cv) (kb : PySem.W.kitOne X.K (.ref (He.ga X.K (T.cn k))) cv = some b) (hN : X.N[i]? = some n := by rfl) (hv : Vis X.env.scope n := by first | exact Or.inl rfl | exact Or.inr (Or.inl rfl) | exact Or.inr (Or.inr rfl)) (hd : (n == ("__debug__" : Str)) = false := by decide) (hcd : (n == ("__classdict__" : Str)) = false := by decide)
    (hg : Gl X "isinstance" := by rfl)
    (hs : starEach [.Name n p, .Name x p2] X.env = (false, eval (.Name n p) X.env) :: starEach [.Name x p2] X.env := by rfl) (hs2 : starEach [.Name x p2] X.env = (false, eval (.Name x p2) X.env) :: starEach [] X.env := by rfl) (hpl : (backTo pos (starEach [.Name x p2] X.env)).any (·.1) = false := by rfl) :
    PE (X.suite a ((a, oe) :: pn)) (.Call (.Name "isinstance" p1) [.Name n p, .Name x p2] [] pos) (tHE T X.K i k (fun _ _ h => .ok (.bl b) h) a cls d) := by
  have key : ∀ σ H fs io n F, HX T X.K io n F H i k a cls d fs σ → cls = .ref (He.ga X.K (T.cn k)) ∧ ∃ dd l, d = some dd ∧ H dd = some (.xd l) := fun σ H fs io n F hx => by
    have xr := hx.xr
    unfold XR at xr
    rw [xc.fn] at xr
    obtain ⟨dd, xs, ed, eh, r, hl⟩ := xr
    exact ⟨hx.cl, dd, _, ed, eh⟩
  refine ⟨fun pins s σ H Q I hh => ?_⟩
  obtain ⟨io, h, F, sg, fs, sr, rs, hx, w⟩ := hh
  obtain ⟨ec, dd, l, ed, eh⟩ := key _ _ _ _ _ _ hx
  subst ec ed
  exact (pe_callB (call_isX xc.ec hz hf) hg hn (by decide +kernel) (pa_cons (pe_var (X := X.suite a ((a, oe) :: pn)) hN hv hd hcd) (pa_cons hcE pa_nil hs2) hs) (by decide) (by decide) hs hpl).run pins s σ H Q I ⟨_, hx.at_, v, cv, b, l, rfl, eh, hcv, kb, w io F H _ .refl sr (.bl b)⟩
theorem jht_val {X : Cx} {e : Expr} {f : List Val → Ex} (h : PE X e (tHE T X.K i k f a cls d)) (he : ∀ whole, isTrue e X.env whole = (do let v ← whole; standAt e.pos; holding [v] (truthy v)) := by intro _; rfl) : PT X e (tHT T X.K i k f a cls d) :=
  pt_imp (pt_val h he) fun σ H Q ⟨io, h, F, sg, fs, sr, rs, hx, w⟩ => ⟨io, h, F, sg, fs, sr, rs, hx, by
    cases e : f fs sg h with
    | ok v h' =>
      rw [e] at w
      cases v with
      | bl k => exact fun io' F' H' x st sr' vr => by cases vr; exact ⟨k, rfl, w io' F' H' st sr'⟩
      | _ => exact False.elim w
    | exc c fs h' => rw [e] at w; exact w
    | bad => rw [e] at w; exact w⟩
variable {X : Cx} {ea eb ec : Expr} {fa fb fc : List Val → Ex} {rest : List Expr}
theorem jht_not (ha : PT X ea (tHT T X.K i k fa a cls d)) : PT X (.UnaryOp .Not ea pos) (tHT T X.K i k (fun fs => xNot (fa fs)) a cls d) := by
  refine pt_imp (pt_not ha) fun σ H Q ⟨io, h, F, sg, fs, sr, rs, hx, w⟩ => ⟨io, h, F, sg, fs, sr, rs, hx, WantsB.test w fun v h1 io1 F1 H1 st sr1 w1 => ?_⟩
  cases v with
  | true => rw [if_pos rfl] at w1; exact w1 io1 F1 H1 .refl sr1
  | false => rw [if_neg Bool.false_ne_true] at w1; exact w1 io1 F1 H1 .refl sr1
theorem jhw_one (ha : PT X ea (tHT T X.K i k fa a cls d)) : PW X (.BoolOp .And [ea] pos) (tHT T X.K i k fa a cls d) := pw_and1 ha
theorem jhw_and (ha : PT X ea (tHT T X.K i k fa a cls d)) (hb : PW X (.BoolOp .And (eb :: rest) pos) (tHT T X.K i k fb a cls d)) : PW X (.BoolOp .And (ea :: eb :: rest) pos) (tHT T X.K i k (fun fs => xAnd (fa fs) (fb fs)) a cls d) := by
  refine pw_imp (pw_and ha hb) fun σ H Q ⟨io, h, F, sg, fs, sr, rs, hx, w⟩ => ⟨io, h, F, sg, fs, sr, rs, hx, WantsB.test w fun v h1 io1 F1 H1 st sr1 w1 => ?_⟩
  cases v with
  | true => rw [if_pos rfl] at w1 ⊢; exact ⟨io1, h1, F1, sg, fs, sr1, rs.step st, hx.step sr st, w1⟩
  | false => rw [if_neg Bool.false_ne_true] at w1 ⊢; exact w1 io1 F1 H1 .refl sr1
theorem jht_w {f : List Val → Ex} (h : PW X ea (tHT T X.K i k f a cls d)) : PT X ea (tHT T X.K i k f a cls d) := h.pt
theorem jh_if (hc : PT X ec (tHT T X.K i k fc a cls d)) (ha : PE X ea (tHE T X.K i k fa a cls d)) (hb : PE X eb (tHE T X.K i k fb a cls d)) : PE X (.IfExp ec ea eb pos) (tHE T X.K i k (fun fs => xIf (fc fs) (fa fs) (fb fs)) a cls d) := by
  refine pe_imp (pe_ifExp hc ha hb) fun σ H Q ⟨io, h, F, sg, fs, sr, rs, hx, w⟩ => ⟨io, h, F, sg, fs, sr, rs, hx, Wants.test w fun v h1 io1 F1 H1 st sr1 w1 => ?_⟩
  cases v with
  | true => rw [if_pos rfl] at w1 ⊢; exact ⟨io1, h1, F1, sg, fs, sr1, rs.step st, hx.step sr st, w1⟩
  | false => rw [if_neg Bool.false_ne_true] at w1 ⊢; exact ⟨io1, h1, F1, sg, fs, sr1, rs.step st, hx.step sr st, w1⟩
theorem jh_op {op : Operator} {r : R2} {g : G2} (ho : OpR X (binaryOp op) r) (hl : Lift2 T X.K r g) (ha : PE X ea (tHE T X.K i k fa a cls d)) (hb : PE X eb (tHE T X.K i k fb a cls d)) : PE X (.BinOp ea op eb pos) (tHE T X.K i k (fun fs => xOp g (fa fs) (fb fs)) a cls d) := by
  refine pe_imp (pe_op ho ha hb) fun σ H Q ⟨io, h, F, sg, fs, sr, rs, hx, w⟩ => ⟨io, h, F, sg, fs, sr, rs, hx, Wants.bind w fun v h1 io1 F1 H1 x st sr1 vr w1 => ⟨io1, h1, F1, sg, fs, sr1, rs.step st, hx.step sr st, Wants.bind w1 fun u h2 io2 F2 H2 y st2 sr2 vr2 w2 => ?_⟩⟩
  obtain ⟨z, e, w3⟩ := wants_ofO w2
  exact hl io2 h2 F2 H2 v u x y z Q sr2 (vr.step st2) vr2 e fun F' H' x' st' sr' vr' => w3 io2 F' H' x' st' sr' vr'
theorem jh_tup2 {x1} (ha : PE X ea (tHE T X.K i k fa a cls d)) (hb : PE X eb (tHE T X.K i k fb a cls d)) (hs : starEach [ea, eb] X.env = (false, eval ea X.env) :: starEach [eb] X.env := by rfl) (hs2 : starEach [eb] X.env = (false, eval eb X.env) :: starEach [] X.env := by rfl) :
    PE X (.Tuple [ea, eb] x1 pos) (tHE T X.K i k (fun fs => xTup (xCons (fa fs) (xCons (fb fs) xNil))) a cls d) := by
  refine pe_imp (pe_tup (pa_cons ha (pa_cons hb pa_nil hs2) hs)) fun σ H Q ⟨io, h, F, sg, fs, sr, rs, hx, w⟩ => ⟨io, h, F, sg, fs, sr, rs, hx, ?_⟩
  unfold xTup at w
  have w := Wants.bindOfL w (R := fun xs H1 => xs.length ≤ sizeLine ∧ ∀ p, H1 p = none → Q (.ref p) (upd H1 p (.tup xs))) fun vs h1 io1 F1 H1 xs st sr1 vrs w1 => by
    by_cases hz : vs.length ≤ 1000000
    · rw [if_pos hz] at w1
      refine ⟨by rw [← vrs.length]; exact sizeOk hz, fun p hp => ?_⟩
      exact w1 io1 _ _ _ (sr1.allocStep hp _) (sr1.alloc hp _) (.tup (.inl (.inl upd_same)) (vrs.step (sr1.allocStep hp (.tup xs))))
    · rw [if_neg hz] at w1; exact w1.elim
  refine WantsL.ofBind w fun v h1 io1 F1 H1 x st sr1 vr w1 => ⟨io1, h1, F1, sg, fs, sr1, rs.step st, hx.step sr st, ?_⟩
  unfold xCons at w1
  cases e : fb fs sg h1 with
  | ok u h2 =>
    rw [e] at w1
    exact fun io2 F2 H2 y st2 sr2 vr2 => w1 io2 F2 H2 [x, y] st2 sr2 (.cons (vr.step st2) (.cons vr2 .nil))
  | exc c fs1 h2 => rw [e] at w1; exact w1
  | bad => rw [e] at w1; exact w1
theorem jhs_set (j : Nat) {x : Str} {pos' : Pos} (hN : X.N.Nodup) (he : PE X ea (tHE T X.K i k fa a cls d)) (hi : X.N[j]? = some x := by rfl) (hx : Loc X.env.scope x := by first | exact .inl rfl | exact .inr rfl) (hs : swapsWith ea (some (.Name x pos')) pos.line X.env = pure false := by rfl)
    (hf : X.fn x = true ∨ X.env.scope.names.lookup x = some .local := by first | exact .inl rfl | exact .inr rfl | assumption) : PSs X [.Assign [.Name x pos'] ea pos] (tHS T X.K i k (fun fs => xSet j (fa fs)) a cls d) :=
  pss_one (ps_imp (ps_set hN hi hx he hs hf) fun D σ H ⟨io, h, F, sg, fs, sr, rs, hx, w⟩ => ⟨io, h, F, sg, fs, sr, rs, hx, WantsS.ofRes rs w fun v h1 io1 F1 H1 x st sr1 vr w1 => w1 io1 F1 H1 _ .refl sr1 ((rs.step st).set j vr)⟩)
end
end Py
namespace PySem
namespace ExI
open PySem.W PySem.Calls PyProof.Rows PySem.HandSPX
theorem argsB_ok {f : Str} {a : Arguments} (h : argsB f a = true) : ∃ p1 p2, a = iA f p1 p2 := by
  unfold argsB at h
  split at h
  · simp only [Bool.and_eq_true, decide_eq_true_eq] at h
    obtain ⟨rfl, rfl⟩ := h
    exact ⟨_, _, rfl⟩
  · cases h
theorem bodyB_ok {f : Str} {b : FuncBody} (h : bodyB f b = true) : ∃ a1 a2 a3 a4 a5 a6 q1 q2 q3 q4, a3.endLine = a5.line ∧ b = .stmts (iB f a1 a2 a3 a4 a5 a6 q1 q2 q3 q4) := by
  unfold bodyB at h
  split at h
  · simp only [Bool.and_eq_true, decide_eq_true_eq] at h
    obtain ⟨hl, rfl, rfl, rfl, rfl, rfl, rfl⟩ := h
    exact ⟨_, _, _, _, _, _, _, _, _, _, hl, rfl⟩
  · cases h
theorem initB_ok {P : Program} {K : Frag} {file f : Str} {C fI : Addr} (hP : P.main.file = file) (h : initB K file f C fI = true) :
  ∃ (oc : Value) (od : Option Addr) (doc pm : Value) (an : Option Addr) (cda : Addr) (ct : Value) (osl : Array (Option Value)) (cc : Addr) (qual : Str) (p1 p2 a1 a2 a3 a4 a5 a6 q1 q2 q3 q4 : Pos), a3.endLine = a5.line ∧
    K.lookup fI = some ⟨oc, od, .func (ksFn "__init__" qual (iA f p1 p2) (iB f a1 a2 a3 a4 a5 a6 q1 q2 q3 q4) (iS f) .none .none doc pm an (.ref cda) ct cc), osl⟩ ∧ codeIn K (.ref cda) qual = true ∧
    (∃ (ccl : Value) (cdd : Option Addr) (vs : Array Value) (ccs : Array (Option Value)) (fl : Str) (tf : Tok), K.lookup cda = some ⟨ccl, cdd, .fields vs, ccs⟩ ∧ vs[2]? = some (.str fl tf) ∧ ((P.main.file : Str) == fl) = true) ∧
    ∃ (cl : Value) (cld : Option Addr) (csl : Array (Option Value)), K.lookup cc = some ⟨cl, cld, .cell (some (.ref C)), csl⟩ := by
  unfold initB at h
  split at h
  · rename_i oc od nm q pr bd sc gl cn cc doc pm an cda ct bt osl ho
    obtain ⟨h1, h⟩ := He.ba h
    obtain ⟨h2, h⟩ := He.ba h
    obtain ⟨h3, h⟩ := He.ba h
    obtain ⟨h4, h⟩ := He.ba h
    obtain ⟨h5, h⟩ := He.ba h
    obtain ⟨h6, h⟩ := He.ba h
    obtain ⟨h7, h⟩ := He.ba h
    obtain ⟨h8, h⟩ := He.ba h
    obtain ⟨h9, h10⟩ := He.ba h
    have e1 := of_decide_eq_true h1
    obtain ⟨p1, p2, e2⟩ := argsB_ok h2
    obtain ⟨a1, a2, a3, a4, a5, a6, q1, q2, q3, q4, hln, e3⟩ := bodyB_ok h3
    have e4 := of_decide_eq_true h4
    have e5 := of_decide_eq_true h5
    have e6 := of_decide_eq_true h6
    have e7 := of_decide_eq_true h7
    subst e1 e2 e3 e4 e5 e6 e7
    refine ⟨oc, od, doc, pm, an, cda, ct, osl, cc, q, p1, p2, a1, a2, a3, a4, a5, a6, q1, q2, q3, q4, hln, ho, h8, ?_, ?_⟩
    · split at h9
      · rename_i ccl cdd vs ccs hc
        split at h9
        · rename_i fl tf hv
          exact ⟨ccl, cdd, vs, ccs, fl, tf, hc, hv, by rw [hP]; exact h9⟩
        · cases h9
      · cases h9
    · split at h10
      · rename_i cl cld D csl hc
        have e := of_decide_eq_true h10
        subst e
        exact ⟨cl, cld, csl, hc⟩
      · cases h10
  · cases h
theorem clsB_ok {i : Bool} {K : Frag} {C : Addr} (q : clsB i K C = true) : ∃ nm q N bs bm sn sub ab col dd k0 k1 k2 k3 k5, K.lookup C = some (excClassObj nm q C N bs bm true sn sub ab col dd k0 k1 k2 k3 k5 (bNew i)) ∧ excTail (bTl i) bm = true := by
  unfold clsB at q
  split at q
  · rename_i dd cd sl ho
    split at q
    · rename_i C' bm k0 k1 k2 k3 n k5 hm hs
      simp only [Bool.and_eq_true, beq_iff_eq, Bool.not_eq_true'] at q
      obtain ⟨⟨⟨⟨rfl, rfl⟩, hdel⟩, hdct⟩, ht⟩ := q
      obtain ⟨nm, bs, mro, ns, qn, hd, sn, sub, ab, col, del⟩ := cd
      dsimp only at hm hdel hdct
      subst hm hdel hdct
      have hsl : sl = #[k0, k1, k2, k3, some (.builtin (bNew i)), k5] := by
        obtain ⟨l⟩ := sl
        simp only at hs
        rw [hs]
      subst hsl
      exact ⟨nm, qn, ns, bs, bm, sn, sub, ab, col, dd, k0, k1, k2, k3, k5, ho, ht⟩
    · cases q
  · cases q
theorem exw_of {i : Bool} {P : Program} {K : Frag} {file f : Str} {C fI : Addr} (hP : P.main.file = file) (hS : (P.main.scope.names.lookup ("super" : Str)).isSome = false) (h : exwB i K file C fI f = true) : ExW i P K f C fI := by
  obtain ⟨h1, h⟩ := He.ba h
  obtain ⟨h2, h⟩ := He.ba h
  obtain ⟨h3, h⟩ := He.ba h
  obtain ⟨h4, h⟩ := He.ba h
  obtain ⟨h5, h⟩ := He.ba h
  obtain ⟨h6, h⟩ := He.ba h
  obtain ⟨h7, h⟩ := He.ba h
  obtain ⟨h8, h⟩ := He.ba h
  obtain ⟨h9, h⟩ := He.ba h
  obtain ⟨h10, h⟩ := He.ba h
  obtain ⟨h11, h⟩ := He.ba h
  obtain ⟨h12, h⟩ := He.ba h
  obtain ⟨h13, h⟩ := He.ba h
  obtain ⟨h14, h⟩ := He.ba h
  obtain ⟨h15, h⟩ := He.ba h
  obtain ⟨h16, h⟩ := He.ba h
  obtain ⟨h17, h18⟩ := He.ba h
  exact {
    ff := by simpa only [Bool.or_eq_true, decide_eq_true_eq] using h1
    cls := clsB_ok h2
    sa := He.eqO_ok h4
    ga := He.eqO_ok h5
    gg := He.eqO_ok h6
    noN := He.eqO_ok h7
    iC := He.eqO_ok h8
    tC := of_decide_eq_true h9
    kC := h10
    exC := of_decide_eq_true h11
    tyC := of_decide_eq_true h12
    hdC := h13
    ho := He.eqO_ok h14
    su := He.eqO_ok h15
    si := He.eqO_ok h16
    sv := of_decide_eq_true h17
    sc := of_decide_eq_true h18
    top := hS
    fn := initB_ok hP h3 }
end ExI
end PySem
namespace Py
open PySem PySem.Spec PyProof.Rows L2
theorem exc_of {K : PySem.W.Frag} {D : Addr} (h : excB K D = true) : ExcC K D := by
  obtain ⟨h1, h⟩ := He.ba h
  obtain ⟨h2, h⟩ := He.ba h
  obtain ⟨h3, h⟩ := He.ba h
  obtain ⟨h4, h⟩ := He.ba h
  obtain ⟨h5, h⟩ := He.ba h
  obtain ⟨h6, h⟩ := He.ba h
  obtain ⟨h7, h8⟩ := He.ba h
  exact ⟨He.eqO_ok h1, He.eqO_ok h2, of_decide_eq_true h3, h4, He.eqO_ok h5, He.eqO_ok h6, of_decide_eq_true h7, of_decide_eq_true h8⟩
theorem xc_of {T : Tb} {P : Program} {K : PySem.W.Frag} {file x f : Str} {c : Nat} (hP : P.main.file = file) (hS : (P.main.scope.names.lookup ("super" : Str)).isSome = false) (hf : T.fn c = [f]) (hx : T.cn c = x) (h : xcB K file x f = true) : XcOk T P K c f := by
  subst hx
  obtain ⟨h1, h2⟩ := He.ba h
  rcases Bool.or_eq_true _ _ ▸ h1 with h1 | h1
  · exact ⟨hf, exc_of h2, _, _, ExI.exw_of hP hS h1⟩
  · exact ⟨hf, exc_of h2, _, _, ExI.exw_of hP hS h1⟩
theorem em_of {T : Tb} {K : PySem.W.Frag} {cs : List Nat} (h : emB K T.cn cs = true) : ExmOk T K cs := fun c hc k hk => of_decide_eq_true (List.all_eq_true.mp (List.all_eq_true.mp h c hc) k hk)
theorem nr_raise {c : Nat} {e : Ex} : ∀ (sg : Sg) (h : Hh), noRet (xRaise c e sg h) = true := fun sg h => by
  unfold xRaise Res.bindS
  cases e sg h <;> rfl
end Py
namespace Py
open PySem PySem.Spec PyProof.Rows L2
def rNeL (K : PySem.W.Frag) : R2 := fun x y H Q => ∃ a b xs ys, x = .ref a ∧ y = .ref b ∧ SqL K H a xs ∧ SqL K H b ys ∧ xs.length ≠ ys.length ∧ Q (.bl true) H
def rEqL (K : PySem.W.Frag) : R2 := fun x y H Q => ∃ a b xs ys, x = .ref a ∧ y = .ref b ∧ SqL K H a xs ∧ SqL K H b ys ∧ xs.length ≠ ys.length ∧ Q (.bl false) H
theorem op_neL {X : Cx} (hu : X.A.units + 64 < cLine) : OpR X (compareOp .NotEq) (rNeL X.K) := by
  intro pins s σ H x y v u Q I rx ry h
  obtain ⟨a, b, xs, ys, rfl, rfl, ha, hb, hn, q⟩ := h
  cases rx
  cases ry
  obtain ⟨its, rv, pl, _⟩ := I.list ha
  obtain ⟨jts, rw', pm, _⟩ := I.list hb
  have e1 := rv.length
  have e2 := rw'.length
  exact PySem.SeqAt.RcNeAt.lists_lengths pl.isList pm.isList (by simp only [List.size_toArray, bne_iff_ne]; omega) (by omega) _ _ _ _ ⟨.bl true, H, I, rfl, q⟩
theorem op_eqL {X : Cx} (hu : X.A.units + 64 < cLine) : OpR X (compareOp .Eq) (rEqL X.K) := by
  intro pins s σ H x y v u Q I rx ry h
  obtain ⟨a, b, xs, ys, rfl, rfl, ha, hb, hn, q⟩ := h
  cases rx
  cases ry
  obtain ⟨its, rv, pl, _⟩ := I.list ha
  obtain ⟨jts, rw', pm, _⟩ := I.list hb
  have e1 := rv.length
  have e2 := rw'.length
  exact PySem.SeqAt.RcAt.lists_lengths pl.isList pm.isList (by simp only [List.size_toArray, bne_iff_ne]; omega) (by omega) _ _ _ _ ⟨.bl false, H, I, rfl, q⟩
def gNeE : G2 := fun h v u => match lstOf h v, lstOf h u with
  | some (_ :: _), some [] => some (.bl true)
  | _, _ => gNe h v u
def gEqE : G2 := fun h v u => match lstOf h v, lstOf h u with
  | some (_ :: _), some [] => some (.bl false)
  | _, _ => gEq h v u
theorem op_neE {X : Cx} (hu : X.A.units + 64 < cLine) : OpR X (compareOp .NotEq) (fun x y H Q => rNeD X.K x y H Q ∨ rNeL X.K x y H Q) := OpR.or (op_neD hu) (op_neL hu)
theorem op_eqE {X : Cx} (hu : X.A.units + 64 < cLine) : OpR X (compareOp .Eq) (fun x y H Q => rEqD X.K x y H Q ∨ rEqL X.K x y H Q) := OpR.or (op_eqD hu) (op_eqL hu)
theorem lift_neE {T : Tb} {K : PySem.W.Frag} : Lift2 T K (fun x y H Q => rNeD K x y H Q ∨ rNeL K x y H Q) gNeE := by
  intro io h F H v u x y z Q sr vr ur e q
  unfold gNeE at e
  split at e
  · rename_i w us e1 e2
    cases e
    obtain ⟨a, xs, rfl, s1, r1⟩ := lstOf_ok sr vr e1
    obtain ⟨b, ys, rfl, s2, r2⟩ := lstOf_ok sr ur e2
    have l1 := r1.length
    have l2 := r2.length
    simp at l1 l2
    exact .inr ⟨a, b, xs, ys, rfl, rfl, s1, s2, by omega, q F H _ .refl sr (.bl true)⟩
  · exact .inl (lift_neD io h F H v u x y z Q sr vr ur e q)
theorem lift_eqE {T : Tb} {K : PySem.W.Frag} : Lift2 T K (fun x y H Q => rEqD K x y H Q ∨ rEqL K x y H Q) gEqE := by
  intro io h F H v u x y z Q sr vr ur e q
  unfold gEqE at e
  split at e
  · rename_i w us e1 e2
    cases e
    obtain ⟨a, xs, rfl, s1, r1⟩ := lstOf_ok sr vr e1
    obtain ⟨b, ys, rfl, s2, r2⟩ := lstOf_ok sr ur e2
    have l1 := r1.length
    have l2 := r2.length
    simp at l1 l2
    exact .inr ⟨a, b, xs, ys, rfl, rfl, s1, s2, by omega, q F H _ .refl sr (.bl false)⟩
  · exact .inl (lift_eqD io h F H v u x y z Q sr vr ur e q)
section
variable {X : Cx} {a b c d : Expr} {ta tb tc td : TE} {pos : Pos} {op op' op2 : CmpOp} {r r' r2 : R2}
end
section
variable {T : Tb} {X : Cx} {W : WX} {a b c d : Expr} {fa fb fc fd : Ex} {pos : Pos} {op op' op2 : CmpOp} {r r' r2 : R2} {g g' g2 : G2}
end
end Py
namespace Py
open PySem PySem.Spec PyProof.Rows L2
section
variable {T : Tb} {X : Cx} {o i : Expr} {fo fi : Ex} {pos : Pos}
end
end Py
namespace HT
open PySem PySem.Spec PyProof.Rows
section
variable {prog : Program} {w : World} {A : Around} {E : Value → Shared → Prop} {s : Shared}
end
end HT
namespace L2
open PySem PySem.Spec PyProof.Rows
section
variable {X : Cx}
end
end L2
namespace Py
open L2
open PySem PySem.Spec PyProof.Rows
section
variable {T : Tb} {K : PySem.W.Frag} {X : Cx} {W : WX} {e : Expr} {fe : Ex} {pos : Pos}
end
end Py
namespace Py
open PySem PySem.Spec PyProof.Rows L2
end Py
namespace Py
open PySem PySem.Spec PyProof.Rows L2
section
variable {prog : Program} {w : World} {KT : Type} [DecidableEq KT] {A : Around} {E : Value → Shared → Prop} {s : Shared} {d a : Addr} {o : PySem.Obj} {es : Array DictEntry} {ep : Nat}
end
section
variable {X : Cx} {pins : List (Addr × PySem.Obj)} {σ : L2.St} {H : Hp} {s : Shared} {T : Tb} {io : Nat → Addr} {n : Nat} {F : Hp} {a : Addr} {ks : List Val} {xs ys : List V} {es : Array DictEntry} {ep : Nat} {q : Val} {y : V} {u : Value} {A : Around} {E : Value → Shared → Prop}
end
end Py
namespace Py
open PySem PySem.Spec PyProof.Rows L2
structure MidD (T : Tb) (K : PySem.W.Frag) (io0 : Nat → Addr) (n0 : Nat) (F0 H0 : Hp) (p : Addr) (io : Nat → Addr) (h : Hh) (F H : Hp) (ks us : List Val) : Prop where
  hp : H0 p = none
  st : Step io0 n0 F0 H0 io h.length F H
  sr : SR T K io h F H
  fd : F p = none
  nd : ∀ k, k < h.length → io k ≠ p
  g : ∃ es ep xs ys, DGx T K io h.length F H p ks xs ys es ep ∧ VRs T K io h.length F us ys
  lf : ∀ k ∈ ks, KeyL k
  few : ks.length ≤ 1000
section
variable {T : Tb} {K : PySem.W.Frag} {io0 io io1 : Nat → Addr} {n0 : Nat} {F0 H0 F H F1 H1 : Hp} {h h1 : Hh} {p : Addr} {ks us : List Val}
theorem MidD.start (sr : SR T K io h F H) (hp : H p = none) : MidD T K io h.length F H p io h F (upd H p (DO p #[] 0)) [] [] where
  hp := hp
  st := sr.garbStep hp _
  sr := sr.garb hp _
  fd := sr.none_of hp
  nd := fun k hk z => by obtain ⟨u, hu'⟩ := sr.there hk; rw [z, hp] at hu'; cases hu'
  g := ⟨#[], 0, [], [], ⟨upd_same, keys0, True.intro, .nil⟩, .nil⟩
  lf := fun k hk => by cases hk
  few := by simp
theorem MidD.eval (m : MidD T K io0 n0 F0 H0 p io h F H ks us) (st1 : Step io h.length F H io1 h1.length F1 H1) (sr1 : SR T K io1 h1 F1 H1) : MidD T K io0 n0 F0 H0 p io1 h1 F1 H1 ks us := by
  obtain ⟨es, ep, xs, ys, g, ru⟩ := m.g
  have hd1 : H1 p = some (DO p es ep) := st1.frame p _ g.at_ m.nd
  refine ⟨m.hp, m.st.trans m.sr st1, sr1, ?_, fun k hk z => ?_, ⟨es, ep, xs, ys, ⟨hd1, g.ok, g.en, g.rk.step st1⟩, ru.step st1⟩, m.lf, m.few⟩
  · cases q : F1 p with
    | none => rfl
    | some o =>
      exfalso
      rcases st1.fresh p o q with z | z | ⟨y, z⟩
      · rw [m.fd] at z; cases z
      · rw [g.at_] at z; cases z
      · subst z; have e1 := sr1.sub p _ q; rw [hd1] at e1; unfold DO at e1; cases e1
  · by_cases hk' : k < h.length
    · exact m.nd k hk' ((st1.eq k hk').symm.trans z)
    · have := st1.new k (by omega) hk
      rw [z, g.at_] at this; cases this
theorem MidD.write (m : MidD T K io0 n0 F0 H0 p io h F H ks us) {ks' us' : List Val} {xs' ys' : List V} {es' : Array DictEntry} {ep' : Nat} (g' : DGx T K io h.length F (upd H p (DO p es' ep')) p ks' xs' ys' es' ep') (ru' : VRs T K io h.length F us' ys') (lf' : ∀ k ∈ ks', KeyL k) (few' : ks'.length ≤ 1000) :
    MidD T K io0 n0 F0 H0 p io h F (upd H p (DO p es' ep')) ks' us' := by
  obtain ⟨es, ep, xs, ys, g, ru⟩ := m.g
  refine ⟨m.hp, ⟨m.st.le, m.st.eq, m.st.phi, fun b o eb hb => ?_, m.st.new, m.st.fresh⟩, ⟨fun b u z => ?_, m.sr.dis, m.sr.inj, fun k o ek => ?_, fun pq hq => (m.sr.tabs pq hq).mono (fun _ _ h _ e => by rw [h] at e; cases e) (fun _ _ e _ => e) fun ps e => by rw [upd_ne (fun z => by rw [z, g.at_] at e; unfold DO at e; cases e)]; exact e⟩, m.fd, m.nd, ⟨es', ep', xs', ys', g', ru'⟩, lf', few'⟩
  · rw [upd_ne (ne_of_none eb m.hp)]; exact m.st.frm b o eb hb
  · rw [upd_ne (fun q => by rw [q, m.fd] at z; cases z)]; exact m.sr.sub b u z
  · have hk : k < h.length := (List.getElem?_eq_some_iff.mp ek).1
    have r := m.sr.obj k o ek
    cases o with
    | lst vs => obtain ⟨xs, e1, r⟩ := r; exact ⟨xs, by rw [upd_ne (m.nd k hk)]; exact e1, r⟩
    | dct ks vs => obtain ⟨es, ep, xs, ys, e1, r⟩ := r; exact ⟨es, ep, xs, ys, by rw [upd_ne (m.nd k hk)]; exact e1, r⟩
    | ins c vs =>
      obtain ⟨dx, xs, e1, d, r, l⟩ := r
      exact ⟨dx, xs, by rw [upd_ne (m.nd k hk)]; exact e1, by rw [upd_ne (fun q => by rw [q, g.at_] at d; unfold DO at d; cases d)]; exact d, r, l⟩
theorem MidD.done (m : MidD T K io0 n0 F0 H0 p io h F H ks us) : ∃ F2, Step io0 n0 F0 H0 io h.length F2 H ∧ SR T K io h F2 H ∧ VR T K io h.length F2 (.dct ks us) (.ref p) := by
  obtain ⟨es, ep, xs, ys, g, ru⟩ := m.g
  obtain ⟨s1, s2, mn⟩ := CInv.froze m.hp m.st m.sr g.at_ m.fd m.nd
  exact ⟨_, s1, s2, .dct upd_same g.ok g.en (g.rk.mono (Nat.le_refl _) (fun _ _ => rfl) mn) (ru.mono (Nat.le_refl _) (fun _ _ => rfl) mn)⟩
theorem MidD.bind {W : XK} {Q R : VK} {r : Res} {k : Val → Hh → Res} (m : MidD T K io0 n0 F0 H0 p io h F H ks us) (w : Wants T K io0 n0 F0 H0 W Q (r.bind k))
    (hk : ∀ v h1 io1 F1 H1 x, MidD T K io0 n0 F0 H0 p io1 h1 F1 H1 ks us → VR T K io1 h1.length F1 v x → Wants T K io0 n0 F0 H0 W Q (k v h1) → R x H1) : Wants T K io h.length F H W R r := by
  cases r with
  | ok v h1 => exact fun io1 F1 H1 x st sr vr => hk v h1 io1 F1 H1 x (m.eval st sr) vr w
  | exc c fs h' => exact fun io' F' H' d st sr xr => w io' F' H' d (m.st.trans m.sr st) sr xr
  | bad => exact w
end
section
variable {T : Tb} {X : Cx} {W : WX} {pins : List (Addr × PySem.Obj)} {σ : L2.St} {io0 io : Nat → Addr} {n0 : Nat} {F0 H0 F H : Hp} {h : Hh} {p : Addr} {ks us : List Val} {s : Shared} {A : Around} {E : Value → Shared → Prop}
end
section
variable {T : Tb} {X : Cx} {W : WX} {e1 e2 : Expr} {f1 f2 : Ex} {pos : Pos}
end
end Py
namespace Py
open PySem PySem.Spec PyProof.Rows L2
section
variable {M : Model} {A : Around} {E : Value → Shared → Prop} {s : Shared} {f : Value} {first : List Value} {pos : Pos} {Q : Value → Shared → Prop} {P : Heap → Prop}
end
section
variable {T : Tb} {X : Cx} {W : WX} {k : Nat} {a : Addr} {fd : FuncData} {ps ks : List Str} {pk : List Nat} {dvs : List V} {x : Str} {p pos kpos : Pos} {e : Expr} {f : Fx} {fe : Ex}
end
end Py
namespace Py
open PySem PySem.Spec PyProof.Rows L2
section
variable {X : Cx} {pins : List (Addr × PySem.Obj)} {σ : L2.St} {H : Hp} {s : Shared} {T : Tb} {io : Nat → Addr} {n : Nat} {F : Hp} {d : Addr} {A : Around} {E : Value → Shared → Prop}
end
end Py
namespace Py
open PySem PySem.Spec PyProof.Rows L2
structure FnGD (P : Program) (w : World) (K : PySem.W.Frag) (mg : Str → Option Value) (base : Heap) (C : CXT) (k : Nat) (f : Addr) (fd : FuncData) (ps : List Str) (sp : Sp) : Prop where
  run : ∀ (A : Around) (outer : List Env) (s : Shared) (args : Args) (R : Result → Shared → Prop), RoomG k A → K.In s.heap →
    wpAny (model P w) A.in1 (bindArgs fd args) (fun binds s2 => ∃ us vs H2 Q E, binds = ps.zip us ∧ Env0 P w K mg base A outer s2 H2 ∧ Vals vs us ∧ sp vs H2 Q E ∧ ∀ r s', CR C outer P w H2 s2 Q E r s' → R r s') (fun e s' => R (.error e) s') s →
    codeAny (model P w) A (.call (.ref f) args) R s
section
variable {P : Program} {w : World} {K : PySem.W.Frag} {mg : Str → Option Value} {base : Heap} {C : CXT} {k : Nat} {f : Addr} {x qual : Str} {params : Arguments} {body : List Stmt} {scope : Scope} {dvs : List V} {kws : List (Str × V)} {fd : FuncData} {N ps : List Str} {sp : Sp}
end
section
variable {T : Tb} {X : Cx} {W : WX} {k : Nat} {a : Addr} {ps ks : List Str} {m : Str} {c : Nat} {o : Expr} {kws : List Keyword} {apos pos : Pos} {f : Fx} {fo : Ex} {lk : Lx}
end
end Py
namespace Py
open PySem PySem.Spec PyProof.Rows L2
section
variable {T : Tb} {X : Cx} {W : WX} {k : Nat} {a : Addr} {ps ks : List Str} {pk : List Nat} {dvs : List V} {m : Str} {c : Nat} {o : Expr} {kws : List Keyword} {apos pos : Pos} {f : Fx} {fo : Ex} {lk : Lx}
end
end Py
namespace Py
open PySem PySem.Spec PyProof.Rows L2
end Py
namespace Py
open PySem PySem.Spec PyProof.Rows L2
end Py
namespace Py
open PySem PySem.Spec PyProof.Rows L2
abbrev G2H := Hh → Val → Val → Option (Val × Hh)
section
variable {T : Tb} {X : Cx} {W : WX} {a b : Expr} {fa fb : Ex} {pos : Pos} {r : R2} {g : G2H}
end
end Py
namespace L2
open PySem PySem.Spec PyProof.Rows
section
variable {X : Cx}
end
end L2
namespace Py
open L2
open PySem PySem.Spec PyProof.Rows
section
variable {T : Tb} {K : PySem.W.Frag} {X : Cx} {W : WX} {e : Expr} {fe : Ex} {pos : Pos}
end
end Py
namespace Py
open PySem PySem.Spec PyProof.Rows L2
end Py
namespace Py
open PySem PySem.Spec PyProof.Rows L2
end Py
namespace Py
open PySem PySem.Spec PyProof.Rows L2
section
variable {P : Program} {w : World} {A : Around} {E : Value → Shared → Prop} {s : Shared}
end
section
variable {T : Tb} {X : Cx} {W : WX} {e : Expr} {fe : Ex} {pos pos2 p p2 : Pos}
end
section
variable {X : Cx} {a b c d : Expr} {ta tb tc td : TE} {pos : Pos} {op op' op2 : CmpOp} {r r' r2 : R2}
end
section
variable {T : Tb} {X : Cx} {W : WX} {a b c d : Expr} {fa fb fc fd : Ex} {pos : Pos} {op op' op2 : CmpOp} {r r' r2 : R2} {g g' g2 : G2}
end
end Py
namespace Py
open PySem PySem.Spec PyProof.Rows L2
end Py
namespace Py
open PySem PySem.Spec PyProof.Rows L2
section
variable {T : Tb} {X : Cx} {W : WX} {e o : Expr} {es : List Expr} {fo : Ex} {fl : Lx} {pos pos' : Pos} {ps : List Str} {k : Nat} {f : Fx} {x : Str} {cc : Nat} {ad : Addr} {dvs : List V} {p : Pos}
end
end Py
namespace Py
open PySem PySem.Spec PyProof.Rows L2
end Py
namespace Py
open PySem PySem.Spec PyProof.Rows L2
section
variable {P : Program} {w : World} {K : PySem.W.Frag} {elts : List Expr} {kk : Nat} {tpos : Pos}
end
section
variable {X : Cx} {e : Expr} {ta : TA} {p pos tpos : Pos} {elts : List Expr} {kk : Nat}
end
section
variable {T : Tb} {X : Cx} {W : WX} {e : Expr} {fl : Lx} {p pos tpos : Pos} {elts : List Expr} {kk : Nat}
end
end Py
namespace NQ
open PySem PySem.SeqAt
open AutoSeq1 (wpAny_loadPart')
open MeetsSeq MeetsSeq2 MeetsSeq3 SeqRoads2
section
variable {prog : Program} {w : World} {A : Around} {R : Result → Shared → Prop}
end
section
variable {prog : Program} {w : World} {A : Around} {E : Value → Shared → Prop} {s : Shared}
end
end NQ
namespace Py
open PySem PySem.Spec PyProof.Rows L2
def EqAtOk (T : Tb) (X : Cx) (n : Nat) (g : Hh → Val → Val → Bool) : Prop := ∀ (A : Around) (pins : List (Addr × PySem.Obj)) (s : Shared) (σ : L2.St) (H : Hp) (io : Nat → Addr) (h : Hh) (F : Hp) (v u : Val) (x y : V) (a b : Value),
  RoomG n A → A.frames = X.A.frames → L2.Inv X pins σ H s → SR T X.K io h F H → VR T X.K io h.length F v x → VR T X.K io h.length F u y → RelV x a → RelV y b → g h v u = true →
    wpAny (model X.prog X.w) A (eqBool a b) (fun r s' => r = true ∧ ∃ F' H', L2.Inv X pins σ H' s' ∧ Step io h.length F H io h.length F' H' ∧ SR T X.K io h F' H') X.xe s
section
variable {T : Tb} {X : Cx} {n m : Nat} {g g' : Hh → Val → Val → Bool}
theorem EqAtOk.mono (e : EqAtOk T X n g) (h : n ≤ m) : EqAtOk T X m g := fun A pins s σ H io hh F v u x y a b r => e A pins s σ H io hh F v u x y a b (r.mono h)
theorem EqAtOk.or (e : EqAtOk T X n g) (e' : EqAtOk T X n g') : EqAtOk T X n (fun h v u => g h v u || g' h v u) := fun A pins s σ H io hh F v u x y a b r f I sr vr ur ra rb q => by
  rcases (Bool.or_eq_true_iff.mp q) with q | q
  · exact e A pins s σ H io hh F v u x y a b r f I sr vr ur ra rb q
  · exact e' A pins s σ H io hh F v u x y a b r f I sr vr ur ra rb q
end
section
variable {T : Tb} {X : Cx} {W : WX} {a b : Expr} {fa fb : Ex} {pos : Pos} {op : CmpOp} {g : G2}
end
end Py
namespace Py
open PySem PySem.Spec PyProof.Rows L2
end Py
namespace L2
open PySem PySem.Spec PyProof.Rows
end L2
namespace Py
open PySem PySem.Spec PyProof.Rows L2
abbrev bmVE : List Value := [.type "ValueError", .type "Exception", .type "BaseException", .type "object"]
structure XnOk (T : Tb) (K : PySem.W.Frag) (c : Nat) : Prop where
  fn : T.fn c = []
  ec : ExcC K (He.ga K (T.cn c))
  ei : PySem.W.excIn K (He.ga K (T.cn c)) bmVE "ValueError.__new__" = true
  kC : PySem.W.keepIn K (.ref (He.ga K (T.cn c))) = true
  tyC : PySem.W.typeIn K (.ref (He.ga K (T.cn c))) = some (.type "type")
section
variable {T : Tb} {X : Cx} {W : WX} {pos p pos2 : Pos} {c : Nat} {x : Str}
end
section
variable {T : Tb} {X : Cx} {i k : Nat} {a : Addr} {oe : PySem.Obj} {cls : Value} {d : Option Addr} {pn : List (Addr × PySem.Obj)} {pos p p1 p2 : Pos}
variable {X : Cx} {ea eb ec : Expr} {fa fb fc : List Val → Ex}
end
end Py
namespace Py
open PySem PySem.Spec PyProof.Rows L2
end Py
namespace Py
open PySem PySem.Spec PyProof.Rows L2
section
variable {T : Tb} {i k : Nat} {a : Addr} {cls : Value} {d : Option Addr} {pos : Pos} {X : Cx} {ea eb : Expr} {rest : List Expr} {fa fb : List Val → Ex}
end
end Py
namespace L2
open PySem PySem.Spec PyProof.Rows
end L2
namespace Py
open PySem PySem.Spec PyProof.Rows L2
end Py
namespace L2
open PySem PySem.Spec PyProof.Rows
def wManyB (K : PySem.W.Frag) (i : Nat) (Wout : WX) (D : Ends) : List (Value × Bool × (Addr → Value → Option Addr → TS)) → WX
  | [] => Wout
  | (c, nm, ts) :: r => fun cls d σ H => ∃ b, PySem.W.exmOne K cls c = some b ∧
    (b = true → ∀ a, H a = none → (if nm = true then ts a cls d { nx := fun σ' H' => D.nx (σ'.set i none) H', rt := D.rt, bk := fun σ' H' => D.bk (σ'.set i none) H', ct := fun σ' H' => D.ct (σ'.set i none) H' } (σ.set i (some (.ref a))) H else ts a cls d D σ H)) ∧ (b = false → wManyB K i Wout D r cls d σ H)
inductive HdsB (X : Cx) (n : Str) : List ExceptHandler → List (Value × Bool × (Addr → Value → Option Addr → TS)) → Prop
  | nil : HdsB X n [] []
  | cons {x : Str} {c : Value} {ts : Addr → Value → Option Addr → TS} {b₀ : Stmt} {suite : List Stmt} {np pos' : Pos} {hds : List ExceptHandler} {l : List (Value × Bool × (Addr → Value → Option Addr → TS))} (hc : Names X x c)
      (hsu : ∀ (a : Addr) (oe : Obj) (cls : Value) (d : Option Addr) (pn : List (Addr × Obj)), Zc cls d oe → (∃ vs, oe.data = .fields vs) → PSs (X.suite a ((a, oe) :: pn)) (b₀ :: suite) (ts a cls d)) (r : HdsB X n hds l) :
      HdsB X n (.ExceptHandler (some (.Name x np)) (some n) (b₀ :: suite) pos' :: hds) ((c, true, ts) :: l)
  | bare {x : Str} {c : Value} {ts : Addr → Value → Option Addr → TS} {b₀ : Stmt} {suite : List Stmt} {np pos' : Pos} {hds : List ExceptHandler} {l : List (Value × Bool × (Addr → Value → Option Addr → TS))} (hc : Names X x c)
      (hsu : ∀ (a : Addr) (oe : Obj) (cls : Value) (d : Option Addr) (pn : List (Addr × Obj)), Zc cls d oe → (∃ vs, oe.data = .fields vs) → PSs (X.suite a ((a, oe) :: pn)) (b₀ :: suite) (ts a cls d)) (r : HdsB X n hds l) :
      HdsB X n (.ExceptHandler (some (.Name x np)) none (b₀ :: suite) pos' :: hds) ((c, false, ts) :: l)
section
variable {X : Cx} {n : Str} {i : Nat} {body : List Stmt} {h₀ : ExceptHandler} {hds : List ExceptHandler} {l : List (Value × Bool × (Addr → Value → Option Addr → TS))} {pos : Pos} {tb : WX → TS} {Wout : WX}
theorem ps_try_manyB (hs : X.stack = X.env :: X.outer) (hf : X.env.frame = some X.env.locals) (hN : X.N.Nodup) (hi : X.N[i]? = some n) (hln : X.env.kindOf n = some .local) (tk : Takes X Wout)
    (hb : ∀ (W : WX) (pn : List (Addr × Obj)) (xe : Value → Shared → Prop), Takes (X.tr pn xe) W → PassesOwn (model X.prog X.w) X.A X.env xe → PSs (X.tr pn xe) body (tb W))
    (hh : HdsB X n (h₀ :: hds) l) : PS X (.Try body (h₀ :: hds) [] [] pos) (fun D σ H => tb (wManyB X.K i Wout D l) D σ H) := by
  refine ⟨fun pins s σ H D I h => ?_⟩
  have ok := I.ok
  have hfr : X.A.frames = some (X.env :: X.outer) := by rw [ok.frames, hs]
  have hloc : Loc X.env.scope n := .inl hln
  refine wpAny_Try_except ?_
  refine wpAny_mono ((hb (wManyB X.K i Wout D l) (X.pn ++ pins) (fun e s₁ => wpAny (model X.prog X.w) X.A (noteFrame e X.env) (fun _ s₂ => wpAny (model X.prog X.w) X.A (setFlight e none) (fun _ s₃ =>
    wpAny (model X.prog X.w) X.A (handleBy e X.env (h₀ :: hds)) (SP X pins D) X.xe s₃) X.xe s₂) X.xe s₁) (fun u s' xx => ?_) PassesOwn.looking).run [] s σ H D (I.toTry _) h) (fun f s1 hsp => ?_) (fun e s1 he => he)
  · -- the catch
    obtain ⟨a, B, sI, pins', σ', H', cls, d, rfl, J', nb, up, sky, na, os, ag, w⟩ := xx
    have J : Inv X pins σ' H' sI := J'.ofTry ok
    have sky' : Sky B (X.env :: X.outer) a (Zc cls d) X.env.locals s'.heap := by rw [← hs]; exact sky
    show wpAny (model X.prog X.w) X.A (noteFrame (.ref a) X.env) _ _ _
    refine Sky.land Zc.steady hfr hf sky' fun h3 fl3 up3 => ?_
    have J3 : Inv X pins σ' H' { s' with heap := h3 } := J.landed nb fl3.1 (up.trans up3) os ag
    obtain ⟨oe3, vs3, he3, hz3, hd3⟩ := fl3.there
    have notFr : ∀ {h : Heap} {o : Obj} {vs : Array Value}, h.FunFrames B (X.env :: X.outer) → h.get? a = some o → o.data = .fields vs → a ∉ frs (X.env :: X.outer) := fun {h o vs} ff e dd hm => by
      obtain ⟨_, o', e', hnf⟩ := ff.mem hm
      rw [e] at e'; cases e'
      exact hnf _ dd
    have nfr := notFr fl3.2.2.1 he3 hd3
    have nL : a ≠ X.env.locals := fun z => nfr (List.mem_filterMap.mpr ⟨X.env, List.mem_cons_self, by rw [hf, z]⟩)
    have nF : a ∉ X.fs := fun hm => by
      obtain ⟨e, he, q⟩ := List.mem_filterMap.mp hm
      exact nfr (List.mem_filterMap.mpr ⟨e, List.mem_cons_of_mem _ he, q⟩)
    have S3 := J3.suite he3 hd3 na nL nF
    have go : ∀ {hds' : List ExceptHandler} {l' : List (Value × Bool × (Addr → Value → Option Addr → TS))}, HdsB X n hds' l' → wManyB X.K i Wout D l' cls d σ' H' →
        wpAny (model X.prog X.w) X.A (handleBy (.ref a) X.env hds') (SP X pins D) X.xe { s' with heap := h3 } := by
      intro hds' l' hk
      induction hk with
      | nil =>
        intro w
        refine wpAny_handleBy_nil ?_
        obtain ⟨k1, k2, k3, oe, vs, T, oT, ts', he, hz, hd, h1, hr⟩ := id fl3
        unfold PySem.passOn
        refine wpAny_bind (wpAny_field he hd h1 ?_)
        rw [if_neg (show ¬ ((Value.ref T == Value.none) = true) from by simp)]
        have fin : wpAny (model X.prog X.w) X.A (setFlight (.ref a) X.env.frame) (fun _ s4 => wpAny (model X.prog X.w) X.A (throw (.ref a) : Sem Flow) (SP X pins D) X.xe s4) X.xe { s' with heap := h3 } := by
          rw [hf]
          refine HandSPX.setFlight_upZ fl3 fun h4 hh4 up4 => wpAny_throw (tk _ _ ?_)
          exact ⟨a, B, sI, pins, σ', H', cls, d, rfl, J, nb, (up.trans up3).trans up4, .inr (.inr (by rw [hs]; exact hh4)), na, os, ag, w⟩
        first
          | exact wpAny_bind (wpAny_pure (wpAny_bind fin))
          | exact wpAny_bind fin
      | @cons x c ts b₀ suite np pos' hds2 l2 hc hsu r ih =>
        intro w
        obtain ⟨b, hb1, hyes, hno⟩ := w
        refine wpAny_handleBy_cons (codeAny_handlers_test ?_) (by intro q; cases q)
        have LT : PySem.W.Looks (model X.prog X.w) h3 (typeOf (.ref a)) cls := fun A Q E s k q => wpAny_typeOf_ref (k _ _ he3) (by rw [hz3.1]; exact q)
        have LM := PySem.W.exm_one (M := model X.prog X.w) (J3.kIn) LT hb1
        have test : ∀ {Q : Value → Shared → Prop} {E : Value → Shared → Prop}, Q c { s' with heap := h3 } → wpAny (model X.prog X.w) (X.A.mark (some (.ref a))) (eval (.Name x np) X.env) Q E { s' with heap := h3 } := fun {Q E} q => by
          obtain ⟨hg, hdbg, hm | ⟨hm, hv, hnn⟩⟩ := hc
          · exact ld_glob (X := X.suite a ((a, oe3) :: (X.pn ++ pins))) S3 hg hm q hdbg
          · exact ld_blt (X := X.suite a ((a, oe3) :: (X.pn ++ pins))) S3 hg hm hv q hnn hdbg
        refine test (LM.here ?_)
        cases b with
        | true =>
          refine codeAny_handlers_suite_as ?_
          refine HandSPX.lands_againZ fl3 fun h4 fl4 up4 => ?_
          have J4 : Inv X pins σ' H' { s' with heap := h4 } := J.landed nb fl4.1 ((up.trans up3).trans up4) os ag
          obtain ⟨oe4, vs4, he4, hz4, hd4⟩ := fl4.there
          have S4 := J4.suite he4 hd4 na nL nF
          refine store_ok (X := X.suite a ((a, oe4) :: (X.pn ++ pins))) (v := .ref a) S4 hN hi hloc rfl (fun s5 S5 => ?_) (.inr hln)
          refine wpAny_mono ((hsu a oe4 cls d (X.pn ++ pins) hz4 ⟨_, hd4⟩).run [] s5 _ H' _ S5 (by have hy := hyes rfl a na; rwa [if_pos rfl] at hy)) (fun f s6 hsp => ?_) (fun _ _ z => False.elim z)
          have end_ : ∀ {σ6 : St} {H6 : Hp} {Q : Shared → Prop}, Inv (X.suite a ((a, oe4) :: (X.pn ++ pins))) [] σ6 H6 s6 → (∀ s7, Inv X pins (σ6.set i none) H6 s7 → Q s7) →
              wpAny (model X.prog X.w) X.A (do bindName X.env n .none; unbindBehindTheSuite X.env n pos') (fun _ s7 => Q s7) X.xe s6 := fun {σ6 H6 Q} S6 hq => gone_ok (S6.unsuite ok) hN hi hln hq
          cases f with
          | next =>
            obtain ⟨σ6, H6, S6, q6⟩ := hsp
            exact end_ S6 fun s7 J7 => ⟨_, _, J7, q6⟩
          | brk =>
            obtain ⟨σ6, H6, S6, q6⟩ := hsp
            exact end_ S6 fun s7 J7 => ⟨_, _, J7, q6⟩
          | cont =>
            obtain ⟨σ6, H6, S6, q6⟩ := hsp
            exact end_ S6 fun s7 J7 => ⟨_, _, J7, q6⟩
          | ret u =>
            obtain ⟨v6, σ6, H6, S6, r6, q6⟩ := hsp
            exact end_ S6 fun s7 J7 => ⟨_, _, _, J7, r6, q6⟩
        | false =>
          show wpAny _ X.A (handleBy (.ref a) X.env hds2) _ _ _
          exact ih (hno rfl)
      | @bare x c ts b₀ suite np pos' hds2 l2 hc hsu r ih =>
        intro w
        obtain ⟨b, hb1, hyes, hno⟩ := w
        refine wpAny_handleBy_cons (codeAny_handlers_test ?_) (by intro q; cases q)
        have LT : PySem.W.Looks (model X.prog X.w) h3 (typeOf (.ref a)) cls := fun A Q E s k q => wpAny_typeOf_ref (k _ _ he3) (by rw [hz3.1]; exact q)
        have LM := PySem.W.exm_one (M := model X.prog X.w) (J3.kIn) LT hb1
        have test : ∀ {Q : Value → Shared → Prop} {E : Value → Shared → Prop}, Q c { s' with heap := h3 } → wpAny (model X.prog X.w) (X.A.mark (some (.ref a))) (eval (.Name x np) X.env) Q E { s' with heap := h3 } := fun {Q E} q => by
          obtain ⟨hg, hdbg, hm | ⟨hm, hv, hnn⟩⟩ := hc
          · exact ld_glob (X := X.suite a ((a, oe3) :: (X.pn ++ pins))) S3 hg hm q hdbg
          · exact ld_blt (X := X.suite a ((a, oe3) :: (X.pn ++ pins))) S3 hg hm hv q hnn hdbg
        refine test (LM.here ?_)
        cases b with
        | true =>
          refine codeAny_handlers_suite ?_
          refine HandSPX.lands_againZ fl3 fun h4 fl4 up4 => ?_
          have J4 : Inv X pins σ' H' { s' with heap := h4 } := J.landed nb fl4.1 ((up.trans up3).trans up4) os ag
          obtain ⟨oe4, vs4, he4, hz4, hd4⟩ := fl4.there
          have S4 := J4.suite he4 hd4 na nL nF
          have hy := hyes rfl a na
          rw [if_neg Bool.false_ne_true] at hy
          refine wpAny_mono ((hsu a oe4 cls d (X.pn ++ pins) hz4 ⟨_, hd4⟩).run [] _ _ H' _ S4 hy) (fun f s6 hsp => ?_) (fun _ _ z => False.elim z)
          cases f with
          | next =>
            obtain ⟨σ6, H6, S6, q6⟩ := hsp
            exact ⟨_, _, S6.unsuite ok, q6⟩
          | brk =>
            obtain ⟨σ6, H6, S6, q6⟩ := hsp
            exact ⟨_, _, S6.unsuite ok, q6⟩
          | cont =>
            obtain ⟨σ6, H6, S6, q6⟩ := hsp
            exact ⟨_, _, S6.unsuite ok, q6⟩
          | ret u =>
            obtain ⟨v6, σ6, H6, S6, r6, q6⟩ := hsp
            exact ⟨_, _, _, S6.unsuite ok, r6, q6⟩
        | false =>
          show wpAny _ X.A (handleBy (.ref a) X.env hds2) _ _ _
          exact ih (hno rfl)
    exact go hh w
  · cases f with
    | next =>
      obtain ⟨σ', H', J', q⟩ := hsp
      exact wpAny_execs_nil ⟨σ', H', J'.ofTry ok, q⟩
    | brk =>
      obtain ⟨σ', H', J', q⟩ := hsp
      exact ⟨σ', H', J'.ofTry ok, q⟩
    | cont =>
      obtain ⟨σ', H', J', q⟩ := hsp
      exact ⟨σ', H', J'.ofTry ok, q⟩
    | ret u =>
      obtain ⟨v, σ', H', J', r, q⟩ := hsp
      exact ⟨v, σ', H', J'.ofTry ok, r, q⟩
end
end L2
namespace Py
open PySem PySem.Spec PyProof.Rows L2
inductive HEnt
  | nm (k : Nat) (f : List Val → Sx)
  | bare (k : Nat) (f : Sx)
  | all (B : Str) (k : Nat) (f : List Val → Sx)
def noxS : ResS → ResS
  | .exc _ _ _ _ => .bad
  | r => r
def tryM (i : Nat) (c : Nat) (fs : List Val) (sg : Sg) (h : Hh) : List HEnt → ResS
  | [] => .exc c fs sg h
  | .nm k f :: r => if c = k then Py.unset i (f fs (sg.set i none) h) else tryM i c fs sg h r
  | .bare k f :: r => if c = k then noxS (f sg h) else tryM i c fs sg h r
  | .all _ k f :: _ => if c = k then Py.unset i (f fs (sg.set i none) h) else .bad
section
variable {T : Tb} {X : Cx} {W : WX} {n : Str} {i : Nat} {cs : List Nat} {body : List Stmt} {h₀ : ExceptHandler} {hds : List ExceptHandler} {pos : Pos} {fb : Sx}
inductive HdM (T : Tb) (X : Cx) (n : Str) (i : Nat) : List ExceptHandler → List HEnt → Prop
  | nil : HdM T X n i [] []
  | nm {x : Str} {k : Nat} {f : List Val → Sx} {b₀ : Stmt} {suite : List Stmt} {np pos' : Pos} {hds : List ExceptHandler} {l : List HEnt} (hm : X.mg x = some (.ref (He.ga X.K (T.cn k)))) (hg : Gl X x) (hdb : (x == ("__debug__" : Str)) = false)
      (hsu : ∀ (a : Addr) (oe : PySem.Obj) (cls : Value) (d : Option Addr) (pn : List (Addr × PySem.Obj)), Zc cls d oe → (∃ vs, oe.data = .fields vs) → PSs (X.suite a ((a, oe) :: pn)) (b₀ :: suite) (tHS T X.K i k f a cls d)) (r : HdM T X n i hds l) :
      HdM T X n i (.ExceptHandler (some (.Name x np)) (some n) (b₀ :: suite) pos' :: hds) (.nm k f :: l)
  | bare {x : Str} {k : Nat} {f : Sx} {b₀ : Stmt} {suite : List Stmt} {np pos' : Pos} {hds : List ExceptHandler} {l : List HEnt} (hm : X.mg x = some (.ref (He.ga X.K (T.cn k)))) (hg : Gl X x) (hdb : (x == ("__debug__" : Str)) = false)
      (hsu : ∀ (a : Addr) (oe : PySem.Obj) (pn : List (Addr × PySem.Obj)), JSs T (X.suite a ((a, oe) :: pn)) Wf (b₀ :: suite) f) (r : HdM T X n i hds l) :
      HdM T X n i (.ExceptHandler (some (.Name x np)) none (b₀ :: suite) pos' :: hds) (.bare k f :: l)
  | all {x B : Str} {k : Nat} {f : List Val → Sx} {b₀ : Stmt} {suite : List Stmt} {np pos' : Pos} {hds : List ExceptHandler} {l : List HEnt} (hm : X.mg x = some (.ref (He.ga X.K B))) (hg : Gl X x) (hdb : (x == ("__debug__" : Str)) = false)
      (hsu : ∀ (a : Addr) (oe : PySem.Obj) (cls : Value) (d : Option Addr) (pn : List (Addr × PySem.Obj)), Zc cls d oe → (∃ vs, oe.data = .fields vs) → PSs (X.suite a ((a, oe) :: pn)) (b₀ :: suite) (tHS T X.K i k f a cls d)) (r : HdM T X n i hds l) :
      HdM T X n i (.ExceptHandler (some (.Name x np)) (some n) (b₀ :: suite) pos' :: hds) (.all B k f :: l)
def hdM (T : Tb) (K : PySem.W.Frag) (i : Nat) : HEnt → Value × Bool × (Addr → Value → Option Addr → TS)
  | .nm k f => (.ref (He.ga K (T.cn k)), true, tHS T K i k f)
  | .bare k f => (.ref (He.ga K (T.cn k)), false, fun _ _ _ => tS T K Wf f)
  | .all B k f => (.ref (He.ga K B), true, tHS T K i k f)
theorem HdM.hdsB {hds : List ExceptHandler} {l : List HEnt} (h : HdM T X n i hds l) : HdsB X n hds (l.map (hdM T X.K i)) := by
  induction h with
  | nil => exact .nil
  | nm hm hg hdb hsu r ih => exact .cons ⟨hg, hdb, .inl hm⟩ hsu ih
  | bare hm hg hdb hsu r ih => exact .bare ⟨hg, hdb, .inl hm⟩ (fun a oe cls d pn _ _ => hsu a oe pn) ih
  | all hm hg hdb hsu r ih => exact .cons ⟨hg, hdb, .inl hm⟩ hsu ih
def HMat (T : Tb) (K : PySem.W.Frag) (cs : List Nat) : HEnt → Prop
  | .nm k _ => k ∈ cs
  | .bare k _ => k ∈ cs
  | .all B _ _ => ∀ c ∈ cs, PySem.W.exmOne K (.ref (He.ga K (T.cn c))) (.ref (He.ga K B)) = some true
theorem hm_nm {K : PySem.W.Frag} {k : Nat} {f : List Val → Sx} {l : List HEnt} (hk : k ∈ cs) (h : ∀ p ∈ l, HMat T K cs p) : ∀ p ∈ HEnt.nm k f :: l, HMat T K cs p := fun p hp => by
  rcases List.mem_cons.mp hp with rfl | hp
  · exact hk
  · exact h p hp
theorem WantsS.nox {K : PySem.W.Frag} {io : Nat → Addr} {n : Nat} {F H : Hp} {W : WX} {D : Ends} {r : ResS} (w : WantsS T K io n F H W D (noxS r)) : WantsS T K io n F H Wf D r := by
  cases r with
  | exc c fs sg h => exact w.elim
  | next sg h => exact w
  | brk sg h => exact w
  | cont sg h => exact w
  | ret v h => exact w
  | bad => exact w
theorem tryM_ok {K : PySem.W.Frag} {io : Nat → Addr} {h : Hh} {F H : Hp} {D : Ends} {c : Nat} {fs : List Val} {sg : Sg} {σ : L2.St} {d : Option Addr} (sr : SR T K io h F H) (rs : RSt T K io h.length F sg σ) (xr : XR T K io h.length F H c fs d) (hi : i < sg.length) (em : ExmOk T K cs) (hc : c ∈ cs) :
    ∀ (l : List HEnt), (∀ p ∈ l, HMat T K cs p) → WantsS T K io h.length F H W D (tryM i c fs sg h l) → wManyB K i W D (l.map (hdM T K i)) (.ref (He.ga K (T.cn c))) d σ H
  | [], _, w => w io F H σ d .refl sr rs xr
  | .nm k f :: r, hl, w => by
    refine ⟨decide (c = k), em c hc k (hl _ (List.mem_cons_self ..)), fun q a ha => ?_, fun q => ?_⟩
    · have e := of_decide_eq_true q
      subst e
      unfold tryM at w
      rw [if_pos rfl] at w
      rw [if_pos rfl]
      refine ⟨io, h, F, _, fs, sr, rs.unset i _, ⟨?_, rfl, xr⟩, WantsS.unset w⟩
      rw [List.getElem?_set_self (by rw [← rs.len]; exact hi)]
    · have e := of_decide_eq_false q
      unfold tryM at w
      rw [if_neg e] at w
      exact tryM_ok sr rs xr hi em hc r (fun p hp => hl p (List.mem_cons_of_mem _ hp)) w
  | .bare k f :: r, hl, w => by
    refine ⟨decide (c = k), em c hc k (hl _ (List.mem_cons_self ..)), fun q a ha => ?_, fun q => ?_⟩
    · have e := of_decide_eq_true q
      subst e
      unfold tryM at w
      rw [if_pos rfl] at w
      rw [if_neg Bool.false_ne_true]
      exact ⟨io, h, F, sg, sr, rs, w.nox⟩
    · have e := of_decide_eq_false q
      unfold tryM at w
      rw [if_neg e] at w
      exact tryM_ok sr rs xr hi em hc r (fun p hp => hl p (List.mem_cons_of_mem _ hp)) w
  | .all B k f :: r, hl, w => by
    refine ⟨true, hl _ (List.mem_cons_self ..) c hc, fun _ a ha => ?_, fun q => nomatch q⟩
    unfold tryM at w
    by_cases e : c = k
    · subst e
      rw [if_pos rfl] at w
      rw [if_pos rfl]
      refine ⟨io, h, F, _, fs, sr, rs.unset i _, ⟨?_, rfl, xr⟩, WantsS.unset w⟩
      rw [List.getElem?_set_self (by rw [← rs.len]; exact hi)]
    · rw [if_neg e] at w
      exact w.elim
end
section
variable {T : Tb} {X : Cx} {i k : Nat} {a : Addr} {cls : Value} {d : Option Addr} {pos p : Pos} {ea : Expr} {fa : List Val → Ex}
end
end Py
namespace Py
open PySem PySem.Spec PyProof.Rows L2 LamX
abbrev lamO (X : Cx) (params : Arguments) (body : Expr) (scope : Scope) (pm : Value) (cd : Addr) (ctv : Value) : PySem.Obj := PySem.W.kla_obj "<lambda>" (X.env.qual ++ "<lambda>") params body scope (cloFrom X.env.cells scope.names []) pm cd ctv
structure LamAt (X : Cx) (P : Addr) (q : Str) (params : Arguments) (body : Expr) (scope : Scope) (F H : Hp) (f cd : Addr) (pm ctv : Value) (F1 H1 : Hp) (s' : Shared) : Prop where
  fsub : ∀ b o, F b = some o → F1 b = some o
  fnew : ∀ b o, F1 b = some o → F b = some o ∨ H b = none
  fin : ∀ b o, F1 b = some o → H1 b = some o
  tab : TabF F1 H1 P q
  keep : ∀ b o, H b = some o → b ≠ P → H1 b = some o
  obj : s'.heap.get? f = some (lamO X params body scope pm cd ctv)
  free : H1 f = none
  off : f ∉ frs X.stack
  code : H1 cd = some (CodeO cd q)
  fcode : F1 cd = some (CodeO cd q)
section
variable {X : Cx} {pins : List (Addr × PySem.Obj)} {σ : L2.St} {F H : Hp} {s : Shared}
theorem off_stack (I : L2.Inv X pins σ H s) {b : Addr} (hb : s.heap.objs.size ≤ b) : b ∉ frs X.stack := by
  intro hm
  cases List.mem_cons.mp (I.stkSub b hm) with
  | inl e =>
    have lt := I.lt
    rw [← e] at lt
    exact Nat.lt_irrefl _ (Nat.lt_of_lt_of_le lt hb)
  | inr e => exact I.nofs hb e
theorem lam_makeL {c P : Addr} {q : Str} {params : Arguments} {body : Expr} {scope : Scope} {pos : Pos} {E Q : Value → Shared → Prop} (I : L2.Inv X pins σ H s) (TB : TabB X.base X.mg c P) (hcode : X.env.code = .ref c)
    (hq : q = X.env.qual ++ "<lambda>") (hF : ∀ b o, F b = some o → H b = some o) (hT : TabF F H P q) (hdef : defaultsOf params X.env = ([], [])) (hfree : ∀ y ∈ scope.names, y.2 = .free → ∃ c, X.env.cells.lookup y.1 = some c)
    (k : ∀ f cd pm ctv F1 H1 s', L2.Inv X pins σ H1 s' → LamAt X P q params body scope F H f cd pm ctv F1 H1 s' → Q (.ref f) s') :
    wpAny (model X.prog X.w) X.A (eval (.Lambda params body scope pos) X.env) Q E s := by
  have clo := closure_ok hfree
  have glob := I.mod.glob.keeps I.bk
  have head := TB.code.keeps I.bk
  have blt := TB.bm.keeps I.bk
  obtain ⟨fP, tab, hP, trip, known⟩ := hT
  have there := I.hok P _ hP
  refine PySem.W.kla_eval hdef ?_
  match hc : codeAmong pos tab.toList with
  | some cv =>
    obtain ⟨cd, rfl, fcd⟩ := known pos cv hc
    refine PySem.W.kla_makeFunctionHit (mg := X.mg) (c := c) (P := P) (ps := tab) clo I.ok.glob glob hcode head there trip hc blt ?_
    intro ctv h2 tk grow room
    have last : ∀ b o, s.heap.get? b = some o → (h2.push (lamO X params body scope ((X.mg "__name__").getD .none) cd ctv)).get? b = some o := fun b o e => Heap.get?_push_of_some _ (grow b o e)
    refine k h2.objs.size cd _ ctv F H _ (I.kept last) ⟨fun _ _ e => e, fun _ _ e => .inl e, hF, ⟨fP, tab, hP, trip, known⟩, fun _ _ e _ => e, Heap.get?_push_size _ rfl, I.hok.fresh room, off_stack I room, hF _ _ (hq ▸ fcd), hq ▸ fcd⟩
  | none =>
    refine PySem.W.kla_makeFunction (mg := X.mg) (c := c) (P := P) (ps := tab) clo I.ok.glob glob hcode head there trip hc TB.gP blt ?_
    intro cd ctv h2 tk grow lo hi rcd wr
    obtain ⟨cd', oc, vs, t, e, got, fld, nm⟩ := rcd
    cases e
    have up : s.heap.objs.size ≤ h2.objs.size := by omega
    have noH : H cd = none := I.hok.fresh lo
    have noF : F cd = none := Option.eq_none_iff_forall_ne_some.mpr fun o e => by
      have := hF _ _ e
      rw [noH] at this
      cases this
    have apart : P ≠ cd := ne_of_none hP noH
    let fo := lamO X params body scope ((X.mg "__name__").getD .none) cd ctv
    have inv := inv_table (q := X.env.qual ++ "<lambda>") (t' := tk) (more := #[rawInt pos.line, rawInt pos.col, .ref cd]) (h' := h2.push fo) I hP (fun b o ne e => Heap.get?_push_of_some _ (grow b o ne e)) (Heap.get?_push_of_some _ wr) lo ⟨oc, vs, t, Heap.get?_push_of_some _ got, fld, nm⟩
    let HT := upd H P (.tbl (tab ++ #[rawInt pos.line, rawInt pos.col, .ref cd]))
    have stay : ∀ b o, H b = some o → b ≠ P → upd HT cd (CodeO cd (X.env.qual ++ "<lambda>")) b = some o := by
      intro b o e ne
      rw [upd_ne (ne_of_none e noH)]
      exact (upd_ne ne).trans e
    have tl : (tab ++ #[rawInt pos.line, rawInt pos.col, .ref cd]).toList = tab.toList ++ [rawInt pos.line, rawInt pos.col, .ref cd] := by simp
    have far : h2.objs.size ≠ cd := by omega
    have farP : h2.objs.size ≠ P := Nat.ne_of_gt (Nat.lt_of_lt_of_le (Heap.lt_size there) up)
    refine k h2.objs.size cd _ ctv (upd F cd (CodeO cd (X.env.qual ++ "<lambda>"))) _ _ inv
      { fsub := fun b o e => (upd_ne (ne_of_none e noF)).trans e
        fnew := fun b o e => ?_
        fin := fun b o e => ?_
        tab := ⟨(upd_ne apart).trans fP, _, (upd_ne apart).trans upd_same, by rw [tl]; exact PySem.TriplesOk_snoc _ _ _ _ trip, fun p cv got => ?_⟩
        keep := stay
        obj := Heap.get?_push_size _ rfl
        free := (upd_ne far).trans ((upd_ne farP).trans (I.hok.fresh up))
        off := off_stack I up
        code := by rw [hq]; exact upd_same
        fcode := by rw [hq]; exact upd_same }
    · rcases Decidable.em (b = cd) with rfl | ne
      · exact .inr noH
      · exact .inl ((upd_ne ne).symm.trans e)
    · rcases Decidable.em (b = cd) with rfl | ne
      · exact upd_same.trans (upd_same.symm.trans e)
      · have e2 := (upd_ne ne).symm.trans e
        refine stay b o (hF _ _ e2) fun z => ?_
        rw [z, fP] at e2
        cases e2
    · rw [tl] at got
      cases among_app _ trip got with
      | inl old =>
        obtain ⟨c0, e1, e2⟩ := known p cv old
        exact ⟨c0, e1, (upd_ne (ne_of_none e2 noF)).trans e2⟩
      | inr e => exact ⟨cd, e, by rw [hq]; exact upd_same⟩
end
section
variable {X : Cx} {pins : List (Addr × PySem.Obj)} {σ : L2.St} {F0 H0 H : Hp} {s s0 : Shared}
theorem run_lam {A : Around} {outer : List Env} {s1 : Shared} {HZ : Hp} {P f cd : Addr} {q : Str} {pm ctv : Value} {params : Arguments} {body : Expr} {scope : Scope} {F1 : Hp} {k : Nat} {E : XK} {Q : VK} {tb : TE}
    (I : L2.Inv X pins σ H s) (L : LamS X.env.scope scope) (hq : q = X.env.qual ++ "<lambda>") (at_ : LamAt X P q params body scope F0 H0 f cd pm ctv F1 H s)
    (hbind : bindArgs (PySem.W.kla_fn "<lambda>" (X.env.qual ++ "<lambda>") params body scope (cloFrom X.env.cells scope.names []) pm (.ref cd) ctv) ⟨[], []⟩ = pure [])
    (e0 : Env0 X.prog X.w X.K X.mg X.base A outer s1 HZ) (hr : RoomG (k + 1) A) (un : Un (frs X.stack) [] H HZ s.heap s1.heap) (hc : HZ cd = some (CodeO cd q)) (ht : tb σ HZ Q)
    (hbody : ∀ (A : Around) (outer : List Env) (s : Shared) (H : Hp), RoomG k (A.deeper (lamEnv X scope s.heap.objs.size f cd)) → PE (lamCx X A outer s H E scope f cd) body tb) :
    codeAny (model X.prog X.w) A (.call (.ref f) ⟨[], []⟩) (CR (L2.CX X.prog X.w) outer X.prog X.w HZ s1 Q E) s1 := by
  have fobj := un.keep f _ at_.obj at_.free at_.off (List.not_mem_nil)
  obtain ⟨⟨oc, vs, t, got, fld, nm⟩, _⟩ := e0.hok cd _ hc
  subst hq
  refine PySem.W.kla_callFunE hr.rm.depth fobj rfl L.co L.gen rfl ⟨cd, oc, vs, t, rfl, got, fld, nm⟩ ?_
  rw [hbind]
  have nolim : s1.heap.NoLimit := e0.mod.nolimit.keeps fun b o e => (e0.bs b o e).1
  refine wpAny_pure (wpAny_newFunctionEnv (fun y hy => (L.own y hy).2) (fun y hy => (List.not_mem_nil hy).elim) (fun h1 names same => ⟨nolim.fresh _ same, ?_⟩) L.kind)
  have more : ∀ b o, s1.heap.get? b = some o → h1.get? b = some o := by
    intro b o e
    exact same.extBut b o (Nat.ne_of_lt (Heap.lt_size e)) (Heap.get?_push_of_some _ e)
  have start : L2.Inv (lamCx X A outer s1 HZ E scope f cd) [] σ HZ { s1 with heap := h1, toks := s1.toks + ([] : List (Str × Value)).length } := lam_start2 I L e0 hr.rm.hd un names more
  refine PySem.W.kla_codeExpr (wpAny_mono ((hbody A outer s1 HZ (hr.deeper _)).run [] _ _ HZ Q start ht) ?_ fun _ _ z => z)
  rintro u s2 ⟨v, H2, J, rv, qv⟩
  exact ⟨v, H2, J.os, J.bare, J.base, J.hok, rv, qv⟩
theorem pe_actG {C : CXT} {EZ : XK} {Ng : List Str} {qg : Str} {sg : Scope} {P g f cd : Addr} {cdg pm ctv : Value} {q : Str} {params : Arguments} {body : Expr} {scope : Scope} {F1 : Hp} {k i : Nat} {a : Str} {pn : List (Addr × PySem.Obj)} {xe : Value → Shared → Prop} {W : WX} {E : XK} {tb : TE} {p1 p2 : Pos}
    (I : L2.Inv X pins σ H s) (L : LamS X.env.scope scope) (hq : q = X.env.qual ++ "<lambda>") (at_ : LamAt X P q params body scope F0 H0 f cd pm ctv F1 H s)
    (hbind : bindArgs (PySem.W.kla_fn "<lambda>" (X.env.qual ++ "<lambda>") params body scope (cloFrom X.env.cells scope.names []) pm (.ref cd) ctv) ⟨[], []⟩ = pure [])
    (tk : Takes ((cxOf C X.prog X.w X.K X.mg X.base Ng qg sg g cdg X.A X.stack s H EZ).tr pn xe) W) (hW : ∀ cls d σ' H', E cls d H' → W cls d σ' H') (hr : RoomG (k + 1) (X.A.deeper (envOfC qg sg s.heap.objs.size g cdg)))
    (hbody : ∀ (A : Around) (outer : List Env) (s : Shared) (H : Hp), RoomG k (A.deeper (lamEnv X scope s.heap.objs.size f cd)) → PE (lamCx X A outer s H E scope f cd) body tb)
    (hN : Ng[i]? = some a) (hv : Vis sg a) (hd : (a == ("__debug__" : Str)) = false := by decide) (hcd : (a == ("__classdict__" : Str)) = false := by decide) :
    PE ((cxOf C X.prog X.w X.K X.mg X.base Ng qg sg g cdg X.A X.stack s H EZ).tr pn xe) (.Call (.Name a p1) [] [] p2) (fun σZ HZ Q => σZ[i]? = some (some (.ref f)) ∧ HZ cd = some (CodeO cd q) ∧ tb σ HZ Q) := by
  constructor
  rintro pz sz σz HZ Q IZ ⟨slot, hc, ht⟩
  have name := (pe_var (pos := p1) hN hv hd hcd).run pz sz σz HZ (fun v H1 => v = .ref f ∧ H1 = HZ) IZ ⟨_, slot, rfl, rfl⟩
  refine wpAny_Call_Name_kw (thn name ?_)
  rintro u s1 ⟨v, H1, J, rv, rfl, rfl⟩
  cases rv
  have un : Un (frs X.stack) [] H H1 s.heap s1.heap := J.base
  have body_runs := run_lam (k := k) (Q := Q) I L hq at_ hbind J.env0 hr un hc ht hbody
  refine PySem.W.callWith_F0 ⟨_, _, _, _, un.keep f _ at_.obj at_.free at_.off (List.not_mem_nil)⟩ (wpAny_call (codeAny_mono body_runs ?_))
  rintro (er | (_ | _ | _ | u2)) s2 hq2
  all_goals first
    | exact passes_call tk hW pz σz H1 s1 er s2 J hq2
    | exact J.after hq2
    | exact False.elim hq2
end
def heardRun (cs : List Nat) (l : List HEnt) (sf : Hh → List Val → Option (Val × Hh)) (L : Hh → Res) (h : Hh) : Res := match L h with
  | .ok v h1 => Res.ofP (sf h1 [v])
  | .exc c fs h1 => if c ∈ cs then (match tryM 2 c fs [none, none, none] h1 l with
    | .next sg1 h2 => (match sg1[1]? with
      | some (some v) => .ok v h2
      | _ => .bad)
    | _ => .bad) else .bad
  | .bad => .bad
def xLamH (cs : List Nat) (l : List HEnt) (sf : Hh → List Val → Option (Val × Hh)) (fb : Ex) : Ex := fun sg h => heardRun cs l sf (fun h' => fb sg h') h
theorem takes_len {X : Cx} {W : WX} (tk : Takes X W) : Takes X (fun cls d σ H => σ.length = X.N.length → W cls d σ H) := fun u s' ⟨a, B, sI, pins, σ, H, cls, d, e, I, nb, up, sky, na, os, ag, w⟩ =>
  tk u s' ⟨a, B, sI, pins, σ, H, cls, d, e, I, nb, up, sky, na, os, ag, w I.len⟩
def TTH (T : Tb) (K : PySem.W.Frag) (cs : List Nat) (l : List HEnt) (tb : STab) : (XK → Hp → VK → Prop) → Hp → VK → Prop := fun tl H Q =>
  ∃ (io : Nat → Addr) (h : Hh) (F : Hp) (L : Hh → Res), SR T K io h F H ∧ (∀ (E : XK) (Q' : VK), Wants T K io h.length F H E Q' (L h) → tl E H Q') ∧ Wants T K io h.length F H (fun _ _ _ => False) Q (heardRun cs l (gStrT T.fn tb) L h)
abbrev Zc0 (X : Cx) (Ng : List Str) (x : Str) (sg : Scope) (g : Addr) (cdg : Value) (s : Shared) (H : Hp) : Cx := cxOf C8.CX0 X.prog X.w X.K X.mg X.base Ng x sg g cdg X.A X.stack s H C8.E0
theorem heard_gives {T : Tb} {X : Cx} {x a y n o : Str} {sg : Scope} {g : Addr} {cdg : Value} {tb : STab} {cs : List Nat} {l : List HEnt} {q : Str} {j : Nat} {p1 p2 p3 p4 p5 p6 p7 p8 p9 p10 p11 p12 : Pos} {h₀ : ExceptHandler} {hds : List ExceptHandler}
    (hN : ([a, y, n] : List Str).Nodup) (hyl : sg.names.lookup y = some .local) (hnl : sg.names.lookup n = some .local) (hst : sg.names.lookup ("str" : Str) = some .globalImplicit) (hm : X.mg "str" = none) (em : ExmOk T X.K cs)
    (hdy : (y == ("__debug__" : Str)) = false) (hcy : (y == ("__classdict__" : Str)) = false)
    (hstr : ∀ (s : Shared) (H : Hp) (pn : List (Addr × PySem.Obj)) (xe : Value → Shared → Prop), StrOk T ((Zc0 X [a, y, n] x sg g cdg s H).tr pn xe) tb)
    (hh : ∀ (s : Shared) (H : Hp), HdM T (Zc0 X [a, y, n] x sg g cdg s H).nox n 2 (h₀ :: hds) l) (hcs : ∀ p ∈ l, HMat T X.K cs p)
    (he : ∀ (s : Shared) (H : Hp) (pn : List (Addr × PySem.Obj)) (xe : Value → Shared → Prop), starEach ([.Call (.Name a p6) [] [] p7] : List Expr) ((Zc0 X [a, y, n] x sg g cdg s H).tr pn xe).env = (false, eval (.Call (.Name a p6) [] [] p7) ((Zc0 X [a, y, n] x sg g cdg s H).tr pn xe).env) :: starEach [] ((Zc0 X [a, y, n] x sg g cdg s H).tr pn xe).env)
    (hsw1 : ∀ (s : Shared) (H : Hp), swapsWith (.Constant (.str o) j p2) (some (.Name y p1)) p3.line (Zc0 X [a, y, n] x sg g cdg s H).nox.env = pure false)
    (hsw2 : ∀ (s : Shared) (H : Hp) (pn : List (Addr × PySem.Obj)) (xe : Value → Shared → Prop), swapsWith (.Call (.Name "str" p5) [.Call (.Name a p6) [] [] p7] [] p8) (some (.Name y p4)) p9.line ((Zc0 X [a, y, n] x sg g cdg s H).tr pn xe).env = pure false) :
    GivesTo X [a, y, n] x sg g cdg [.Assign [.Name y p1] (.Constant (.str o) j p2) p3, .Try [.Assign [.Name y p4] (.Call (.Name "str" p5) [.Call (.Name a p6) [] [] p7] [] p8) p9] (h₀ :: hds) [] [] p10, .Return (some (.Name y p11)) p12] a q (TTH T X.K cs l tb) := by
  intro f c' s H Q tl act hc h
  obtain ⟨io, hh0, F, L, sr, hl, w⟩ := h
  have S1 : PS (Zc0 X [a, y, n] x sg g cdg s H).nox (.Assign [.Name y p1] (.Constant (.str o) j p2) p3) (tAsg (L2.tC (V.str o)) (gName 1)) := ps_set (i := 1) hN rfl (.inl hyl) pe_str (hsw1 s H) (.inr hyl)
  have S2 := ps_try_manyB (X := (Zc0 X [a, y, n] x sg g cdg s H).nox) (i := 2) (n := n) (pos := p10) (Wout := fun _ _ _ _ => False) (l := l.map (hdM T X.K 2))
    (body := [.Assign [.Name y p4] (.Call (.Name "str" p5) [.Call (.Name a p6) [] [] p7] [] p8) p9])
    (tb := fun W D σ H => ∃ Ech : XK, (∀ cls d σ' H', Ech cls d H' → σ'.length = 3 → W cls d σ' H') ∧ σ[0]? = some (some (.ref f)) ∧ H c' = some (CodeO c' q) ∧
      ∀ r, LiftC T X.K r (gStrT T.fn tb) → tl Ech H (fun v H1 => r [v] H1 (fun v2 H2 => D.nx (σ.set 1 (some v2)) H2)))
    rfl rfl hN rfl hnl takes0 (fun W pn xe tk _ => ⟨fun pins s' σ H' D I h' => by
      obtain ⟨Ech, hW, h1, h2, h3⟩ := h'
      obtain ⟨r, cr, lf⟩ := hstr s H pn xe
      have hp := act _ pn xe Ech p6 p7 (takes_len tk) (fun cls d σ' H' e hlen => hW cls d σ' H' e hlen)
      have pe := pe_callTy (p := p5) (pos := p8) cr hst hm (by decide +kernel) (pa_cons hp pa_nil (he s H pn xe)) (he := he s H pn xe) (hpl := rfl)
      exact (pss_one (ps_set (i := 1) (pos := p9) (pos' := p4) hN rfl (.inl hyl) pe (hsw2 s H pn xe) (.inr hyl))).run pins s' σ H' D I ⟨h1, h2, h3 r lf⟩⟩)
    (hh s H).hdsB
  have S3 : PS (Zc0 X [a, y, n] x sg g cdg s H).nox (.Return (some (.Name y p11)) p12) (tRet (tVar 1)) := ps_ret (pe_var rfl (.inl hyl) hdy hcy)
  refine ⟨_, pss_cons S1 (pss_cons S2 (pss_one S3)), ?_⟩
  have st0 : (L2.start [a, y, n] [V.ref f]) = [some (.ref f), none, none] := rfl
  rw [st0]
  show ∃ Ech : XK, _
  refine ⟨fun cls d H' => ∀ σ' : L2.St, σ'.length = 3 → wManyB X.K 2 (fun _ _ _ _ => False) { nx := fun σ1 H1 => tRet (tVar 1) { nx := fun _ H' => Q .non H', rt := Q } σ1 H1, rt := Q } (l.map (hdM T X.K 2)) cls d σ' H', fun cls d σ' H' e hlen => e σ' hlen, rfl, hc, fun r lf => hl _ _ ?_⟩
  unfold heardRun at w
  cases e : L hh0 with
  | bad => rw [e] at w; exact w.elim
  | ok v h1 =>
    rw [e] at w
    dsimp only at w
    intro io1 F1 H1 x1 st1 sr1 vr1
    obtain ⟨z, h2, ez, w2⟩ := wants_ofP w
    exact lf io1 h1 F1 H1 [v] [x1] z h2 _ sr1 (.cons vr1 .nil) ez fun io2 F2 H2 x2 st2 sr2 vr2 => ⟨x2, rfl, w2 io2 F2 H2 x2 (st1.trans sr1 st2) sr2 vr2⟩
  | exc c fs h1 =>
    rw [e] at w
    dsimp only at w
    by_cases hcc : c ∈ cs
    · rw [if_pos hcc] at w
      intro io1 F1 H1 d st1 sr1 xr1 σ' hlen
      have rs : RSt T X.K io1 h1.length F1 [none, none, none] σ' := ⟨hlen.symm, fun i v ev => by
        match i, ev with
        | 0, ev => cases ev
        | 1, ev => cases ev
        | 2, ev => cases ev
        | i + 3, ev => simp at ev⟩
      refine tryM_ok (i := 2) sr1 rs xr1 (by decide) em hcc l hcs ?_
      cases et : tryM 2 c fs [none, none, none] h1 l with
      | next sg1 h2 =>
        rw [et] at w
        dsimp only at w
        intro io2 F2 H2 σ2 st2 sr2 rs2
        cases e1 : sg1[1]? with
        | none => rw [e1] at w; exact w.elim
        | some o1 =>
          cases o1 with
          | none => rw [e1] at w; exact w.elim
          | some v1 =>
            rw [e1] at w
            dsimp only at w
            obtain ⟨x1, ex, vx⟩ := rs2.at_ 1 v1 e1
            exact ⟨x1, ex, w io2 F2 H2 x1 (st1.trans sr1 st2) sr2 vx⟩
      | _ => rw [et] at w; exact w.elim
    · rw [if_neg hcc] at w; exact w.elim
section
variable {T : Tb} {X : Cx} {W : WX}
theorem je_lamH {x a : Str} {g c P : Addr} {k : Nat} {pg : Arguments} {bg : List Stmt} {sg : Scope} {dV kV doc pm cdv ct oc : Value} {an od : Option Addr} {osl : Array (Option Value)} {Ng : List Str} {cs : List Nat} {l : List HEnt} {tb : STab} {fb : Ex}
    {params : Arguments} {body : Expr} {scope : Scope} {p lpos pos : Pos} (hg : Gl X x) (hm : X.mg x = some (.ref g)) (hk : PySem.W.keepIn X.K (.ref g) = true)
    (lk : X.K.lookup g = some ⟨oc, od, .func (PySem.W.fnOf x x pg bg sg dV kV doc pm an cdv ct), osl⟩) (hcg : PySem.W.codeIn X.K cdv x = true) (hb : L2.Binds X.K (PySem.W.fnOf x x pg bg sg dV kV doc pm an cdv ct) [a] []) (Sg : FnScope Ng [a] sg) (hNg : Ng[0]? = some a) (hva : Vis sg a)
    (hG : GivesTo X Ng x sg g cdv bg a (X.env.qual ++ "<lambda>") (TTH T X.K cs l tb))
    (TB : TabB X.base X.mg c P) (hcode : X.env.code = .ref c) (hmT : (P, X.env.qual ++ "<lambda>") ∈ T.ts) (hu : ∀ p ∈ T.ts, p.1 = P → p.2 = X.env.qual ++ "<lambda>") (hr : RoomG (k + 2) X.A) (LS : LamS X.env.scope scope) (hdef : defaultsOf params X.env = ([], []))
    (hbind : ∀ (q : Str) (cl : List (Str × Addr)) (pm cv ctv : Value), bindArgs (PySem.W.kla_fn "<lambda>" q params body scope cl pm cv ctv) ⟨[], []⟩ = pure [])
    (hbody : ∀ (A : Around) (outer : List Env) (s : Shared) (H : Hp) (E : XK) (f c' : Addr), RoomG k (A.deeper (lamEnv X scope s.heap.objs.size f c')) → JE T (lamCx X A outer s H E scope f c') (fun cls d _ H => E cls d H) body fb)
    (hdb : (x == ("__debug__" : Str)) = false := by decide) (hd : (a == ("__debug__" : Str)) = false := by decide) (hcd : (a == ("__classdict__" : Str)) = false := by decide) :
    JE T X W (.Call (.Name x p) [.Lambda params body scope lpos] [] pos) (xLamH cs l (gStrT T.fn tb) fb) := by
  refine ⟨fun pins s σ H Q I h => ?_⟩
  obtain ⟨io, h, F, sgv, sr, rs, w⟩ := h
  have made := fun Q' k => lam_makeL (Q := Q') (E := X.xe) (body := body) (params := params) (scope := scope) (pos := lpos) I TB hcode rfl sr.sub (sr.tabs _ hmT) hdef (LS.has I.ok) k
  refine wpAny_Call_Name_kw (ld_glob I hg hm (PySem.W.callWith_K (h₀ := X.base) I.ok.mod.kin hk (Calls.spliced_cons (made _ ?_)) rfl rfl) hdb)
  intro f c' pm' ctv F1 H1 s' I1 la
  refine Calls.spliced_nil ⟨I1.kIn, ?_⟩
  obtain ⟨_, psP, hP, _⟩ := sr.tabs _ hmT
  have isP : ∀ b o, H b = some o → b = P → o = .tbl psP := fun b o e z => by
    rw [z, hP] at e
    exact (Option.some.inj e).symm
  have none1 : ∀ b o, F b = none → H b = some o → F1 b = none := fun b o e1 e2 => by
    cases e3 : F1 b with
    | none => rfl
    | some u =>
      cases la.fnew b u e3 with
      | inl z => rw [e1] at z; cases z
      | inr z => rw [e2] at z; cases z
  have tabs1 : ∀ pq ∈ T.ts, TabF F1 H1 pq.1 pq.2 := fun pq hq => by
    rcases Decidable.em (pq.1 = P) with hP1 | hP1
    · rw [hu pq hq hP1, hP1]
      exact la.tab
    · obtain ⟨g0, ps, g1, g2, g3⟩ := sr.tabs pq hq
      refine ⟨none1 _ _ g0 g1, ps, la.keep _ _ g1 hP1, g2, fun pos cv hcv => ?_⟩
      obtain ⟨c0, e1, e2⟩ := g3 pos cv hcv
      exact ⟨c0, e1, la.fsub _ _ e2⟩
  have sr1 : SR T X.K io h F1 H1 := {
    sub := la.fin
    dis := fun j hj => by
      obtain ⟨u, hu'⟩ := sr.there hj
      exact none1 _ u (sr.dis j hj) hu'
    inj := sr.inj
    obj := fun j o e => (sr.obj j o e).monoN (Nat.le_refl _) (fun _ _ => rfl) la.fsub fun b o e nt => la.keep b o e fun z => nt psP (isP b o e z)
    tabs := tabs1 }
  have st1 : Step io h.length F H io h.length F1 H1 := {
    le := Nat.le_refl _
    eq := fun _ _ => rfl
    phi := la.fsub
    frm := fun b o e _ => by
      rcases Decidable.em (b = P) with hb | hb
      · obtain ⟨_, ps2, e2, _⟩ := la.tab
        exact .inr ⟨psP, ps2, isP b o e hb, by rw [hb]; exact e2⟩
      · exact .inl (la.keep b o e hb)
    new := fun j a b => absurd b (Nat.not_lt.mpr a)
    fresh := fun b o e => (la.fnew b o e).imp id .inl }
  have rs1 := rs.step st1
  have w1 : Wants T X.K io h.length F1 H1 (fun _ _ _ => False) Q (heardRun cs l (gStrT T.fn tb) (fun h' => fb sgv h') h) := by
    have w0 : Wants T X.K io h.length F1 H1 (fun c d H' => W c d σ H') Q (heardRun cs l (gStrT T.fn tb) (fun h' => fb sgv h') h) := Wants.rebase w st1 sr1
    cases er : heardRun cs l (gStrT T.fn tb) (fun h' => fb sgv h') h with
    | ok v h2 => rw [er] at w0; exact w0
    | bad => rw [er] at w0; exact w0
    | exc c fs h2 =>
      exfalso
      unfold heardRun at er
      dsimp only at er
      cases e1 : fb sgv h with
      | bad => rw [e1] at er; cases er
      | ok v h1 =>
        rw [e1] at er
        dsimp only at er
        cases e2 : gStrT T.fn tb h1 [v] with
        | none => rw [e2] at er; cases er
        | some z => rw [e2] at er; cases er
      | exc c1 fs1 h1 =>
        rw [e1] at er
        dsimp only at er
        split at er
        · split at er
          · split at er
            · cases er
            · cases er
          · cases er
        · cases er
  have rc : codeAny (model X.prog X.w) X.A (.call (.ref g) ⟨[.ref f], []⟩) (CR C8.CX0 X.stack X.prog X.w H1 s' Q C8.E0) s' := by
    refine run_ofS (N := Ng) (ps := [a]) (us := [.ref f]) (vs := [.ref f]) lk hcg Sg (show Room ((k + 1) + 1) X.A from hr.rm) I1.env0 (hb s' [.ref f] I1.kIn rfl) (.cons rfl .nil) rfl fun _ => ?_
    obtain ⟨t', ht', hq'⟩ := hG f c' s' H1 Q (fun E H' Q' => tE T X.K (fun cls d _ H => E cls d H) fb σ H' Q') (fun W2 pn xe E p1 p2 tk hW => pe_actG (i := 0) I1 LS rfl la (hbind _ _ _ _ _) tk hW (hr.deeper _) (fun A outer s H hr2 => hbody A outer s H E f c' hr2) hNg hva hd hcd) la.code
      ⟨io, h, F1, fun h' => fb sgv h', sr1, fun E Q' wz => ⟨io, h, F1, sgv, sr1, rs1, wz⟩, w1⟩
    exact ⟨t', ht'.nox, hq'⟩
  refine wpAny_call (codeAny_mono rc ?_)
  rintro (er | (_ | _ | _ | u)) s2 hq
  all_goals first
    | exact I1.after hq
    | exact False.elim hq
end
end Py
namespace Py
open PySem PySem.Spec PyProof.Rows L2 LamX
section
variable {P : Program} {w : World} {K : PySem.W.Frag} {mg mb : Str → Option Value} {C : CXT} {k : Nat} {fa a c tb : Addr} {fd : FuncData} {x : Str} {sp : Sp} {s1 : Shared} {vs : List Value} {ns : List Int}
theorem law_callTG (KX : K.In s1.heap) (hns : s1.heap.Ns mainGlobals mg) (hbn : s1.heap.Ns builtinsNs mb) (hbb : ∀ x : Str, x ≠ "__name__" → mb x = bootBuiltins x) (hlim : s1.heap.NoLimit) (hg : s1.gens = #[])
    (hT : s1.heap.get? tb = some { cls := .none, data := .fields #[] }) (nT : K.lookup tb = none) (hC : PySem.W.CodeHd s1.heap c tb)
    (hbm : ∃ (bm : Addr) (ob : PySem.Obj), mg "__builtins__" = some (.ref bm) ∧ bm ≠ builtinsNs ∧ s1.heap.get? bm = some ob ∧ ob.cls = .type "module" ∧ ob.dict = some builtinsNs ∧ ob.data = .plain)
    (ha : s1.heap.get? a = some { cls := .type "list", data := .seq vs.toArray }) (hi : IntsAre vs ns) (hl : ns.length ≤ sizeLine) (hr : RoomG k callerA)
    (F : ∀ base : Heap, K.In base → base.Ns mainGlobals mg → TabB base mg c tb → FnG P w K mg base C k fa fd [x] sp) (hbind : ∀ (s : Shared) (u : Value), BindsTo s fd ⟨[u], []⟩ [(x, u)])
    (hsp : ∀ H : Hp, H tb = some (.tbl #[]) → (∀ b u, H b = some u → b ≠ tb → ∃ ob xs, u = .frz ob (.lst xs)) → SqL K H a (ns.map V.int) → sp [.ref a] H (fun v _ => v = .bl true) fun _ _ _ => False)
    (hCX : ∀ H e s', C [] H s1 (fun _ _ _ => False) e s' → False) :
    codeAny (model P w) callerA (.call (.ref fa) ⟨[.ref a], []⟩) (fun r s' => r = .ok (.ret (.bool true)) ∧ OldK s1.heap s'.heap ∧ s'.os = s1.os ∧ AllBare s'.gens) s1 := by
  have ne : a ≠ tb := fun z => by
    rw [z, hT] at ha
    cases (congrArg PySem.Obj.data (Option.some.inj ha) : Data.fields #[] = Data.seq vs.toArray _)
  have key : ∀ H : Hp, H tb = some (.tbl #[]) → (∀ b u, H b = some u → b ≠ tb → b = a ∧ K.lookup a = none ∧ ∃ ob xs, u = .frz ob (.lst xs)) → SqL K H a (ns.map V.int) → HOk P w H s1.heap →
      codeAny (model P w) callerA (.call (.ref fa) ⟨[.ref a], []⟩) (fun r s' => r = .ok (.ret (.bool true)) ∧ OldK s1.heap s'.heap ∧ s'.os = s1.os ∧ AllBare s'.gens) s1 := by
    intro H hHt lone sq hok
    have seen : ∀ {b : Addr} {o : PySem.Obj}, s1.heap.get? b = some o → H b = none → (hidT s1.heap H).get? b = some o := hidT_get
    have other : ∀ {b : Addr} {o : PySem.Obj}, s1.heap.get? b = some o → o.data ≠ .seq vs.toArray → o.data ≠ .fields #[] → H b = none := by
      intro b o e h1 h2
      cases q : H b with
      | none => rfl
      | some u =>
        rcases Decidable.em (b = tb) with rfl | hb
        · rw [hT] at e; cases e; exact absurd rfl h2
        · obtain ⟨rfl, _⟩ := lone b u q hb
          rw [ha] at e; cases e; exact absurd rfl h1
    have dicts : ∀ {b : Addr} {o : PySem.Obj} {es : Array DictEntry} {ep : Nat}, s1.heap.get? b = some o → o.data = .dict es ep → H b = none := fun e d => other e (by rw [d]; nofun) (by rw [d]; nofun)
    have ns2 : ∀ {b : Addr} {m : Str → Option Value}, s1.heap.Ns b m → (hidT s1.heap H).Ns b m := fun ⟨o, es, ep, e, d, r⟩ => ⟨o, es, ep, seen e (dicts e d), d, r⟩
    have KB : K.In (hidT s1.heap H) := fun b o e => seen (KX b o e) (by
      cases q : H b with
      | none => rfl
      | some u =>
        rcases Decidable.em (b = tb) with rfl | hb
        · rw [nT] at e; cases e
        · obtain ⟨rfl, z, _⟩ := lone b u q hb
          rw [z] at e; cases e)
    have md : Mod K mg (hidT s1.heap H) := ⟨KB, ns2 hns, ⟨mb, ns2 hbn, hbb⟩, let ⟨mc, l1, l2⟩ := hlim; ⟨mc, ns2 l1, l2⟩⟩
    have TBs : TabB (hidT s1.heap H) mg c tb := by
      refine ⟨?_, ?_, fun z => ?_⟩
      · obtain ⟨o, us, file, tf, flags, tg, inF, text, tt, e1, e2, e3, e4, rest⟩ := hC
        refine ⟨o, us, file, tf, flags, tg, inF, text, tt, seen e1 (other e1 (by rw [e3]; nofun) fun z => ?_), e2, e3, e4, rest⟩
        rw [e3] at z
        cases z
        cases e4
      · obtain ⟨bm, ob, b1, b2, b3, b4, b5, b6⟩ := hbm
        refine ⟨bm, ob, b1, b2, fun z => ?_, fun z => ?_, seen b3 (other b3 (by rw [b6]; nofun) (by rw [b6]; nofun)), b4, b5, b6⟩
        · obtain ⟨o, es, ep, e, d, _⟩ := hns
          rw [z, e] at b3
          cases b3
          rw [d] at b6
          cases b6
        · rw [z, hT] at b3
          cases b3
          cases b6
      · obtain ⟨o, es, ep, e, d, _⟩ := hns
        rw [z, hT] at e
        cases e
        cases d
    have en : Env0 P w K mg (hidT s1.heap H) callerA [] s1 H := ⟨rfl, md, fun b o e => of_hidT e, Nat.le_of_eq (hidT_size _ _), trivial, fun b z => (List.not_mem_nil (show b ∈ ([] : List Addr) from z)).elim, hok, .of_eq hg⟩
    refine codeAny_mono ((F _ KB (ns2 hns) TBs).run callerA [] s1 H ⟨[.ref a], []⟩ [.ref a] [.ref a] _ _ hr en (hbind s1 (.ref a)) (.cons rfl .nil) (hsp H hHt (fun b u e hb => (lone b u e hb).2.2) sq)) fun res s2 h2 => ?_
    match res, h2 with
    | .error e, z => exact (hCX H e s2 z).elim
    | .ok .next, z => exact False.elim z
    | .ok .brk, z => exact False.elim z
    | .ok .cont, z => exact False.elim z
    | .ok (.ret u), ⟨v, H2, os, bare, un, hok2, rv, qv⟩ =>
      cases (show v = .bl true from qv)
      cases (show u = Value.bool true from rv)
      obtain ⟨more, hm⟩ := un.tbls tb #[] hHt
      have grown := hok2 tb _ hm
      have rest : ∀ b o, b ≠ tb → s1.heap.get? b = some o → s2.heap.get? b = some o := by
        intro b o hb e
        cases q : H b with
        | none => exact un.keep b o e q (fun z => (List.not_mem_nil (show b ∈ ([] : List Addr) from z)).elim) (by simp)
        | some u =>
          obtain ⟨_, _, ob, xs, rfl⟩ := lone b u q hb
          have e1 := (hok b _ q).1
          have e2 := (hok2 b _ (un.frzs b ob _ q)).1
          rw [e] at e1
          cases e1
          exact e2
      refine ⟨rfl, ⟨fun b o e => ?_, fun b o e => ?_⟩, os, bare⟩
      · rcases Decidable.em (b = tb) with rfl | hb
        · rw [hT] at e
          cases e
          exact .inr (.inl ⟨(hC.tab hT).isCodeTable, rfl, #[], more, rfl, by rw [Array.empty_append]; rw [Array.empty_append] at grown; exact grown⟩)
        · exact .inl (rest b o hb e)
      · rcases Decidable.em (b = tb) with rfl | hb
        · exact ⟨_, grown⟩
        · exact ⟨o, rest b o hb e⟩
  have rel := vals_ints hi
  have many := hi.length
  cases hk : K.lookup a with
  | some o =>
    have e := KX a o hk
    rw [ha] at e
    cases e
    let H0 : Hp := fun b => if b = tb then some (.tbl #[]) else none
    have at_ : H0 tb = some (.tbl #[]) := if_pos rfl
    refine key H0 at_ (fun b u z hb => ?_) (.inr ⟨_, vs.toArray, _, hk, rfl, rfl, rfl, by rw [List.size_toArray, many]; exact hl, by simpa using rel⟩) fun b u z => ?_
    · cases (if_neg hb).symm.trans z
    · rcases Decidable.em (b = tb) with rfl | hb
      · cases at_.symm.trans z
        exact hT
      · cases (if_neg hb).symm.trans z
  | none =>
    let H0 : Hp := fun b => if b = tb then some (.tbl #[]) else if b = a then some (.frz { cls := .type "list", data := .seq vs.toArray } (.lst (ns.map V.int))) else none
    have at_ : H0 tb = some (.tbl #[]) := if_pos rfl
    have at_a : H0 a = some (.frz { cls := .type "list", data := .seq vs.toArray } (.lst (ns.map V.int))) := (if_neg ne).trans (if_pos rfl)
    have who : ∀ b u, H0 b = some u → b ≠ tb → b = a := fun b u z hb => Classical.byContradiction fun hn => by
      have z2 := ((if_neg hb).trans (if_neg hn)).symm.trans z
      cases z2
    refine key H0 at_ (fun b u z hb => ?_) (.inl (.inr ⟨_, at_a⟩)) fun b u z => ?_
    · obtain rfl := who b u z hb
      rw [at_a] at z
      cases z
      exact ⟨rfl, hk, _, _, rfl⟩
    · rcases Decidable.em (b = tb) with rfl | hb
      · cases at_.symm.trans z
        exact hT
      · obtain rfl := who b u z hb
        rw [at_a] at z
        cases z
        exact ⟨ha, by rw [List.length_map]; exact hl, vs, _, rel, ha⟩
end
theorem fn_okLam {P : Program} {w : World} {K : PySem.W.Frag} {mg : Str → Option Value} {base : Heap} {x qual : Str} {params : Arguments} {body : List Stmt} {scope : Scope} {dvs : List V} {kws : List (Str × V)} {f c : Addr} {fd : FuncData} {T : Tb} {N ps : List Str} {k : Nat} {fb : Sx}
    (FD : FunD K x qual params body scope dvs kws f fd) (S : FnScope N ps scope) (hcode : fd.code = .ref c)
    (hb : ∀ (A : Around) (outer : List Env) (s : Shared) (H : Hp) (E : XK), RoomG k (A.deeper (envOfC qual scope s.heap.objs.size f (.ref c))) →
      JSs T (cxOf (CX P w) P w K mg base N qual scope f (.ref c) A outer s H E) (fun c d _ H => E c d H) body fb) :
    FnG P w K mg base (CX P w) (k + 1) f fd ps (spF T K (fnOf ps.length N.length fb)) := by
  have plain := fun (cdv : Value) (e : cdv = .ref c) => e
  obtain ⟨oc, od, dV, kV, doc, pm, an, cdv, ct, osl, rfl, lk, hcd, r1, r2⟩ := FD.ex
  obtain rfl : cdv = .ref c := hcode
  have same : ∀ (cdv2 : Value) (A : Around) (outer : List Env) (s : Shared) (H : Hp) (E : XK), cdv2 = .ref c → RoomG k (A.deeper (envOfC qual scope s.heap.objs.size f cdv2)) → JSs T (cxOf (CX P w) P w K mg base N qual scope f cdv2 A outer s H E) (fun c d _ H => E c d H) body fb :=
    fun cdv2 A outer s H E e hr => by subst e; exact hb A outer s H E hr
  have start : ∀ vs H Q E, spF T K (fnOf ps.length N.length fb) vs H Q E → vs.length = ps.length ∧ tS T K (fun c d _ H => E c d H) fb { nx := fun _ H' => Q .non H', rt := Q } (L2.start N vs) H := by
    rintro vs H Q E ⟨io, h, F, as, sr, vrs, w⟩
    unfold fnOf at w
    rcases Decidable.em (as.length = ps.length) with hl | hl
    · rw [if_pos hl] at w
      have e : L2.start N vs = vs.map some ++ List.replicate (N.length - ps.length) none := by unfold L2.start; rw [← vrs.length, hl]
      refine ⟨vrs.length.symm.trans hl, io, h, F, _, sr, by rw [e]; exact rst_start vrs _, ?_⟩
      cases q : fb (as.map some ++ List.replicate (N.length - ps.length) none) h with
      | next sg h1 => rw [q] at w; exact fun io' F' H' σ' st sr' rs' => w io' F' H' _ st sr' .non
      | ret v h1 => rw [q] at w; exact w
      | exc c fs sg h1 => rw [q] at w; exact fun io' F' H' σ' d st sr' rs' xr => w io' F' H' d st sr' xr
      | _ => rw [q] at w; exact w.elim
    · rw [if_neg hl] at w; exact w.elim
  refine ⟨fun vs H Q E h => (start vs H Q E h).1, fun A outer s H args us vs Q E room e0 hbind rel h => ?_⟩
  obtain ⟨hlen, ht⟩ := start vs H Q E h
  have KI : K.In s.heap := e0.mod.kin.keeps fun b o z => (e0.bs b o z).1
  have kinds : ∀ y ∈ ps.zip us, scope.names.lookup y.1 = some .local ∨ (scope.names.lookup y.1 = some .cell ∧ ((cellsFrom (s.heap.objs.size + 1) scope.names []).lookup y.1).isSome = true) := by
    rintro ⟨n, v⟩ hy
    have hn := S.par n (List.of_mem_zip hy).1
    exact hn.elim .inl fun z => .inr ⟨z, PySem.W.cellsFrom_some _ _ _ (.inl z)⟩
  refine codeAny_call_function room.rm.depth (KI _ _ lk) rfl S.co S.gen rfl (PySem.W.codeRec_of KI hcd) (hbind _ _ _ _ (wpAny_newFunctionEnv_cells S.kind kinds fun env henv s1 new => ?_))
  subst henv
  refine ⟨(e0.mod.nolimit.keeps fun b o z => (e0.bs b o z).1).keeps new.toInCall.keep, codeAny_func ?_⟩
  have I0 : L2.Inv (cxOf (CX P w) P w K mg base N qual scope f (.ref c) A outer s H E) [] (L2.start N vs) H s1 := inv_start S room.rm.hd e0 hlen rel new
  refine wpAny_mono ((hb A outer s H E (room.deeper _)).run [] s1 _ H _ I0 ht) (fun flow s2 h2 => ?_) fun _ _ z => z
  match flow, h2 with
  | .ret u, ⟨v, σ2, H2, J, rv, q⟩ => exact ⟨v, H2, J.os, J.bare, J.base, J.hok, rv, q⟩
  | .next, ⟨σ2, H2, J, q⟩ => exact ⟨V.non, H2, J.os, J.bare, J.base, J.hok, rfl, q⟩
  | .brk, ⟨_, _, _, q⟩ => exact False.elim q
  | .cont, ⟨_, _, _, q⟩ => exact False.elim q
theorem law_endT {l : PySem.W.OpenLaw} {k : Nat} {q : Program} {loose : List Str} {XP : (Str → Option Value) → Heap → Prop} {YP : World → Heap → Prop} {d : DefRec} {T : World → Addr → Tb} {fl : Fx} {lam : Str}
    (hts : ∀ w tb, (T w tb).ts = [(tb, lam)]) (hn : l.most = some 63) (hdf : d.params.defaults = []) (hr : RoomG k callerA) (hrec : (recsOf q).find? (fun e => e.name == d.name) = some d)
    (F : ∀ (w : World) (mg : Str → Option Value) (fa : Addr) (h : Heap), YP w h → h.Ns mainGlobals mg → mg d.name = some (.ref fa) →
      ∃ (K : PySem.W.Frag) (fd : FuncData) (c tb : Addr), K.In h ∧ PySem.W.tabIn K d.name = some (c, tb) ∧ K.lookup tb = none ∧ (∀ (s : Shared) (u : Value), BindsTo s fd ⟨[u], []⟩ [("_law_script", u)]) ∧
        ∀ base : Heap, K.In base → base.Ns mainGlobals mg → TabB base mg c tb → FnG l.prog w K mg base (CX l.prog w) k fa fd ["_law_script"] (spF (T w tb) K fl))
    (hl : ∀ ns : List Int, ns.length ≤ 63 → (∀ z ∈ ns, Builtin.Int.intBits z ≤ 1048576) → ∃ h', fl [] [.lst (ns.map Val.int)] = .ok (.bl true) h') :
    PySem.W.WalkO q loose XP YP l.row.toRowW d [] (fun f vs => PySem.call f vs) := by
  refine Att.attach_callB hn hdf fun w s0 s1 mg mb fa o pm cd doc a vs ns G Y ho hd hcd hmg hobj hints hlen hbits hg => ?_
  obtain ⟨K, fd, c, tb, KX, ht, nT, hb, hF⟩ := F w mg fa _ Y G.T.g hmg
  obtain ⟨hC, hT⟩ := PySem.W.tab_of G.T KX hrec ht
  refine law_callTG (C := CX l.prog w) KX G.T.g G.T.b G.T.builtins G.T.nolimit hg hT nT hC G.T.bmain hobj hints (Nat.le_trans hlen (by decide)) hr hF hb (fun H hH hO hS => ?_) fun H e s' hc => cx_false hc
  obtain ⟨h', e⟩ := hl ns hlen hbits
  let F0 : Hp := fun b => if b = tb then none else H b
  have f0 : F0 tb = none := if_pos rfl
  have fo : ∀ b, b ≠ tb → F0 b = H b := fun b hb => if_neg hb
  have fsub : ∀ b u, F0 b = some u → H b = some u := fun b u z => by
    rcases Decidable.em (b = tb) with rfl | hb2
    · rw [f0] at z; cases z
    · rw [fo b hb2] at z; exact z
  have allI : ∀ L : List Int, VRs (T w tb) K (fun _ => 0) 0 F0 (L.map Val.int) (L.map V.int) := by
    intro L
    induction L with
    | nil => exact .nil
    | cons i L ih => exact .cons (.int i) ih
  have sq0 : SqL K F0 a (ns.map V.int) := by
    rcases hS with (z | ⟨ob, z⟩) | z
    · rcases Decidable.em (a = tb) with rfl | hb2
      · rw [hH] at z; cases z
      · exact .inl (.inl ((fo a hb2).trans z))
    · rcases Decidable.em (a = tb) with rfl | hb2
      · rw [hH] at z; cases z
      · exact .inl (.inr ⟨ob, (fo a hb2).trans z⟩)
    · exact .inr z
  have tabs : ∀ p ∈ (T w tb).ts, TabF F0 H p.1 p.2 := fun p hp => by
    rw [hts] at hp
    obtain rfl := List.mem_singleton.mp hp
    refine ⟨f0, #[], hH, trivial, fun pos cv z => ?_⟩
    have z2 : codeAmong pos [] = some cv := z
    simp [codeAmong] at z2
  refine ⟨fun _ => 0, [], F0, [.lst (ns.map Val.int)], ⟨fsub, fun k hk => absurd hk (Nat.not_lt_zero _), fun j k hj => absurd hj (Nat.not_lt_zero _), fun k o e => by simp at e, tabs⟩, .cons (.lst sq0 (allI ns)) .nil, ?_⟩
  rw [e]
  intro io' F' H' x st sr vr
  cases vr
  rfl
end Py
namespace Py
open PySem PySem.Spec PyProof.Rows L2 LamX
theorem tab_code {K : PySem.W.Frag} {x : Str} {c P : Addr} (h : PySem.W.tabIn K x = some (c, P)) {fd : FuncData} {oc : Value} {od : Option Addr} {osl : Array (Option Value)} (lk : K.lookup (He.ga K x) = some ⟨oc, od, .func fd, osl⟩) : fd.code = .ref c := by
  unfold PySem.W.tabIn at h
  split at h
  · rename_i f hf
    have e : He.ga K x = f := by unfold He.ga; rw [hf]
    rw [e] at lk
    rw [lk] at h
    dsimp only at h
    split at h
    · rename_i c' hc
      split at h
      · split at h
        · cases h
          exact hc
        · cases h
      · cases h
    · cases h
  · cases h
theorem fun_code {K : PySem.W.Frag} {x qual : Str} {params : Arguments} {body : List Stmt} {scope : Scope} {dvs : List V} {kws : List (Str × V)} {fd : FuncData} {c P : Addr} (FD : FunD K x qual params body scope dvs kws (He.ga K x) fd) (h : PySem.W.tabIn K x = some (c, P)) : fd.code = .ref c := by
  obtain ⟨oc, od, _, _, _, _, _, _, _, osl, _, lk, _⟩ := FD.ex
  exact tab_code h lk
section
variable {T : Tb} {X : Cx} {W : WX}
theorem je_heard {x a lam : Str} {g c P : Addr} (k : Nat) {pg : Arguments} {bg : List Stmt} {sg : Scope} {Ng : List Str} {cs : List Nat} {l : List HEnt} {tb : STab} {fb : Ex}
    {params : Arguments} {body : Expr} {scope : Scope} {p lpos pos : Pos} (hF : ∃ fd, FunD X.K x x pg bg sg [] [] g fd) (hm : X.mg x = some (.ref g)) (Sg : FnScope Ng [a] sg) (hNg : Ng[0]? = some a) (hva : Vis sg a)
    (hbg : ∀ (kV doc pm : Value) (an : Option Addr) (cdv ct : Value) (us : List Value), us.length = [a].length → bindArgs (PySem.W.fnOf x x pg bg sg .none kV doc pm an cdv ct) ⟨us, []⟩ = pure (([a] : List Str).zip us))
    (hG : ∀ cdg : Value, GivesTo X Ng x sg g cdg bg a lam (TTH T X.K cs l tb)) (TB : TabB X.base X.mg c P) (hcode : X.env.code = .ref c) (hlam : X.env.qual ++ "<lambda>" = lam) (hts : T.ts = [(P, lam)]) (hr : RoomG (k + 2) X.A)
    (LS : lamSB X.env.scope scope = true) (hdef : defaultsOf params X.env = ([], []))
    (hbind : ∀ (q : Str) (cl : List (Str × Addr)) (pm cv ctv : Value), bindArgs (PySem.W.kla_fn "<lambda>" q params body scope cl pm cv ctv) ⟨[], []⟩ = pure [])
    (hbody : ∀ (A : Around) (outer : List Env) (s : Shared) (H : Hp) (E : XK) (f c' : Addr), RoomG k (A.deeper (lamEnv X scope s.heap.objs.size f c')) → Takes (lamCx X A outer s H E scope f c') (fun cls d _ H => E cls d H) → JE T (lamCx X A outer s H E scope f c') (fun cls d _ H => E cls d H) body fb)
    (hg : Gl X x := by rfl) (hdb : (x == ("__debug__" : Str)) = false := by decide) (hd : (a == ("__debug__" : Str)) = false := by decide) (hcd : (a == ("__classdict__" : Str)) = false := by decide) :
    JE T X W (.Call (.Name x p) [.Lambda params body scope lpos] [] pos) (xLamH cs l (gStrT T.fn tb) fb) := by
  obtain ⟨fd, FD⟩ := hF
  have hb := FD.bindsN (ps := [a]) hbg
  have kp := FD.kp
  obtain ⟨oc, od, dV, kV, doc, pm, an, cdv, ct, osl, rfl, lk, hcg, _, _⟩ := FD.ex
  subst hlam
  exact je_lamH hg hm kp lk hcg hb Sg hNg hva (hG cdv) TB hcode (by rw [hts]; exact List.mem_singleton.mpr rfl) (fun pq hq _ => by rw [hts] at hq; rw [List.mem_singleton.mp hq]) hr (lamS_by LS) hdef hbind
    (fun A outer s H E f c' hr2 => hbody A outer s H E f c' hr2 (takes_of rfl rfl rfl rfl)) hdb hd hcd
end
section
variable {T : Tb} {X : Cx} {W : WX} {pos : Pos}
theorem run_in1T {k : Nat} {f : Addr} {fd : FuncData} {ps : List Str} {sp : Sp} {pins : List (Addr × PySem.Obj)} {σ : L2.St} {H : Hp} {s : Shared} {Q : VK} {E : XK} {vs : List V} {us : List Value} {R : Value → Shared → Prop} (F : FnG X.prog X.w X.K X.mg X.base (L2.CX X.prog X.w) k f fd ps sp) (hr : RoomG (k + 1) X.A) (hb : Binds X.K fd ps []) (hx : PassesAt (L2.CX X.prog X.w) X σ E)
    (I : L2.Inv X pins σ H s) (r : Vals vs us) (h : sp vs H Q E) (back : ∀ v H' s', L2.Inv X pins σ H' s' → ∀ u, RelV v u → Q v H' → R u s') : wpAny (model X.prog X.w) X.A.in1 (call (.ref f) us) R X.xe s := by
  have many := F.len _ _ _ _ h
  have bound : BindsTo s fd ⟨us, []⟩ (ps.zip us) := by
    have z := hb s us I.kIn (by rw [List.append_nil, ← r.length]; exact many)
    simpa using z
  refine wpAny_call (codeAny_mono (F.run X.A.in1 X.stack s H ⟨us, []⟩ us vs Q E hr.in1 I.env0.in1 bound r h) fun res s' z => ?_)
  rcases res with er | (_ | _ | _ | w)
  all_goals first
    | exact hx pins H s er s' I z
    | exact False.elim z
    | (obtain ⟨v, H', I', rv, q⟩ := I.after z
       exact back v H' s' I' w rv q)
theorem ix_ownT {k : Nat} {C f : Addr} {fd : FuncData} {ps : List Str} {sp : Sp} {E : XK} (F : FnG X.prog X.w X.K X.mg X.base (L2.CX X.prog X.w) k f fd ps sp) (M : Meth X.K C "__getitem__" f) (hfi : PySem.W.fnIn X.K f = true) (hb : Binds X.K fd ps []) (hr : RoomG (k + 1) X.A) (value slice : Expr) {pins : List (Addr × PySem.Obj)} {s : Shared} {σ : L2.St} {H : Hp} {a dx : Addr} {fs : List (Str × V)} {i : Int} {t : Tok} {Q : VK} (hx : PassesAt (L2.CX X.prog X.w) X σ E) (I : L2.Inv X pins σ H s) (ea : H a = some (.ins C dx fs)) (h : sp [.ref a, .int i] H Q E)
    (hsl : subscripted slice true (.ref a) (.int i t) = runValue (.builtin "lifetime.subscript" ⟨[.ref a, .int i t], []⟩)) : wpAny (model X.prog X.w) X.A (subscriptTail value slice (.ref a) (.int i t)) (EP X pins σ Q) X.xe s := by
  obtain ⟨mA, J0, _⟩ := ins_get I.hok ea
  obtain ⟨od, J, _⟩ := J0.look
  obtain ⟨m, hF⟩ := I.fr
  exact PySem.W.sub_K hF I.ok.mod.kin J M.at_ hfi M.fn (run_in1T (vs := [.ref a, .int i]) F hr hb hx I (.cons rfl (.cons ⟨t, rfl⟩ .nil)) h fun v H' s' I' u ru q => ⟨v, H', I', ru, q⟩) hsl
def xIxOT (T : Nat → List Str) (c : Nat) (f : Fx) (a b : Ex) : Ex := fun sg h => (a sg h).bind fun v h1 => (b sg h1).bind fun u h2 => match v, u with
  | .obj c' fs, .int i => if c' = c then callP T f [.obj c' fs, .int i] h2 else .bad
  | _, _ => .bad
theorem je_ixOT {c k : Nat} {f : Addr} {ps : List Str} {fx : Fx} {a b : Expr} {fa fb : Ex} (C : CalleeX T X k f ps fx []) (M : Meth X.K (He.ga X.K (T.cn c)) "__getitem__" f) (hfi : PySem.W.fnIn X.K f = true) (hr : RoomG (k + 1) X.A) (tk : Takes X W) (ha : JE T X W a fa) (hb : JE T X W b fb)
    (hsl : ∀ (p : Addr) (i : Int) (t : Tok), subscripted b true (.ref p) (.int i t) = runValue (.builtin "lifetime.subscript" ⟨[.ref p, .int i t], []⟩) := by intro _ _ _; with_unfolding_all rfl) : JE T X W (.Subscript a b pos) (xIxOT T.fn c fx fa fb) := by
  obtain ⟨fd, ds, G, kp, hv, hbd⟩ := C
  cases hv
  have P : PE X (.Subscript a b pos) (fun σ H Q => tOp (fun x y H Q => ∃ p dx fs i, x = .ref p ∧ y = .int i ∧ H p = some (.ins (He.ga X.K (T.cn c)) dx fs) ∧ spF T X.K fx [.ref p, .int i] H Q (fun c d H' => W c d σ H')) (tE T X.K W fa) (tE T X.K W fb) σ H Q) :=
    ⟨fun pins s σ H Q I h => Subscript_ (binT ha hb I h fun v u s2 x y H2 I2 rx ry ⟨p, dx, fs, i, ex, ey, ep, q⟩ => by
      subst ex ey
      cases (show v = Value.ref p from rx)
      obtain ⟨t, rfl⟩ := ry
      exact ix_ownT G M hfi hbd hr a b (passAt tk σ) I2 ep q (hsl p i t))⟩
  refine pe_imp P fun σ H Q ⟨io, h, F, sg, sr, rs, w⟩ => ⟨io, h, F, sg, sr, rs, Wants.bind w fun v h1 io1 F1 H1 x st sr1 vr w1 => ⟨io1, h1, F1, sg, sr1, rs.step st, Wants.bind w1 fun u h2 io2 F2 H2 y st2 sr2 ur w2 => ?_⟩⟩
  have here := vr.step st2
  have keep := here
  have key := ur
  cases here with
  | @obj c' us p dx ys q1 qd r2 hl =>
    cases ur with
    | int i =>
      dsimp only at w2
      by_cases hc : c' = c
      · subst hc
        rw [if_pos rfl] at w2
        exact ⟨p, dx, _, i, rfl, rfl, sr2.sub _ _ q1, callP_ok sr2 (.cons keep (.cons key .nil)) w2⟩
      · rw [if_neg hc] at w2; exact w2.elim
    | _ => exact w2.elim
  | _ => exact w2.elim
end
end Py
namespace Law
open PySem PySem.Spec PyProof.Rows L2 Py
def f_is_integer : Fx := fnOf 1 1
 (xRet (xAnd (xUn (gIsi .int) (xVar 0)) (xNot (xUn (gIsi .bool) (xVar 0)))))
def f_is_number : Fx := fnOf 1 1
 (xRet (xAnd (xCallP TBf f_is_integer [] (xCons (xVar 0) xNil)) (xOp gGe (xVar 0) (xC (.int 0)))))
def f_is_bool : Fx := fnOf 1 1
 (xRet (xUn (gIsi .bool) (xVar 0)))
def f_is_sequence : Fx := fnOf 1 1
 (xRet (xUn (gIsi2 .list .tuple) (xVar 0)))
def f_number_in : Fx := fnOf 2 3
 (xSeq (xIfS (xOr (xNot (xChain gLt gLe (xC (.int 0)) (xCB gLenX (xCons (xVar 0) xNil)) (xVar 1))) (xNot (xCB gAll (xCons (xCompF [2] (xISX (xVar 0)) (gN 2) (xC (.bl true)) (xOp gInN (xVar 2) (xC (.str [48, 49, 50, 51, 52, 53, 54, 55, 56, 57])))) xNil))))
 (xRet (xC .non))
 xSkip)
 (xSeq (xIfS (xAnd (xOp gEq (xOp gIxX (xVar 0) (xC (.int 0))) (xC (.str [48]))) (xOp gNe (xVar 0) (xC (.str [48]))))
 (xRet (xC .non))
 xSkip)
 (xRet (xCB gIntX (xCons (xVar 0) xNil)))))
def f_is_meeting : Fx := fnOf 1 4
 (xSeq (xIfS (xOr (xNot (xUn (gIsi .tuple) (xVar 0))) (xOp gNe (xCB gLenX (xCons (xVar 0) xNil)) (xC (.int 3))))
 (xRet (xC (.bl false)))
 xSkip)
 (xSeq (xAsg (xVar 0) (gTu 3 (gsCons (gN 1) (gsCons (gN 2) (gsCons (gN 3) gsNil)))))
 (xRet (xAnd (xCallP TBf f_is_number [] (xCons (xVar 1) xNil)) (xAnd (xCallP TBf f_is_number [] (xCons (xVar 2) xNil)) (xAnd (xCallP TBf f_is_bool [] (xCons (xVar 3) xNil)) (xOp gLt (xVar 1) (xVar 2))))))))
def f_are_meetings : Fx := fnOf 2 7
 (xSeq (xIfS (xOr (xNot (xCallP TBf f_is_sequence [] (xCons (xVar 1) xNil))) (xNot (xCB gAll (xCons (xCompF [6] (xISX (xVar 1)) (gN 6) (xC (.bl true)) (xCallP TBf f_is_meeting [] (xCons (xVar 6) xNil))) xNil))))
 (xRet (xC (.bl false)))
 xSkip)
 (xSeq (xSet 2 (xC (.int 0)))
 (xSeq (xFor (xISX (xVar 1)) (gTu 3 (gsCons (gN 3) (gsCons (gN 4) (gsCons (gN 5) gsNil))))
 (xSeq (xIfS (xOr (xOp gLt (xVar 3) (xVar 2)) (xOp gGt (xVar 4) (xVar 0)))
 (xRet (xC (.bl false)))
 xSkip)
 (xSet 2 (xVar 4))))
 (xRet (xC (.bl true))))))
def f_Day_init : Fx := fnOf 3 3
 (xSeq (xIfS (xOr (xNot (xCallP TBf f_is_integer [] (xCons (xVar 1) xNil))) (xOp gLt (xVar 1) (xC (.int 1))))
 (xRaise 1 (xC (.str [108, 101, 110, 103, 116, 104])))
 xSkip)
 (xSeq (xIfS (xNot (xCallP TBf f_are_meetings [] (xCons (xVar 1) (xCons (xVar 2) xNil))))
 (xRaise 1 (xC (.str [109, 101, 101, 116, 105, 110, 103, 115])))
 xSkip)
 (xSeq (xSetAttr [(10, 0)] (xVar 1) (xVar 0))
 (xSetAttr [(10, 1)] (xCB gTuple (xCons (xVar 2) xNil)) (xVar 0)))))
def f_Dayw_strw : Fx := fnOf 1 5
 (xSeq (xSet 1 (xCompF [2, 3, 4] (xISX (xUn (gAttr [(10, 1)]) (xVar 0))) (gTu 3 (gsCons (gN 2) (gsCons (gN 3) (gsCons (gN 4) gsNil)))) (xC (.bl true)) (xJ [(xUn fmtV (xVar 2)), (xC (.str [45])), (xUn fmtV (xVar 3)), (xUn fmtV (xIf (xVar 4) (xC (.str [32, 112, 114, 105, 118, 97, 116, 101])) (xC (.str []))))] [])))
 (xRet (xJ [(xUn fmtV (xUn (gAttr [(10, 0)]) (xVar 0))), (xC (.str [58, 32])), (xUn fmtV (xIf (xOp gGt (xCB gLenX (xCons (xVar 1) xNil)) (xC (.int 0))) (xBM "str" gJoin (xC (.str [44, 32])) (xCons (xVar 1) xNil)) (xC (.str [45]))))] [])))
def f_Dayw_eqw : Fx := fnOf 2 2
 (xRet (xAnd (xUn (gIsO [(10, true)]) (xVar 1)) (xOp gEq (xCB (gStrT TBf [(10, f_Dayw_strw)]) (xCons (xVar 0) xNil)) (xCB (gStrT TBf [(10, f_Dayw_strw)]) (xCons (xVar 1) xNil)))))
def f_Day_having : Fx := fnOf 2 4
 (xSeq (xIfS (xNot (xCallP TBf f_is_meeting [] (xCons (xVar 1) xNil)))
 (xRaise 1 (xC (.str [109, 101, 101, 116, 105, 110, 103, 115])))
 xSkip)
 (xSeq (xSet 2 (xCompF [3] (xISX (xUn (gAttr [(10, 1)]) (xVar 0))) (gN 3) (xOp gLt (xOp gIxX (xVar 3) (xC (.int 0))) (xOp gIxX (xVar 1) (xC (.int 0)))) (xVar 3)))
 (xRet (xMakeP TBf 10 f_Day_init [] (xCons (xUn (gAttr [(10, 0)]) (xVar 0)) (xCons (xTup (xStar (xVar 2) (xCons (xVar 1) (xStar (xSlice (xUn (gAttr [(10, 1)]) (xVar 0)) (oSome (xCB gLenX (xCons (xVar 2) xNil))) oNone) xNil)))) xNil))))))
end Law
namespace Py
open PySem
theorem callP_any {T : Nat → List Str} {f : Fx} {as : List Val} {v : Val} (hp : pureVs as = true) (e : callP T f as [] = .ok v []) (h : Hh) : callP T f as h = .ok v h := by
  unfold callP at e ⊢
  rw [hp, Bool.or_true, if_pos rfl] at e ⊢
  cases q : f [] as with
  | bad => rw [q] at e; cases e
  | exc c fs h1 =>
    rw [q] at e
    dsimp only at e
    split at e <;> cases e
  | ok u h1 =>
    rw [q] at e
    dsimp only at e ⊢
    cases qq : frzTop T h1 u with
    | none => rw [qq] at e; cases e
    | some w => rw [qq] at e; cases e; rfl
theorem pureVs_all : ∀ {vs : List Val}, pureVs vs = true → ∀ v ∈ vs, pureV v = true
  | [], _, v, hv => by cases hv
  | u :: vs, h, v, hv => by
    simp [pureVs] at h
    rcases List.mem_cons.mp hv with rfl | hv
    · exact h.1
    · exact pureVs_all h.2 v hv
def okv (r : Res) : Option Val := match r with
  | .ok v [] => if pureV v = true then some v else none
  | _ => none
end Py
namespace Law
open PySem PySem.Spec PyProof.Rows L2 Py
abbrev c_ENDING : Val := .str [32, 112, 114, 105, 118, 97, 116, 101]
theorem sc_Lseed : FnScope ["_law_script", "_law_k", "_law_cell"] ["_law_script", "_law_k"] (defScope s_Lseed) := ⟨rfl, rfl, rfl, by decide +kernel, rfl, by decide +kernel, by decide +kernel⟩
theorem sc_Lchoose : FnScope ["_law_box", "_law_many", "_law_digit", "_law_raw"] ["_law_box", "_law_many"] (defScope s_Lchoose) := ⟨rfl, rfl, rfl, by decide +kernel, rfl, by decide +kernel, by decide +kernel⟩
theorem sc_Lone_of : FnScope ["_law_box", "_law_some"] ["_law_box", "_law_some"] (defScope s_Lone_of) := ⟨rfl, rfl, rfl, by decide +kernel, rfl, by decide +kernel, by decide +kernel⟩
theorem sc_Lday : FnScope ["_law_box", "_law_top", "_law_is_secret", "_law_size", "_law_found", "_law_last", "_law_turn", "_law_begin", "_law_end"] ["_law_box", "_law_top", "_law_is_secret"] (defScope s_Lday) := ⟨rfl, rfl, rfl, by decide +kernel, rfl, by decide +kernel, by decide +kernel⟩
theorem sc_is_integer : FnScope ["value"] ["value"] (defScope s_is_integer) := ⟨rfl, rfl, rfl, by decide +kernel, rfl, by decide +kernel, by decide +kernel⟩
theorem sc_is_bool : FnScope ["value"] ["value"] (defScope s_is_bool) := ⟨rfl, rfl, rfl, by decide +kernel, rfl, by decide +kernel, by decide +kernel⟩
theorem sc_is_number : FnScope ["value"] ["value"] (defScope s_is_number) := ⟨rfl, rfl, rfl, by decide +kernel, rfl, by decide +kernel, by decide +kernel⟩
theorem sc_is_meeting : FnScope ["value", "begin", "end", "is_private"] ["value"] (defScope s_is_meeting) := ⟨rfl, rfl, rfl, by decide +kernel, rfl, by decide +kernel, by decide +kernel⟩
theorem sc_is_sequence : FnScope ["value"] ["value"] (defScope s_is_sequence) := ⟨rfl, rfl, rfl, by decide +kernel, rfl, by decide +kernel, by decide +kernel⟩
theorem sc_are_meetings : FnScope ["length", "value", "last", "begin", "end", "is_private", "meeting"] ["length", "value"] (defScope s_are_meetings) := ⟨rfl, rfl, rfl, by decide +kernel, rfl, by decide +kernel, by decide +kernel⟩
theorem sc_Day_init : FnScope ["self", "length", "meetings"] ["self", "length", "meetings"] (defScope s_Day_init) := ⟨rfl, rfl, rfl, by decide +kernel, rfl, by decide +kernel, by decide +kernel⟩
theorem sc_Day_need_indexX : FnScope ["self", "at"] ["self", "at"] (defScope s_Day_need_indexX) := ⟨rfl, rfl, rfl, by decide +kernel, rfl, by decide +kernel, by decide +kernel⟩
theorem sc_Day_withoutX : FnScope ["self", "at"] ["self", "at"] (defScope s_Day_withoutX) := ⟨rfl, rfl, rfl, by decide +kernel, rfl, by decide +kernel, by decide +kernel⟩
theorem sc_Dayw_getitemwX : FnScope ["self", "at"] ["self", "at"] (defScope s_Dayw_getitemwX) := ⟨rfl, rfl, rfl, by decide +kernel, rfl, by decide +kernel, by decide +kernel⟩
theorem sc_Dayw_strw : FnScope ["self", "texts", "begin", "end", "is_private"] ["self"] (defScope s_Dayw_strw) := ⟨rfl, rfl, rfl, by decide +kernel, rfl, by decide +kernel, by decide +kernel⟩
theorem sc_Dayw_eqw : FnScope ["self", "other"] ["self", "other"] (defScope s_Dayw_eqw) := ⟨rfl, rfl, rfl, by decide +kernel, rfl, by decide +kernel, by decide +kernel⟩
theorem sc_Day_having : FnScope ["self", "meeting", "ahead", "one"] ["self", "meeting"] (defScope s_Day_having) := ⟨rfl, rfl, rfl, by decide +kernel, rfl, by decide +kernel, by decide +kernel⟩
theorem sc_Lheard : FnScope ["_law_look", "_law_heard_here", "e"] ["_law_look"] (defScope s_Lheard) := ⟨rfl, rfl, rfl, by decide +kernel, rfl, by decide +kernel, by decide +kernel⟩
theorem sc_Lday_text : FnScope ["_law_day_here", "_law_texts", "_law_begin", "_law_end", "_law_secret"] ["_law_day_here"] (defScope s_Lday_text) := ⟨rfl, rfl, rfl, by decide +kernel, rfl, by decide +kernel, by decide +kernel⟩
theorem sc_law : FnScope ["_law_script", "_law_k", "_law_box", "_law_turn", "_law_size", "_law_meetings", "_law_day_here", "_law_at", "_law_less", "_law_begin", "_law_fresh", "_law_over", "_law_due", "_law_ahead", "_law_value", "_law_one"] ["_law_script"] (defScope s_law) := ⟨rfl, rfl, rfl, by decide +kernel, rfl, by decide +kernel, by decide +kernel⟩
def f_Lseed : Fx := fnOf 2 3
 (xSeq (xSet 2 (xOp gAdd (xOp gMul (xC (.int 8831)) (xVar 1)) (xC (.int 101))))
 (xSeq (xIfS (xOp gLt (xVar 1) (xCB gLen (xCons (xVar 0) xNil)))
 (xSet 2 (xCB gAbs (xCons (xOp gIx (xVar 0) (xVar 1)) xNil)))
 (xIfS (xOp gGt (xCB gLen (xCons (xVar 0) xNil)) (xC (.int 0)))
 (xSet 2 (xOp gAdd (xVar 2) (xOp gMul (xOp gMod (xCB gInt1 (xCons (xCB gAbs (xCons (xOp gIx (xVar 0) (xOp gMod (xCB gInt1 (xCons (xVar 1) xNil)) (xCB gLen (xCons (xVar 0) xNil)))) xNil)) xNil)) (xC (.int 2147483629))) (xC (.int 40093)))))
 xSkip))
 (xRet (xLst (xCons (xIf (xOp gGe (xVar 2) (xOp gPow (xC (.int 10)) (xC (.int 18)))) (xVar 2) (xC (.int 0))) (xCons (xOp gAdd (xOp gMod (xCB gInt1 (xCons (xOp gAdd (xOp gMul (xOp gMod (xCB gInt1 (xCons (xVar 2) xNil)) (xC (.int 2147483629))) (xC (.int 48271))) (xOp gMul (xC (.int 37021)) (xVar 1))) xNil)) (xC (.int 2147483629))) (xC (.int 1))) xNil))))))
def f_Lchoose : Fx := fnOf 2 4
 (xSeq (xIfS (xOp gGt (xOp gIx (xVar 0) (xC (.int 0))) (xC (.int 0)))
 (xSeq (xSet 2 (xOp gMod (xCB gInt1 (xCons (xOp gIx (xVar 0) (xC (.int 0))) xNil)) (xVar 1)))
 (xSeq (xAsg (xOp gFdiv (xOp gIx (xVar 0) (xC (.int 0))) (xVar 1)) (gSetIx (xVar 0) (xC (.int 0))))
 (xRet (xVar 2))))
 xSkip)
 (xSeq (xSet 3 (xOp gMod (xCB gInt1 (xCons (xOp gAdd (xOp gMul (xOp gIx (xVar 0) (xC (.int 1))) (xC (.int 40014))) (xC (.int 71))) xNil)) (xC (.int 2147483563))))
 (xSeq (xAsg (xOp gAdd (xOp gMod (xCB gInt1 (xCons (xOp gAdd (xOp gMul (xVar 3) (xC (.int 40692))) (xC (.int 4603))) xNil)) (xC (.int 2147483629))) (xC (.int 1))) (gSetIx (xVar 0) (xC (.int 1))))
 (xRet (xOp gMod (xCB gInt1 (xCons (xOp gFdiv (xOp gAdd (xOp gMul (xVar 3) (xC (.int 2147483647))) (xOp gIx (xVar 0) (xC (.int 1)))) (xC (.int 8191))) xNil)) (xVar 1))))))
def f_Lone_of : Fx := fnOf 2 2
 (xRet (xOp gIxX (xVar 1) (xCallB TBf f_Lchoose [] (xCons (xVar 0) (xCons (xCB gLenX (xCons (xVar 1) xNil)) xNil)))))
def f_Lday : Fx := fnOf 3 9
 (xSeq (xPar3 3 4 5 (xCons (xOp gPlus (xC (.int 1)) (xCallB TBf f_Lchoose [] (xCons (xVar 0) (xCons (xVar 1) xNil)))) (xCons (xLst xNil) (xCons (xC (.int 0)) xNil))))
 (xSeq (xFor (xIRng1 (xCons (xC (.int 8)) xNil)) (gN 6)
 (xSeq (xSet 7 (xOp gPlus (xVar 5) (xCallB TBf f_Lone_of [] (xCons (xVar 0) (xCons (xLstF (xCons (xC (.int 0)) (xCons (xC (.int 0)) (xCons (xC (.int 1)) (xCons (xC (.int 1)) (xCons (xC (.int 2)) (xCons (xC (.int 3)) (xCons (xC (.int 5)) xNil)))))))) xNil)))))
 (xSeq (xSet 8 (xOp gPlus (xVar 7) (xCallB TBf f_Lone_of [] (xCons (xVar 0) (xCons (xLstF (xCons (xC (.int 1)) (xCons (xC (.int 1)) (xCons (xC (.int 2)) (xCons (xC (.int 3)) (xCons (xC (.int 4)) (xCons (xC (.int 9)) xNil))))))) xNil)))))
 (xIfS (xOp gLe (xVar 8) (xVar 3))
 (xSeq (xDrop (xBM "list" gAppend (xVar 4) (xCons (xTup (xCons (xVar 7) (xCons (xVar 8) (xCons (xAnd (xVar 2) (xOp gEq (xCallB TBf f_Lchoose [] (xCons (xVar 0) (xCons (xC (.int 3)) xNil))) (xC (.int 0)))) xNil)))) xNil)))
 (xSet 5 (xVar 8)))
 xSkip))))
 (xRet (xTup (xCons (xVar 3) (xCons (xVar 4) xNil))))))
def f_Day_need_indexX : Fx := fnOf 2 2
 (xIfS (xNot (xChain gLe gLt (xC (.int 0)) (xVar 1) (xCB gLenX (xCons (xUn (gAttr [(10, 1)]) (xVar 0)) xNil))))
 (xRaise 9 (xVar 1))
 xSkip)
def f_Day_withoutX : Fx := fnOf 2 2
 (xSeq (xDrop (xMethP TBf 10 f_Day_need_indexX [] (xVar 0) (xCons (xVar 1) xNil)))
 (xRet (xMakeP TBf 10 f_Day_init [] (xCons (xUn (gAttr [(10, 0)]) (xVar 0)) (xCons (xTup (xStar (xSlice (xUn (gAttr [(10, 1)]) (xVar 0)) oNone (oSome (xVar 1))) (xStar (xSlice (xUn (gAttr [(10, 1)]) (xVar 0)) (oSome (xOp gPlus (xVar 1) (xC (.int 1)))) oNone) xNil))) xNil)))))
def f_Dayw_getitemwX : Fx := fnOf 2 2
 (xSeq (xDrop (xMethP TBf 10 f_Day_need_indexX [] (xVar 0) (xCons (xVar 1) xNil)))
 (xRet (xOp gIxX (xUn (gAttr [(10, 1)]) (xVar 0)) (xVar 1))))
def h_Lheard : List HEnt := [.nm 9 (fun fs => xSet 1 ((fun fs => xIf ((fun fs => xAnd ((fun _ _ h => .ok (.bl true) h) fs) ((fun fs => xNot ((fun _ _ h => .ok (.bl false) h) fs)) fs)) fs) ((fun fs => xTup (xCons ((fun _ => (xC (.str [110, 111, 110, 101]))) fs) (xCons (xXfld fs) xNil))) fs) ((fun _ => (xC .non)) fs)) fs)), .nm 1 (fun fs => xSet 1 ((fun fs => xOp gPlus ((fun _ => (xC (.str [33]))) fs) (xXfld fs)) fs))]
def f_Lday_text : Fx := fnOf 1 5
 (xSeq (xSet 1 (xCompF [2, 3, 4] (xISX (xOp gIxX (xVar 0) (xC (.int 1)))) (gTu 3 (gsCons (gN 2) (gsCons (gN 3) (gsCons (gN 4) gsNil)))) (xC (.bl true)) (xOp gPlus (xOp gPlus (xOp gPlus (xCB (gStrT TBf []) (xCons (xVar 2) xNil)) (xC (.str [45]))) (xCB (gStrT TBf []) (xCons (xVar 3) xNil))) (xIf (xVar 4) (xC (.str [32, 112, 114, 105, 118, 97, 116, 101])) (xC (.str []))))))
 (xRet (xOp gPlus (xOp gPlus (xCB (gStrT TBf []) (xCons (xOp gIxX (xVar 0) (xC (.int 0))) xNil)) (xC (.str [58, 32]))) (xIf (xOp gNeE (xVar 1) (xLstF xNil)) (xBM "str" gJoin (xC (.str [44, 32])) (xCons (xVar 1) xNil)) (xC (.str [45]))))))
def f_law : Fx := fnOf 1 16
 (xSeq (xFor (xIRng1 (xCons (xCB gMax2 (xCons (xC (.int 2)) (xCons (xCB gMin2 (xCons (xC (.int 5)) (xCons (xCB gLenX (xCons (xVar 0) xNil)) xNil))) xNil))) xNil)) (gN 1)
 (xSeq (xSet 2 (xCallO TBf f_Lseed [] (xCons (xVar 0) (xCons (xVar 1) xNil))))
 (xFor (xIRng1 (xCons (xC (.int 4)) xNil)) (gN 3)
 (xSeq (xAsg (xCallB TBf f_Lday [] (xCons (xVar 2) (xCons (xC (.int 30)) (xCons (xC (.bl true)) xNil)))) (gTu 2 (gsCons (gN 4) (gsCons (gN 5) gsNil))))
 (xSeq (xSet 6 (xMakeP TBf 10 f_Day_init [] (xCons (xVar 4) (xCons (xVar 5) xNil))))
 (xSeq (xFor (xIRng1 (xCons (xCB gLenX (xCons (xVar 5) xNil)) xNil)) (gN 7)
 (xSeq (xSet 8 (xMethP TBf 10 f_Day_withoutX [] (xVar 6) (xCons (xVar 7) xNil)))
 (xSeq (xIfS (xOr (xOp (gNeT TBf [(10, f_Dayw_eqw)]) (xVar 8) (xMakeP TBf 10 f_Day_init [] (xCons (xVar 4) (xCons (xOp gPlusA (xSlice (xVar 5) oNone (oSome (xVar 7))) (xSlice (xVar 5) (oSome (xOp gPlus (xVar 7) (xC (.int 1)))) oNone)) xNil)))) (xOp gNe (xIxO TBf 10 f_Dayw_getitemwX (xVar 6) (xVar 7)) (xOp gIxX (xVar 5) (xVar 7))))
 (xRet (xC (.bl false)))
 xSkip)
 (xIfS (xOp (gNeT TBf [(10, f_Dayw_eqw)]) (xMethP TBf 10 f_Day_having [] (xVar 8) (xCons (xOp gIxX (xVar 5) (xVar 7)) xNil)) (xVar 6))
 (xRet (xC (.bl false)))
 xSkip))))
 (xSeq (xFor (xISX (xTup (xCons (xOp gSub (xC (.int 0)) (xC (.int 1))) (xCons (xCB gLenX (xCons (xVar 5) xNil)) (xCons (xOp gPlus (xCB gLenX (xCons (xVar 5) xNil)) (xC (.int 9))) (xCons (xOp gPow (xC (.int 10)) (xC (.int 9))) xNil)))))) (gN 7)
 (xSeq (xIfS (xOp gNe (xLamH [1, 4, 9] h_Lheard (gStrT TBf [(10, f_Dayw_strw)]) (xMethP TBf 10 f_Day_withoutX [] (xVar 6) (xCons (xVar 7) xNil))) (xTup (xCons (xC (.str [110, 111, 110, 101])) (xCons (xVar 7) xNil))))
 (xRet (xC (.bl false)))
 xSkip)
 (xIfS (xOp gNe (xLamH [1, 4, 9] h_Lheard (gStrT TBf [(10, f_Dayw_strw)]) (xIxOT TBf 10 f_Dayw_getitemwX (xVar 6) (xVar 7))) (xTup (xCons (xC (.str [110, 111, 110, 101])) (xCons (xVar 7) xNil))))
 (xRet (xC (.bl false)))
 xSkip)))
 (xSeq (xSet 9 (xCallB TBf f_Lchoose [] (xCons (xVar 2) (xCons (xOp gPlus (xVar 4) (xC (.int 2))) xNil))))
 (xSeq (xSet 10 (xTup (xCons (xVar 9) (xCons (xOp gPlus (xOp gPlus (xVar 9) (xC (.int 1))) (xCallB TBf f_Lchoose [] (xCons (xVar 2) (xCons (xC (.int 4)) xNil)))) (xCons (xOp gEq (xCallB TBf f_Lchoose [] (xCons (xVar 2) (xCons (xC (.int 2)) xNil))) (xC (.int 0))) xNil)))))
 (xSeq (xSet 11 (xCompF [15] (xISX (xVar 5)) (gN 15) (xAnd (xOp gLt (xOp gIxX (xVar 15) (xC (.int 0))) (xOp gIxX (xVar 10) (xC (.int 1)))) (xOp gLt (xOp gIxX (xVar 10) (xC (.int 0))) (xOp gIxX (xVar 15) (xC (.int 1))))) (xVar 15)))
 (xSeq (xSet 12 (xC (.str [33, 109, 101, 101, 116, 105, 110, 103, 115])))
 (xSeq (xIfS (xAnd (xOp gEqE (xVar 11) (xLstF xNil)) (xOp gLe (xOp gIxX (xVar 10) (xC (.int 1))) (xVar 4)))
 (xSeq (xSet 13 (xCompF [15] (xISX (xVar 5)) (gN 15) (xOp gLt (xOp gIxX (xVar 15) (xC (.int 0))) (xVar 9)) (xVar 15)))
 (xSet 12 (xCallP TBf f_Lday_text [] (xCons (xTup (xCons (xVar 4) (xCons (xOp gPlusA (xOp gPlusA (xVar 13) (xLstF (xCons (xVar 10) xNil))) (xSlice (xVar 5) (oSome (xCB gLenX (xCons (xVar 13) xNil))) oNone)) xNil))) xNil))))
 xSkip)
 (xSeq (xIfS (xOp gNe (xLamH [1, 4, 9] h_Lheard (gStrT TBf [(10, f_Dayw_strw)]) (xMethP TBf 10 f_Day_having [] (xVar 6) (xCons (xVar 10) xNil))) (xVar 12))
 (xRet (xC (.bl false)))
 xSkip)
 (xSeq (xSet 14 (xCallB TBf f_Lone_of [] (xCons (xVar 2) (xCons (xLstF (xCons (xC .non) (xCons (xC (.str [50, 45, 53])) (xCons (xTup (xCons (xC (.int 1)) (xCons (xC (.int 2)) xNil))) (xCons (xLstF (xCons (xC (.int 0)) (xCons (xC (.int 1)) (xCons (xC (.bl false)) xNil)))) (xCons (xTup (xCons (xC (.int 2)) (xCons (xC (.int 1)) (xCons (xC (.bl true)) xNil)))) (xCons (xTup (xCons (xC (.int 0)) (xCons (xC (.int 1)) (xCons (xC (.int 1)) xNil)))) (xCons (xC (.int 3)) (xCons (xTup xNil) (xCons (xVar 6) xNil)))))))))) xNil))))
 (xIfS (xOr (xOp gNe (xLamH [1, 4, 9] h_Lheard (gStrT TBf [(10, f_Dayw_strw)]) (xMethP TBf 10 f_Day_having [] (xVar 6) (xCons (xVar 14) xNil))) (xC (.str [33, 109, 101, 101, 116, 105, 110, 103, 115]))) (xOp gNe (xCB (gStrT TBf [(10, f_Dayw_strw)]) (xCons (xVar 6) xNil)) (xCallP TBf f_Lday_text [] (xCons (xTup (xCons (xVar 4) (xCons (xVar 5) xNil))) xNil))))
 (xRet (xC (.bl false)))
 xSkip)))))))))))))))
 (xRet (xC (.bl true))))
structure Tx (P : Program) (w : World) (tb : Addr) (K : PySem.W.Frag) (mg : Str → Option Value) : Prop where
  ko : KdO (TB P w tb) K
  xc_InvalidDay : XcOk (TB P w tb) P K 1 "word"
  xc_NoMeeting : XcOk (TB P w tb) P K 9 "at"
  em : ExmOk (TB P w tb) K [1, 4, 9]
  kt_NoMeeting_DimError : PySem.W.kitOne K (.ref (He.ga K "NoMeeting")) (.ref (He.ga K "DimError")) = some false
  kt_NoMeeting_IndexError : PySem.W.kitOne K (.ref (He.ga K "NoMeeting")) (.type "IndexError") = some true
  n_IndexError : mg "IndexError" = none
  n_abs : mg "abs" = none
  n_all : mg "all" = none
  n_bool : mg "bool" = none
  n_int : mg "int" = none
  n_isinstance : mg "isinstance" = none
  n_len : mg "len" = none
  n_list : mg "list" = none
  n_max : mg "max" = none
  n_min : mg "min" = none
  n_range : mg "range" = none
  n_str : mg "str" = none
  n_tuple : mg "tuple" = none
  g_Lseed : mg "_law_seed" = some (.ref (He.ga K "_law_seed"))
  g_Lchoose : mg "_law_choose" = some (.ref (He.ga K "_law_choose"))
  g_Lone_of : mg "_law_one_of" = some (.ref (He.ga K "_law_one_of"))
  g_Lday : mg "_law_day" = some (.ref (He.ga K "_law_day"))
  g_is_integer : mg "is_integer" = some (.ref (He.ga K "is_integer"))
  g_InvalidDay : mg "InvalidDay" = some (.ref (He.ga K "InvalidDay"))
  g_is_bool : mg "is_bool" = some (.ref (He.ga K "is_bool"))
  g_is_number : mg "is_number" = some (.ref (He.ga K "is_number"))
  g_is_meeting : mg "is_meeting" = some (.ref (He.ga K "is_meeting"))
  g_is_sequence : mg "is_sequence" = some (.ref (He.ga K "is_sequence"))
  g_are_meetings : mg "are_meetings" = some (.ref (He.ga K "are_meetings"))
  g_Day : mg "Day" = some (.ref (He.ga K "Day"))
  g_NoMeeting : mg "NoMeeting" = some (.ref (He.ga K "NoMeeting"))
  g_InvalidText : mg "InvalidText" = some (.ref (He.ga K "InvalidText"))
  g_DimError : mg "DimError" = some (.ref (He.ga K "DimError"))
  g_Lheard : mg "_law_heard" = some (.ref (He.ga K "_law_heard"))
  g_Lday_text : mg "_law_day_text" = some (.ref (He.ga K "_law_day_text"))
  c_ENDING : GK (TB P w tb) K mg "ENDING" c_ENDING
  k_Day : Cf (TB P w tb) K 10
  m_Day_need_indexX : Meth K (He.ga K "Day") "need_index" (He.ma K (He.ga K "Day") "need_index")
  m_Day_withoutX : Meth K (He.ga K "Day") "without" (He.ma K (He.ga K "Day") "without")
  m_Dayw_getitemwX : Meth K (He.ga K "Day") "__getitem__" (He.ma K (He.ga K "Day") "__getitem__")
  m_Dayw_strw : Meth K (He.ga K "Day") "__str__" (He.ma K (He.ga K "Day") "__str__")
  m_Dayw_eqw : Meth K (He.ga K "Day") "__eq__" (He.ma K (He.ga K "Day") "__eq__")
  m_Day_having : Meth K (He.ga K "Day") "having" (He.ma K (He.ga K "Day") "having")
  f_Dayw_getitemwX : PySem.W.fnIn K (He.ma K (He.ga K "Day") "__getitem__") = true
  t_Day : CTy K (He.ga K "Day")
  i_Day : IsOk (TB P w tb) K "Day" is_Day
  mk_Day : Mk K (He.ga K "Day") (He.ma K (He.ga K "Day") "__init__")
  d_Lseed : ∃ fd, FunD K "_law_seed" "_law_seed" (defArgs s_Lseed) (defBody s_Lseed) (defScope s_Lseed) [] [] (He.ga K "_law_seed") fd
  d_Lchoose : ∃ fd, FunD K "_law_choose" "_law_choose" (defArgs s_Lchoose) (defBody s_Lchoose) (defScope s_Lchoose) [] [] (He.ga K "_law_choose") fd
  d_Lone_of : ∃ fd, FunD K "_law_one_of" "_law_one_of" (defArgs s_Lone_of) (defBody s_Lone_of) (defScope s_Lone_of) [] [] (He.ga K "_law_one_of") fd
  d_Lday : ∃ fd, FunD K "_law_day" "_law_day" (defArgs s_Lday) (defBody s_Lday) (defScope s_Lday) [] [] (He.ga K "_law_day") fd
  d_is_integer : ∃ fd, FunD K "is_integer" "is_integer" (defArgs s_is_integer) (defBody s_is_integer) (defScope s_is_integer) [] [] (He.ga K "is_integer") fd
  d_is_bool : ∃ fd, FunD K "is_bool" "is_bool" (defArgs s_is_bool) (defBody s_is_bool) (defScope s_is_bool) [] [] (He.ga K "is_bool") fd
  d_is_number : ∃ fd, FunD K "is_number" "is_number" (defArgs s_is_number) (defBody s_is_number) (defScope s_is_number) [] [] (He.ga K "is_number") fd
  d_is_meeting : ∃ fd, FunD K "is_meeting" "is_meeting" (defArgs s_is_meeting) (defBody s_is_meeting) (defScope s_is_meeting) [] [] (He.ga K "is_meeting") fd
  d_is_sequence : ∃ fd, FunD K "is_sequence" "is_sequence" (defArgs s_is_sequence) (defBody s_is_sequence) (defScope s_is_sequence) [] [] (He.ga K "is_sequence") fd
  d_are_meetings : ∃ fd, FunD K "are_meetings" "are_meetings" (defArgs s_are_meetings) (defBody s_are_meetings) (defScope s_are_meetings) [] [] (He.ga K "are_meetings") fd
  d_Day_init : ∃ fd, FunD K "__init__" "Day.__init__" (defArgs s_Day_init) (defBody s_Day_init) (defScope s_Day_init) [He.Dv.v K (.adr (He.dflAt ("Day", some "__init__") 0))] [] (He.ma K (He.ga K "Day") "__init__") fd
  d_Day_need_indexX : ∃ fd, FunD K "need_index" "Day.need_index" (defArgs s_Day_need_indexX) (defBody s_Day_need_indexX) (defScope s_Day_need_indexX) [] [] (He.ma K (He.ga K "Day") "need_index") fd
  d_Day_withoutX : ∃ fd, FunD K "without" "Day.without" (defArgs s_Day_withoutX) (defBody s_Day_withoutX) (defScope s_Day_withoutX) [] [] (He.ma K (He.ga K "Day") "without") fd
  d_Dayw_getitemwX : ∃ fd, FunD K "__getitem__" "Day.__getitem__" (defArgs s_Dayw_getitemwX) (defBody s_Dayw_getitemwX) (defScope s_Dayw_getitemwX) [] [] (He.ma K (He.ga K "Day") "__getitem__") fd
  d_Dayw_strw : ∃ fd, FunD K "__str__" "Day.__str__" (defArgs s_Dayw_strw) (defBody s_Dayw_strw) (defScope s_Dayw_strw) [] [] (He.ma K (He.ga K "Day") "__str__") fd
  d_Dayw_eqw : ∃ fd, FunD K "__eq__" "Day.__eq__" (defArgs s_Dayw_eqw) (defBody s_Dayw_eqw) (defScope s_Dayw_eqw) [] [] (He.ma K (He.ga K "Day") "__eq__") fd
  d_Day_having : ∃ fd, FunD K "having" "Day.having" (defArgs s_Day_having) (defBody s_Day_having) (defScope s_Day_having) [] [] (He.ma K (He.ga K "Day") "having") fd
  d_Lheard : ∃ fd, FunD K "_law_heard" "_law_heard" (defArgs s_Lheard) (defBody s_Lheard) (defScope s_Lheard) [] [] (He.ga K "_law_heard") fd
  d_Lday_text : ∃ fd, FunD K "_law_day_text" "_law_day_text" (defArgs s_Lday_text) (defBody s_Lday_text) (defScope s_Lday_text) [] [] (He.ga K "_law_day_text") fd
  d_law : ∃ fd, FunD K "law" "law" (defArgs s_law) (defBody s_law) (defScope s_law) [] [] (He.ga K "law") fd
section
variable {P : Program} {w : World} {tb : Addr} {K : PySem.W.Frag} {mg : Str → Option Value} {base : Heap}
theorem fo_Lseed (X : Tx P w tb K mg) {fd : FuncData} (FD : FunD K "_law_seed" "_law_seed" (defArgs s_Lseed) (defBody s_Lseed) (defScope s_Lseed) [] [] (He.ga K "_law_seed") fd) : FnG P w K mg base (CX P w) 1 (He.ga K "_law_seed") fd ["_law_script", "_law_k"] (spF (TB P w tb) K f_Lseed) := by
  refine fn_ok FD sc_Lseed (fun cdv A outer s H E hr => ?_)
  have tk := takes_of (X := cxOf (CX P w) P w K mg base ["_law_script", "_law_k", "_law_cell"] "_law_seed" (defScope s_Lseed) (He.ga K "_law_seed") cdv A outer s H E) rfl rfl rfl rfl
  have hp := passes_of (X := cxOf (CX P w) P w K mg base ["_law_script", "_law_k", "_law_cell"] "_law_seed" (defScope s_Lseed) (He.ga K "_law_seed") cdv A outer s H E) rfl
  exact (jss_cons (js_set 2 sc_Lseed.nd (je_op op_add lift_add (je_op op_mul lift_mul je_int (je_var 1)) je_int))
 (jss_cons (js_if (jt_cmp op_lt' lift_lt (je_var 1) (je_callB call_len lift_len X.n_len (ja_cons (je_var 0) ja_nil)))
 (jss_one (js_set 2 sc_Lseed.nd (je_callB call_abs lift_abs X.n_abs (ja_cons (je_ix (je_var 0) (je_var 1)) ja_nil))))
 (jss_one (js_if (jt_cmp op_gt' lift_gt (je_callB call_len lift_len X.n_len (ja_cons (je_var 0) ja_nil)) je_int)
 (jss_one (js_set 2 sc_Lseed.nd (je_op op_add lift_add (je_var 2) (je_op op_mul lift_mul (je_op op_mod lift_mod (je_callTy call_int1 lift_int1 X.n_int (ja_cons (je_callB call_abs lift_abs X.n_abs (ja_cons (je_ix (je_var 0) (je_op op_mod lift_mod (je_callTy call_int1 lift_int1 X.n_int (ja_cons (je_var 1) ja_nil)) (je_callB call_len lift_len X.n_len (ja_cons (je_var 0) ja_nil)))) ja_nil)) ja_nil)) je_int) je_int))))
 jss_nil)))
 (jss_one (js_ret (je_lst (ja_cons (je_if (jt_cmp op_ge' lift_ge (je_var 2) (je_op op_pow lift_pow je_int je_int)) (je_var 2) je_int) (ja_cons (je_op op_add lift_add (je_op op_mod lift_mod (je_callTy call_int1 lift_int1 X.n_int (ja_cons (je_op op_add lift_add (je_op op_mul lift_mul (je_op op_mod lift_mod (je_callTy call_int1 lift_int1 X.n_int (ja_cons (je_var 2) ja_nil)) je_int) je_int) (je_op op_mul lift_mul je_int (je_var 1))) ja_nil)) je_int) je_int) ja_nil)))))))
theorem ok_Lseed (X : Tx P w tb K mg) : Callee (TB P w tb) P w K mg base 1 (He.ga K "_law_seed") ["_law_script", "_law_k"] f_Lseed [] := by
  obtain ⟨fd, FD⟩ := X.d_Lseed
  exact ⟨fd, [], fo_Lseed X FD, FD.kp, .nil, FD.bindsN fun _ _ _ _ _ _ us hl => match us, hl with | [_, _], _ => rfl⟩
theorem fo_Lchoose (X : Tx P w tb K mg) {fd : FuncData} (FD : FunD K "_law_choose" "_law_choose" (defArgs s_Lchoose) (defBody s_Lchoose) (defScope s_Lchoose) [] [] (He.ga K "_law_choose") fd) : FnG P w K mg base (CX P w) 1 (He.ga K "_law_choose") fd ["_law_box", "_law_many"] (spF (TB P w tb) K f_Lchoose) := by
  refine fn_ok FD sc_Lchoose (fun cdv A outer s H E hr => ?_)
  have tk := takes_of (X := cxOf (CX P w) P w K mg base ["_law_box", "_law_many", "_law_digit", "_law_raw"] "_law_choose" (defScope s_Lchoose) (He.ga K "_law_choose") cdv A outer s H E) rfl rfl rfl rfl
  have hp := passes_of (X := cxOf (CX P w) P w K mg base ["_law_box", "_law_many", "_law_digit", "_law_raw"] "_law_choose" (defScope s_Lchoose) (He.ga K "_law_choose") cdv A outer s H E) rfl
  exact (jss_cons (js_if (jt_cmp op_gt' lift_gt (je_ix (je_var 0) je_int) je_int)
 (jss_cons (js_set 2 sc_Lchoose.nd (je_op op_mod lift_mod (je_callTy call_int1 lift_int1 X.n_int (ja_cons (je_ix (je_var 0) je_int) ja_nil)) (je_var 1)))
 (jss_cons (js_asg (je_op op_fdiv lift_fdiv (je_ix (je_var 0) je_int) (je_var 1)) (jg_ix (je_var 0) je_int))
 (jss_one (js_ret (je_var 2)))))
 jss_nil)
 (jss_cons (js_set 3 sc_Lchoose.nd (je_op op_mod lift_mod (je_callTy call_int1 lift_int1 X.n_int (ja_cons (je_op op_add lift_add (je_op op_mul lift_mul (je_ix (je_var 0) je_int) je_int) je_int) ja_nil)) je_int))
 (jss_cons (js_asg (je_op op_add lift_add (je_op op_mod lift_mod (je_callTy call_int1 lift_int1 X.n_int (ja_cons (je_op op_add lift_add (je_op op_mul lift_mul (je_var 3) je_int) je_int) ja_nil)) je_int) je_int) (jg_ix (je_var 0) je_int))
 (jss_one (js_ret (je_op op_mod lift_mod (je_callTy call_int1 lift_int1 X.n_int (ja_cons (je_op op_fdiv lift_fdiv (je_op op_add lift_add (je_op op_mul lift_mul (je_var 3) je_int) (je_ix (je_var 0) je_int)) je_int) ja_nil)) (je_var 1)))))))
theorem ok_Lchoose (X : Tx P w tb K mg) : Callee (TB P w tb) P w K mg base 1 (He.ga K "_law_choose") ["_law_box", "_law_many"] f_Lchoose [] := by
  obtain ⟨fd, FD⟩ := X.d_Lchoose
  exact ⟨fd, [], fo_Lchoose X FD, FD.kp, .nil, FD.bindsN fun _ _ _ _ _ _ us hl => match us, hl with | [_, _], _ => rfl⟩
theorem fo_Lone_of (X : Tx P w tb K mg) {fd : FuncData} (FD : FunD K "_law_one_of" "_law_one_of" (defArgs s_Lone_of) (defBody s_Lone_of) (defScope s_Lone_of) [] [] (He.ga K "_law_one_of") fd) : FnG P w K mg base (CX P w) 2 (He.ga K "_law_one_of") fd ["_law_box", "_law_some"] (spF (TB P w tb) K f_Lone_of) := by
  refine fn_ok FD sc_Lone_of (fun cdv A outer s H E hr => ?_)
  have tk := takes_of (X := cxOf (CX P w) P w K mg base ["_law_box", "_law_some"] "_law_one_of" (defScope s_Lone_of) (He.ga K "_law_one_of") cdv A outer s H E) rfl rfl rfl rfl
  have hp := passes_of (X := cxOf (CX P w) P w K mg base ["_law_box", "_law_some"] "_law_one_of" (defScope s_Lone_of) (He.ga K "_law_one_of") cdv A outer s H E) rfl
  exact (jss_one (js_ret (je_ixX rfl hr.units (je_var 1) (jc_B (ok_Lchoose X) (hr.mono (by decide)) X.g_Lchoose Dfl.nil tk (ja_cons (je_var 0) (ja_cons (je_callB call_lenX lift_lenX X.n_len (ja_cons (je_var 1) ja_nil)) ja_nil))))))
theorem ok_Lone_of (X : Tx P w tb K mg) : Callee (TB P w tb) P w K mg base 2 (He.ga K "_law_one_of") ["_law_box", "_law_some"] f_Lone_of [] := by
  obtain ⟨fd, FD⟩ := X.d_Lone_of
  exact ⟨fd, [], fo_Lone_of X FD, FD.kp, .nil, FD.bindsN fun _ _ _ _ _ _ us hl => match us, hl with | [_, _], _ => rfl⟩
theorem fo_Lday (X : Tx P w tb K mg) {fd : FuncData} (FD : FunD K "_law_day" "_law_day" (defArgs s_Lday) (defBody s_Lday) (defScope s_Lday) [] [] (He.ga K "_law_day") fd) : FnG P w K mg base (CX P w) 3 (He.ga K "_law_day") fd ["_law_box", "_law_top", "_law_is_secret"] (spF (TB P w tb) K f_Lday) := by
  refine fn_ok FD sc_Lday (fun cdv A outer s H E hr => ?_)
  have tk := takes_of (X := cxOf (CX P w) P w K mg base ["_law_box", "_law_top", "_law_is_secret", "_law_size", "_law_found", "_law_last", "_law_turn", "_law_begin", "_law_end"] "_law_day" (defScope s_Lday) (He.ga K "_law_day") cdv A outer s H E) rfl rfl rfl rfl
  have hp := passes_of (X := cxOf (CX P w) P w K mg base ["_law_box", "_law_top", "_law_is_secret", "_law_size", "_law_found", "_law_last", "_law_turn", "_law_begin", "_law_end"] "_law_day" (defScope s_Lday) (He.ga K "_law_day") cdv A outer s H E) rfl
  exact (jss_cons (js_par3 3 4 5 rfl sc_Lday.nd (by decide) (by decide) (by decide) (ja_cons (je_op op_plus lift_plus je_int (jc_B (ok_Lchoose X) (hr.mono (by decide)) X.g_Lchoose Dfl.nil tk (ja_cons (je_var 0) (ja_cons (je_var 1) ja_nil)))) (ja_cons (je_lst ja_nil) (ja_cons je_int ja_nil))))
 (jss_cons (js_for hp rfl (ji_range1 rfl X.n_range (ja_cons je_int ja_nil)) (jg_name 6 sc_Lday.nd)
 (jss_cons (js_set 7 sc_Lday.nd (je_op op_plus lift_plus (je_var 5) (jc_B (ok_Lone_of X) (hr.mono (by decide)) X.g_Lone_of Dfl.nil tk (ja_cons (je_var 0) (ja_cons (je_lstF (ja_cons je_int (ja_cons je_int (ja_cons je_int (ja_cons je_int (ja_cons je_int (ja_cons je_int (ja_cons je_int ja_nil)))))))) ja_nil)))))
 (jss_cons (js_set 8 sc_Lday.nd (je_op op_plus lift_plus (je_var 7) (jc_B (ok_Lone_of X) (hr.mono (by decide)) X.g_Lone_of Dfl.nil tk (ja_cons (je_var 0) (ja_cons (je_lstF (ja_cons je_int (ja_cons je_int (ja_cons je_int (ja_cons je_int (ja_cons je_int (ja_cons je_int ja_nil))))))) ja_nil)))))
 (jss_one (js_if (jt_cmp op_le' lift_le (je_var 8) (je_var 3))
 (jss_cons (js_expr (je_bm PySem.F.plainAttrs_list PySem.F.slot_list_append PySem.F.type_list_append mt_append lift_append (je_var 4) (ja_cons (je_tup (ja_cons (je_var 7) (ja_cons (je_var 8) (ja_cons (je_and (je_var 2) (je_one (je_cmp (op_eqD hr.units) lift_eqD (jc_B (ok_Lchoose X) (hr.mono (by decide)) X.g_Lchoose Dfl.nil tk (ja_cons (je_var 0) (ja_cons je_int ja_nil))) je_int))) ja_nil)))) ja_nil)))
 (jss_one (js_set 5 sc_Lday.nd (je_var 8))))
 jss_nil)))))
 (jss_one (js_ret (je_tup (ja_cons (je_var 3) (ja_cons (je_var 4) ja_nil)))))))
theorem ok_Lday (X : Tx P w tb K mg) : Callee (TB P w tb) P w K mg base 3 (He.ga K "_law_day") ["_law_box", "_law_top", "_law_is_secret"] f_Lday [] := by
  obtain ⟨fd, FD⟩ := X.d_Lday
  exact ⟨fd, [], fo_Lday X FD, FD.kp, .nil, FD.bindsN fun _ _ _ _ _ _ us hl => match us, hl with | [_, _, _], _ => rfl⟩
theorem fo_is_integer (X : Tx P w tb K mg) {fd : FuncData} (FD : FunD K "is_integer" "is_integer" (defArgs s_is_integer) (defBody s_is_integer) (defScope s_is_integer) [] [] (He.ga K "is_integer") fd) : FnG P w K mg base (CX P w) 1 (He.ga K "is_integer") fd ["value"] (spF (TB P w tb) K f_is_integer) := by
  refine fn_ok FD sc_is_integer (fun cdv A outer s H E hr => ?_)
  have tk := takes_of (X := cxOf (CX P w) P w K mg base ["value"] "is_integer" (defScope s_is_integer) (He.ga K "is_integer") cdv A outer s H E) rfl rfl rfl rfl
  have hp := passes_of (X := cxOf (CX P w) P w K mg base ["value"] "is_integer" (defScope s_is_integer) (He.ga K "is_integer") cdv A outer s H E) rfl
  exact (jss_one (js_ret (je_and (je_isi .int (je_var 0) X.ko X.n_isinstance X.n_int) (je_one (je_not (je_isi .bool (je_var 0) X.ko X.n_isinstance X.n_bool))))))
theorem ok_is_integer (X : Tx P w tb K mg) : Callee (TB P w tb) P w K mg base 1 (He.ga K "is_integer") ["value"] f_is_integer [] := by
  obtain ⟨fd, FD⟩ := X.d_is_integer
  exact ⟨fd, [], fo_is_integer X FD, FD.kp, .nil, FD.bindsN fun _ _ _ _ _ _ us hl => match us, hl with | [_], _ => rfl⟩
theorem fo_is_bool (X : Tx P w tb K mg) {fd : FuncData} (FD : FunD K "is_bool" "is_bool" (defArgs s_is_bool) (defBody s_is_bool) (defScope s_is_bool) [] [] (He.ga K "is_bool") fd) : FnG P w K mg base (CX P w) 1 (He.ga K "is_bool") fd ["value"] (spF (TB P w tb) K f_is_bool) := by
  refine fn_ok FD sc_is_bool (fun cdv A outer s H E hr => ?_)
  have tk := takes_of (X := cxOf (CX P w) P w K mg base ["value"] "is_bool" (defScope s_is_bool) (He.ga K "is_bool") cdv A outer s H E) rfl rfl rfl rfl
  have hp := passes_of (X := cxOf (CX P w) P w K mg base ["value"] "is_bool" (defScope s_is_bool) (He.ga K "is_bool") cdv A outer s H E) rfl
  exact (jss_one (js_ret (je_isi .bool (je_var 0) X.ko X.n_isinstance X.n_bool)))
theorem ok_is_bool (X : Tx P w tb K mg) : Callee (TB P w tb) P w K mg base 1 (He.ga K "is_bool") ["value"] f_is_bool [] := by
  obtain ⟨fd, FD⟩ := X.d_is_bool
  exact ⟨fd, [], fo_is_bool X FD, FD.kp, .nil, FD.bindsN fun _ _ _ _ _ _ us hl => match us, hl with | [_], _ => rfl⟩
theorem fo_is_number (X : Tx P w tb K mg) {fd : FuncData} (FD : FunD K "is_number" "is_number" (defArgs s_is_number) (defBody s_is_number) (defScope s_is_number) [] [] (He.ga K "is_number") fd) : FnG P w K mg base (CX P w) 2 (He.ga K "is_number") fd ["value"] (spF (TB P w tb) K f_is_number) := by
  refine fn_ok FD sc_is_number (fun cdv A outer s H E hr => ?_)
  have tk := takes_of (X := cxOf (CX P w) P w K mg base ["value"] "is_number" (defScope s_is_number) (He.ga K "is_number") cdv A outer s H E) rfl rfl rfl rfl
  have hp := passes_of (X := cxOf (CX P w) P w K mg base ["value"] "is_number" (defScope s_is_number) (He.ga K "is_number") cdv A outer s H E) rfl
  exact (jss_one (js_ret (je_and (jc_P (ok_is_integer X) (hr.mono (by decide)) X.g_is_integer Dfl.nil tk (ja_cons (je_var 0) ja_nil)) (je_one (je_cmp op_ge' lift_ge (je_var 0) je_int)))))
theorem ok_is_number (X : Tx P w tb K mg) : Callee (TB P w tb) P w K mg base 2 (He.ga K "is_number") ["value"] f_is_number [] := by
  obtain ⟨fd, FD⟩ := X.d_is_number
  exact ⟨fd, [], fo_is_number X FD, FD.kp, .nil, FD.bindsN fun _ _ _ _ _ _ us hl => match us, hl with | [_], _ => rfl⟩
theorem fo_is_meeting (X : Tx P w tb K mg) {fd : FuncData} (FD : FunD K "is_meeting" "is_meeting" (defArgs s_is_meeting) (defBody s_is_meeting) (defScope s_is_meeting) [] [] (He.ga K "is_meeting") fd) : FnG P w K mg base (CX P w) 3 (He.ga K "is_meeting") fd ["value"] (spF (TB P w tb) K f_is_meeting) := by
  refine fn_ok FD sc_is_meeting (fun cdv A outer s H E hr => ?_)
  have tk := takes_of (X := cxOf (CX P w) P w K mg base ["value", "begin", "end", "is_private"] "is_meeting" (defScope s_is_meeting) (He.ga K "is_meeting") cdv A outer s H E) rfl rfl rfl rfl
  have hp := passes_of (X := cxOf (CX P w) P w K mg base ["value", "begin", "end", "is_private"] "is_meeting" (defScope s_is_meeting) (He.ga K "is_meeting") cdv A outer s H E) rfl
  exact (jss_cons (js_if (jt_w (jw_or (jt_not (jt_val (je_isi .tuple (je_var 0) X.ko X.n_isinstance X.n_tuple))) (jw_one (jt_cmp (op_neD hr.units) lift_neD (je_callB call_lenX lift_lenX X.n_len (ja_cons (je_var 0) ja_nil)) je_int))))
 (jss_one (js_ret je_bl))
 jss_nil)
 (jss_cons (js_asg (je_var 0) (jg_tup rfl (jgs_cons (jg_name 1 sc_is_meeting.nd) (jgs_cons (jg_name 2 sc_is_meeting.nd) (jgs_cons (jg_name 3 sc_is_meeting.nd) jgs_nil)))))
 (jss_one (js_ret (je_and (jc_P (ok_is_number X) (hr.mono (by decide)) X.g_is_number Dfl.nil tk (ja_cons (je_var 1) ja_nil)) (je_and (jc_P (ok_is_number X) (hr.mono (by decide)) X.g_is_number Dfl.nil tk (ja_cons (je_var 2) ja_nil)) (je_and (jc_P (ok_is_bool X) (hr.mono (by decide)) X.g_is_bool Dfl.nil tk (ja_cons (je_var 3) ja_nil)) (je_one (je_cmp op_lt' lift_lt (je_var 1) (je_var 2))))))))))
theorem ok_is_meeting (X : Tx P w tb K mg) : Callee (TB P w tb) P w K mg base 3 (He.ga K "is_meeting") ["value"] f_is_meeting [] := by
  obtain ⟨fd, FD⟩ := X.d_is_meeting
  exact ⟨fd, [], fo_is_meeting X FD, FD.kp, .nil, FD.bindsN fun _ _ _ _ _ _ us hl => match us, hl with | [_], _ => rfl⟩
theorem fo_is_sequence (X : Tx P w tb K mg) {fd : FuncData} (FD : FunD K "is_sequence" "is_sequence" (defArgs s_is_sequence) (defBody s_is_sequence) (defScope s_is_sequence) [] [] (He.ga K "is_sequence") fd) : FnG P w K mg base (CX P w) 1 (He.ga K "is_sequence") fd ["value"] (spF (TB P w tb) K f_is_sequence) := by
  refine fn_ok FD sc_is_sequence (fun cdv A outer s H E hr => ?_)
  have tk := takes_of (X := cxOf (CX P w) P w K mg base ["value"] "is_sequence" (defScope s_is_sequence) (He.ga K "is_sequence") cdv A outer s H E) rfl rfl rfl rfl
  have hp := passes_of (X := cxOf (CX P w) P w K mg base ["value"] "is_sequence" (defScope s_is_sequence) (He.ga K "is_sequence") cdv A outer s H E) rfl
  exact (jss_one (js_ret (je_isi2 .list .tuple (je_var 0) X.ko X.n_isinstance X.n_list X.n_tuple)))
theorem ok_is_sequence (X : Tx P w tb K mg) : Callee (TB P w tb) P w K mg base 1 (He.ga K "is_sequence") ["value"] f_is_sequence [] := by
  obtain ⟨fd, FD⟩ := X.d_is_sequence
  exact ⟨fd, [], fo_is_sequence X FD, FD.kp, .nil, FD.bindsN fun _ _ _ _ _ _ us hl => match us, hl with | [_], _ => rfl⟩
theorem fo_are_meetings (X : Tx P w tb K mg) {fd : FuncData} (FD : FunD K "are_meetings" "are_meetings" (defArgs s_are_meetings) (defBody s_are_meetings) (defScope s_are_meetings) [] [] (He.ga K "are_meetings") fd) : FnG P w K mg base (CX P w) 4 (He.ga K "are_meetings") fd ["length", "value"] (spF (TB P w tb) K f_are_meetings) := by
  refine fn_ok FD sc_are_meetings (fun cdv A outer s H E hr => ?_)
  have tk := takes_of (X := cxOf (CX P w) P w K mg base ["length", "value", "last", "begin", "end", "is_private", "meeting"] "are_meetings" (defScope s_are_meetings) (He.ga K "are_meetings") cdv A outer s H E) rfl rfl rfl rfl
  have hp := passes_of (X := cxOf (CX P w) P w K mg base ["length", "value", "last", "begin", "end", "is_private", "meeting"] "are_meetings" (defScope s_are_meetings) (He.ga K "are_meetings") cdv A outer s H E) rfl
  exact (jss_cons (js_if (jt_w (jw_or (jt_not (jt_val (jc_P (ok_is_sequence X) (hr.mono (by decide)) X.g_is_sequence Dfl.nil tk (ja_cons (je_var 1) ja_nil)))) (jw_one (jt_not (jt_val (je_callB (cr_all rfl) lift_all X.n_all (ja_cons (je_lcF [("meeting", 6)] rfl sc_are_meetings.nd (ji_any (je_var 1)) (blkOk_by (N := ["length", "value", "last", "begin", "end", "is_private", "meeting"]) (sc := defScope s_are_meetings) (by decide +kernel)) (by decide) (fun _ _ _ _ _ => (jgw_name 6 sc_are_meetings.nd)) (fun _ _ _ _ _ => jts_nil) (fun _ _ _ _ _ => (jc_P (ok_is_meeting X) (hr.mono (by decide)) X.g_is_meeting Dfl.nil takesNo (ja_cons (je_var 6) ja_nil)))) ja_nil)))))))
 (jss_one (js_ret je_bl))
 jss_nil)
 (jss_cons (js_set 2 sc_are_meetings.nd je_int)
 (jss_cons (js_for hp rfl (ji_any (je_var 1)) (jg_tup rfl (jgs_cons (jg_name 3 sc_are_meetings.nd) (jgs_cons (jg_name 4 sc_are_meetings.nd) (jgs_cons (jg_name 5 sc_are_meetings.nd) jgs_nil))))
 (jss_cons (js_if (jt_w (jw_or (jt_cmp op_lt' lift_lt (je_var 3) (je_var 2)) (jw_one (jt_cmp op_gt' lift_gt (je_var 4) (je_var 0)))))
 (jss_one (js_ret je_bl))
 jss_nil)
 (jss_one (js_set 2 sc_are_meetings.nd (je_var 4)))))
 (jss_one (js_ret je_bl)))))
theorem ok_are_meetings (X : Tx P w tb K mg) : Callee (TB P w tb) P w K mg base 4 (He.ga K "are_meetings") ["length", "value"] f_are_meetings [] := by
  obtain ⟨fd, FD⟩ := X.d_are_meetings
  exact ⟨fd, [], fo_are_meetings X FD, FD.kp, .nil, FD.bindsN fun _ _ _ _ _ _ us hl => match us, hl with | [_, _], _ => rfl⟩
theorem fo_Day_init (X : Tx P w tb K mg) {fd : FuncData} (FD : FunD K "__init__" "Day.__init__" (defArgs s_Day_init) (defBody s_Day_init) (defScope s_Day_init) [He.Dv.v K (.adr (He.dflAt ("Day", some "__init__") 0))] [] (He.ma K (He.ga K "Day") "__init__") fd) : FnG P w K mg base (CX P w) 5 (He.ma K (He.ga K "Day") "__init__") fd ["self", "length", "meetings"] (spF (TB P w tb) K f_Day_init) := by
  refine fn_ok FD sc_Day_init (fun cdv A outer s H E hr => ?_)
  have tk := takes_of (X := cxOf (CX P w) P w K mg base ["self", "length", "meetings"] "Day.__init__" (defScope s_Day_init) (He.ma K (He.ga K "Day") "__init__") cdv A outer s H E) rfl rfl rfl rfl
  have hp := passes_of (X := cxOf (CX P w) P w K mg base ["self", "length", "meetings"] "Day.__init__" (defScope s_Day_init) (He.ma K (He.ga K "Day") "__init__") cdv A outer s H E) rfl
  exact (jss_cons (js_if (jt_w (jw_or (jt_not (jt_val (jc_P (ok_is_integer X) (hr.mono (by decide)) X.g_is_integer Dfl.nil tk (ja_cons (je_var 1) ja_nil)))) (jw_one (jt_cmp op_lt' lift_lt (je_var 1) je_int))))
 (jss_one (js_raise rfl X.xc_InvalidDay X.g_InvalidDay hr tk (je_str [108, 101, 110, 103, 116, 104])))
 jss_nil)
 (jss_cons (js_if (jt_not (jt_val (jc_P (ok_are_meetings X) (hr.mono (by decide)) X.g_are_meetings Dfl.nil tk (ja_cons (je_var 1) (ja_cons (je_var 2) ja_nil)))))
 (jss_one (js_raise rfl X.xc_InvalidDay X.g_InvalidDay hr tk (je_str [109, 101, 101, 116, 105, 110, 103, 115])))
 jss_nil)
 (jss_cons (js_setattr (AttOk.cons rfl X.k_Day AttOk.nil) (je_var 1) (je_var 0))
 (jss_one (js_setattr (AttOk.cons rfl X.k_Day AttOk.nil) (je_callTy call_tuple_of lift_tuple X.n_tuple (ja_cons (je_var 2) ja_nil)) (je_var 0))))))
theorem ok_Day_init (X : Tx P w tb K mg) : Callee (TB P w tb) P w K mg base 5 (He.ma K (He.ga K "Day") "__init__") ["self", "length", "meetings"] f_Day_init [] := by
  obtain ⟨fd, FD⟩ := X.d_Day_init
  obtain ⟨ds, hv, hb⟩ := FD.binds1 (ps := ["self", "length", "meetings"]) 3 1 (by simp) rfl (fun _ _ _ _ _ _ _ us its h1 h2 => match us, its, h1, h2 with | [_, _, _], [_], _, _ => ⟨_, rfl, rfl⟩)
  exact ⟨fd, ds, fo_Day_init X FD, FD.kp, hv, hb⟩
theorem nr_Day_init : ∀ as h v h', f_Day_init h as = .ok v h' → v = .non := fnOf_non (nr_seq (nr_if nr_raise nr_skip) (nr_seq (nr_if nr_raise nr_skip) (nr_seq nr_att nr_att)))
theorem nf_Day_need_indexX : ("need_index" : Str) ∉ TBf 10 := by decide +kernel
theorem fo_Day_need_indexX (X : Tx P w tb K mg) {fd : FuncData} (FD : FunD K "need_index" "Day.need_index" (defArgs s_Day_need_indexX) (defBody s_Day_need_indexX) (defScope s_Day_need_indexX) [] [] (He.ma K (He.ga K "Day") "need_index") fd) : FnG P w K mg base (CX P w) 2 (He.ma K (He.ga K "Day") "need_index") fd ["self", "at"] (spF (TB P w tb) K f_Day_need_indexX) := by
  refine fn_ok FD sc_Day_need_indexX (fun cdv A outer s H E hr => ?_)
  have tk := takes_of (X := cxOf (CX P w) P w K mg base ["self", "at"] "Day.need_index" (defScope s_Day_need_indexX) (He.ma K (He.ga K "Day") "need_index") cdv A outer s H E) rfl rfl rfl rfl
  have hp := passes_of (X := cxOf (CX P w) P w K mg base ["self", "at"] "Day.need_index" (defScope s_Day_need_indexX) (He.ma K (He.ga K "Day") "need_index") cdv A outer s H E) rfl
  exact (jss_one (js_if (jt_not (jt_chain op_le' lift_le op_lt' lift_lt je_int (je_var 1) (je_callB call_lenX lift_lenX X.n_len (ja_cons (je_attr (je_var 0) (AttOk.cons rfl X.k_Day AttOk.nil)) ja_nil))))
 (jss_one (js_raise rfl X.xc_NoMeeting X.g_NoMeeting hr tk (je_var 1)))
 jss_nil))
theorem ok_Day_need_indexX (X : Tx P w tb K mg) : Callee (TB P w tb) P w K mg base 2 (He.ma K (He.ga K "Day") "need_index") ["self", "at"] f_Day_need_indexX [] := by
  obtain ⟨fd, FD⟩ := X.d_Day_need_indexX
  exact ⟨fd, [], fo_Day_need_indexX X FD, FD.kp, .nil, FD.bindsN fun _ _ _ _ _ _ us hl => match us, hl with | [_, _], _ => rfl⟩
theorem nf_Day_withoutX : ("without" : Str) ∉ TBf 10 := by decide +kernel
theorem fo_Day_withoutX (X : Tx P w tb K mg) {fd : FuncData} (FD : FunD K "without" "Day.without" (defArgs s_Day_withoutX) (defBody s_Day_withoutX) (defScope s_Day_withoutX) [] [] (He.ma K (He.ga K "Day") "without") fd) : FnG P w K mg base (CX P w) 7 (He.ma K (He.ga K "Day") "without") fd ["self", "at"] (spF (TB P w tb) K f_Day_withoutX) := by
  refine fn_ok FD sc_Day_withoutX (fun cdv A outer s H E hr => ?_)
  have tk := takes_of (X := cxOf (CX P w) P w K mg base ["self", "at"] "Day.without" (defScope s_Day_withoutX) (He.ma K (He.ga K "Day") "without") cdv A outer s H E) rfl rfl rfl rfl
  have hp := passes_of (X := cxOf (CX P w) P w K mg base ["self", "at"] "Day.without" (defScope s_Day_withoutX) (He.ma K (He.ga K "Day") "without") cdv A outer s H E) rfl
  exact (jss_cons (js_expr (jc_M (je_var 0) X.k_Day X.m_Day_need_indexX nf_Day_need_indexX (ok_Day_need_indexX X) (hr.mono (by decide)) Dfl.nil tk (ja_cons (je_var 1) ja_nil)))
 (jss_one (js_ret (jc_K nr_Day_init X.mk_Day (ok_Day_init X) (hr.mono (by decide)) X.g_Day Dfl.nil tk (ja_cons (je_attr (je_var 0) (AttOk.cons rfl X.k_Day AttOk.nil)) (ja_cons (je_tup (ja_star (je_slice (je_attr (je_var 0) (AttOk.cons rfl X.k_Day AttOk.nil)) jo_none (jo_some (je_var 1))) (ja_star (je_slice (je_attr (je_var 0) (AttOk.cons rfl X.k_Day AttOk.nil)) (jo_some (je_op op_plus lift_plus (je_var 1) je_int)) jo_none) ja_nil))) ja_nil))))))
theorem ok_Day_withoutX (X : Tx P w tb K mg) : Callee (TB P w tb) P w K mg base 7 (He.ma K (He.ga K "Day") "without") ["self", "at"] f_Day_withoutX [] := by
  obtain ⟨fd, FD⟩ := X.d_Day_withoutX
  exact ⟨fd, [], fo_Day_withoutX X FD, FD.kp, .nil, FD.bindsN fun _ _ _ _ _ _ us hl => match us, hl with | [_, _], _ => rfl⟩
theorem fo_Dayw_getitemwX (X : Tx P w tb K mg) {fd : FuncData} (FD : FunD K "__getitem__" "Day.__getitem__" (defArgs s_Dayw_getitemwX) (defBody s_Dayw_getitemwX) (defScope s_Dayw_getitemwX) [] [] (He.ma K (He.ga K "Day") "__getitem__") fd) : FnG P w K mg base (CX P w) 3 (He.ma K (He.ga K "Day") "__getitem__") fd ["self", "at"] (spF (TB P w tb) K f_Dayw_getitemwX) := by
  refine fn_ok FD sc_Dayw_getitemwX (fun cdv A outer s H E hr => ?_)
  have tk := takes_of (X := cxOf (CX P w) P w K mg base ["self", "at"] "Day.__getitem__" (defScope s_Dayw_getitemwX) (He.ma K (He.ga K "Day") "__getitem__") cdv A outer s H E) rfl rfl rfl rfl
  have hp := passes_of (X := cxOf (CX P w) P w K mg base ["self", "at"] "Day.__getitem__" (defScope s_Dayw_getitemwX) (He.ma K (He.ga K "Day") "__getitem__") cdv A outer s H E) rfl
  exact (jss_cons (js_expr (jc_M (je_var 0) X.k_Day X.m_Day_need_indexX nf_Day_need_indexX (ok_Day_need_indexX X) (hr.mono (by decide)) Dfl.nil tk (ja_cons (je_var 1) ja_nil)))
 (jss_one (js_ret (je_ixX rfl hr.units (je_attr (je_var 0) (AttOk.cons rfl X.k_Day AttOk.nil)) (je_var 1)))))
theorem ok_Dayw_getitemwX (X : Tx P w tb K mg) : Callee (TB P w tb) P w K mg base 3 (He.ma K (He.ga K "Day") "__getitem__") ["self", "at"] f_Dayw_getitemwX [] := by
  obtain ⟨fd, FD⟩ := X.d_Dayw_getitemwX
  exact ⟨fd, [], fo_Dayw_getitemwX X FD, FD.kp, .nil, FD.bindsN fun _ _ _ _ _ _ us hl => match us, hl with | [_, _], _ => rfl⟩
theorem fo_Dayw_strw (X : Tx P w tb K mg) {fd : FuncData} (FD : FunD K "__str__" "Day.__str__" (defArgs s_Dayw_strw) (defBody s_Dayw_strw) (defScope s_Dayw_strw) [] [] (He.ma K (He.ga K "Day") "__str__") fd) : FnG P w K mg base (CX P w) 1 (He.ma K (He.ga K "Day") "__str__") fd ["self"] (spF (TB P w tb) K f_Dayw_strw) := by
  refine fn_ok FD sc_Dayw_strw (fun cdv A outer s H E hr => ?_)
  have tk := takes_of (X := cxOf (CX P w) P w K mg base ["self", "texts", "begin", "end", "is_private"] "Day.__str__" (defScope s_Dayw_strw) (He.ma K (He.ga K "Day") "__str__") cdv A outer s H E) rfl rfl rfl rfl
  have hp := passes_of (X := cxOf (CX P w) P w K mg base ["self", "texts", "begin", "end", "is_private"] "Day.__str__" (defScope s_Dayw_strw) (He.ma K (He.ga K "Day") "__str__") cdv A outer s H E) rfl
  exact (jss_cons (js_setLcF 1 [("begin", 2), ("end", 3), ("is_private", 4)] rfl sc_Dayw_strw.nd (ji_any (je_attr (je_var 0) (AttOk.cons rfl X.k_Day AttOk.nil))) (blkOk_by (N := ["self", "texts", "begin", "end", "is_private"]) (sc := defScope s_Dayw_strw) (by decide +kernel)) (by decide) (fun _ _ _ _ _ => (jgw_tup rfl (jgsw_cons (jgw_name 2 sc_Dayw_strw.nd) (jgsw_cons (jgw_name 3 sc_Dayw_strw.nd) (jgsw_cons (jgw_name 4 sc_Dayw_strw.nd) jgsw_nil))))) (fun _ _ _ _ _ => jts_nil) (fun _ _ _ _ _ => (je_joined (jj_cons (je_fmt (je_var 2)) (jj_cons (je_str [45]) (jj_cons (je_fmt (je_var 3)) (jj_cons (je_fmt (je_if (jt_val (je_var 4)) (je_gk X.c_ENDING) (je_str []))) jj_nil)))))))
 (jss_one (js_ret (je_joined (jj_cons (je_fmt (je_attr (je_var 0) (AttOk.cons rfl X.k_Day AttOk.nil))) (jj_cons (je_str [58, 32]) (jj_cons (je_fmt (je_if (jt_cmp op_gt' lift_gt (je_callB call_lenX lift_lenX X.n_len (ja_cons (je_var 1) ja_nil)) je_int) (je_bm PySem.F.plainAttrs_str PySem.F.slot_str_join PySem.F.type_str_join mt_join lift_join (je_str [44, 32]) (ja_cons (je_var 1) ja_nil)) (je_str [45]))) jj_nil)))))))
theorem ok_Dayw_strw (X : Tx P w tb K mg) : Callee (TB P w tb) P w K mg base 1 (He.ma K (He.ga K "Day") "__str__") ["self"] f_Dayw_strw [] := by
  obtain ⟨fd, FD⟩ := X.d_Dayw_strw
  exact ⟨fd, [], fo_Dayw_strw X FD, FD.kp, .nil, FD.bindsN fun _ _ _ _ _ _ us hl => match us, hl with | [_], _ => rfl⟩
theorem fo_Dayw_eqw (X : Tx P w tb K mg) {fd : FuncData} (FD : FunD K "__eq__" "Day.__eq__" (defArgs s_Dayw_eqw) (defBody s_Dayw_eqw) (defScope s_Dayw_eqw) [] [] (He.ma K (He.ga K "Day") "__eq__") fd) : FnG P w K mg base (CX P w) 4 (He.ma K (He.ga K "Day") "__eq__") fd ["self", "other"] (spF (TB P w tb) K f_Dayw_eqw) := by
  refine fn_ok FD sc_Dayw_eqw (fun cdv A outer s H E hr => ?_)
  have tk := takes_of (X := cxOf (CX P w) P w K mg base ["self", "other"] "Day.__eq__" (defScope s_Dayw_eqw) (He.ma K (He.ga K "Day") "__eq__") cdv A outer s H E) rfl rfl rfl rfl
  have hp := passes_of (X := cxOf (CX P w) P w K mg base ["self", "other"] "Day.__eq__" (defScope s_Dayw_eqw) (He.ma K (He.ga K "Day") "__eq__") cdv A outer s H E) rfl
  exact (jss_one (js_ret (je_and (je_isO (je_var 1) X.i_Day X.n_isinstance X.g_Day) (je_one (je_cmp (op_eqD hr.units) lift_eqD (je_strT (str_cons (c := 10) (ok_Dayw_strw X) X.m_Dayw_strw (hr.mono (by decide)) str_nil) X.n_str (ja_cons (je_var 0) ja_nil)) (je_strT (str_cons (c := 10) (ok_Dayw_strw X) X.m_Dayw_strw (hr.mono (by decide)) str_nil) X.n_str (ja_cons (je_var 1) ja_nil)))))))
theorem ok_Dayw_eqw (X : Tx P w tb K mg) : Callee (TB P w tb) P w K mg base 4 (He.ma K (He.ga K "Day") "__eq__") ["self", "other"] f_Dayw_eqw [] := by
  obtain ⟨fd, FD⟩ := X.d_Dayw_eqw
  exact ⟨fd, [], fo_Dayw_eqw X FD, FD.kp, .nil, FD.bindsN fun _ _ _ _ _ _ us hl => match us, hl with | [_, _], _ => rfl⟩
theorem nf_Day_having : ("having" : Str) ∉ TBf 10 := by decide +kernel
theorem fo_Day_having (X : Tx P w tb K mg) {fd : FuncData} (FD : FunD K "having" "Day.having" (defArgs s_Day_having) (defBody s_Day_having) (defScope s_Day_having) [] [] (He.ma K (He.ga K "Day") "having") fd) : FnG P w K mg base (CX P w) 7 (He.ma K (He.ga K "Day") "having") fd ["self", "meeting"] (spF (TB P w tb) K f_Day_having) := by
  refine fn_ok FD sc_Day_having (fun cdv A outer s H E hr => ?_)
  have tk := takes_of (X := cxOf (CX P w) P w K mg base ["self", "meeting", "ahead", "one"] "Day.having" (defScope s_Day_having) (He.ma K (He.ga K "Day") "having") cdv A outer s H E) rfl rfl rfl rfl
  have hp := passes_of (X := cxOf (CX P w) P w K mg base ["self", "meeting", "ahead", "one"] "Day.having" (defScope s_Day_having) (He.ma K (He.ga K "Day") "having") cdv A outer s H E) rfl
  exact (jss_cons (js_if (jt_not (jt_val (jc_P (ok_is_meeting X) (hr.mono (by decide)) X.g_is_meeting Dfl.nil tk (ja_cons (je_var 1) ja_nil))))
 (jss_one (js_raise rfl X.xc_InvalidDay X.g_InvalidDay hr tk (je_str [109, 101, 101, 116, 105, 110, 103, 115])))
 jss_nil)
 (jss_cons (js_setLcF 2 [("one", 3)] rfl sc_Day_having.nd (ji_any (je_attr (je_var 0) (AttOk.cons rfl X.k_Day AttOk.nil))) (blkOk_by (N := ["self", "meeting", "ahead", "one"]) (sc := defScope s_Day_having) (by decide +kernel)) (by decide) (fun _ _ _ _ _ => (jgw_name 3 sc_Day_having.nd)) (fun _ _ _ _ _ => (jts_one (jt_cmp op_lt' lift_lt (je_ixX rfl hr.units (je_var 3) je_int) (je_ixX rfl hr.units (je_var 1) je_int)))) (fun _ _ _ _ _ => (je_var 3)))
 (jss_one (js_ret (jc_K nr_Day_init X.mk_Day (ok_Day_init X) (hr.mono (by decide)) X.g_Day Dfl.nil tk (ja_cons (je_attr (je_var 0) (AttOk.cons rfl X.k_Day AttOk.nil)) (ja_cons (je_tup (ja_star (je_var 2) (ja_cons (je_var 1) (ja_star (je_slice (je_attr (je_var 0) (AttOk.cons rfl X.k_Day AttOk.nil)) (jo_some (je_callB call_lenX lift_lenX X.n_len (ja_cons (je_var 2) ja_nil))) jo_none) ja_nil)))) ja_nil)))))))
theorem ok_Day_having (X : Tx P w tb K mg) : Callee (TB P w tb) P w K mg base 7 (He.ma K (He.ga K "Day") "having") ["self", "meeting"] f_Day_having [] := by
  obtain ⟨fd, FD⟩ := X.d_Day_having
  exact ⟨fd, [], fo_Day_having X FD, FD.kp, .nil, FD.bindsN fun _ _ _ _ _ _ us hl => match us, hl with | [_, _], _ => rfl⟩
theorem give_Lheard (X : Tx P w tb K mg) {N : List Str} {q0 : Str} {scp : Scope} {f : Addr} {cdv : Value} {A : Around} {outer : List Env} {s : Shared} {H : Hp} {E : XK} {cdg : Value} {qq : Str} (hr : RoomG 4 (A.deeper (envOfC q0 scp s.heap.objs.size f cdv))) : LamX.GivesTo (cxOf (CX P w) P w K mg base N q0 scp f cdv A outer s H E) ["_law_look", "_law_heard_here", "e"] "_law_heard" (defScope s_Lheard) (He.ga K "_law_heard") cdg (defBody s_Lheard) "_law_look" qq (TTH (TB P w tb) K [1, 4, 9] h_Lheard [(10, f_Dayw_strw)]) :=
  heard_gives sc_Lheard.nd rfl rfl rfl X.n_str X.em (by decide) (by decide) (fun s H pn xe => (str_cons (c := 10) (ok_Dayw_strw X) X.m_Dayw_strw ((hr.deeper _).mono (by decide)) str_nil)) (fun s H => (.nm (k := 9) X.g_NoMeeting rfl rfl (fun a oe cls d pn hz hf => (jhs_set 1 sc_Lheard.nd (jh_if (jht_w (jhw_and (jht_val (jh_isE X.xc_NoMeeting hz hf X.n_isinstance (pe_bltn (v := .ty "IndexError") rfl X.n_IndexError (by decide +kernel) rfl) (fun _ h => h) X.kt_NoMeeting_IndexError)) (jhw_one (jht_not (jht_val (jh_isE X.xc_NoMeeting hz hf X.n_isinstance (pe_glob (v := .ref (He.ga K "DimError")) rfl X.g_DimError rfl) (fun _ h => h) X.kt_NoMeeting_DimError)))))) (jh_tup2 (jh_of (je_str [110, 111, 110, 101])) (jh_fld X.xc_NoMeeting hz hf)) (jh_of je_non)))) (.nm (k := 1) X.g_InvalidDay rfl rfl (fun a oe cls d pn hz hf => (jhs_set 1 sc_Lheard.nd (jh_op op_plus lift_plus (jh_of (je_str [33])) (jh_fld X.xc_InvalidDay hz hf)))) .nil))) (hm_nm (by decide) (hm_nm (by decide) (fun p hp => nomatch hp))) (fun _ _ _ _ => rfl) (fun _ _ => rfl) (fun _ _ _ _ => rfl)
theorem fo_Lday_text (X : Tx P w tb K mg) {fd : FuncData} (FD : FunD K "_law_day_text" "_law_day_text" (defArgs s_Lday_text) (defBody s_Lday_text) (defScope s_Lday_text) [] [] (He.ga K "_law_day_text") fd) : FnG P w K mg base (CX P w) 1 (He.ga K "_law_day_text") fd ["_law_day_here"] (spF (TB P w tb) K f_Lday_text) := by
  refine fn_ok FD sc_Lday_text (fun cdv A outer s H E hr => ?_)
  have tk := takes_of (X := cxOf (CX P w) P w K mg base ["_law_day_here", "_law_texts", "_law_begin", "_law_end", "_law_secret"] "_law_day_text" (defScope s_Lday_text) (He.ga K "_law_day_text") cdv A outer s H E) rfl rfl rfl rfl
  have hp := passes_of (X := cxOf (CX P w) P w K mg base ["_law_day_here", "_law_texts", "_law_begin", "_law_end", "_law_secret"] "_law_day_text" (defScope s_Lday_text) (He.ga K "_law_day_text") cdv A outer s H E) rfl
  exact (jss_cons (js_setLcF 1 [("_law_begin", 2), ("_law_end", 3), ("_law_secret", 4)] rfl sc_Lday_text.nd (ji_any (je_ixX rfl hr.units (je_var 0) je_int)) (blkOk_by (N := ["_law_day_here", "_law_texts", "_law_begin", "_law_end", "_law_secret"]) (sc := defScope s_Lday_text) (by decide +kernel)) (by decide) (fun _ _ _ _ _ => (jgw_tup rfl (jgsw_cons (jgw_name 2 sc_Lday_text.nd) (jgsw_cons (jgw_name 3 sc_Lday_text.nd) (jgsw_cons (jgw_name 4 sc_Lday_text.nd) jgsw_nil))))) (fun _ _ _ _ _ => jts_nil) (fun _ _ _ _ _ => (je_op op_plus lift_plus (je_op op_plus lift_plus (je_op op_plus lift_plus (je_strT str_nil X.n_str (ja_cons (je_var 2) ja_nil)) (je_str [45])) (je_strT str_nil X.n_str (ja_cons (je_var 3) ja_nil))) (je_if (jt_val (je_var 4)) (je_str [32, 112, 114, 105, 118, 97, 116, 101]) (je_str [])))))
 (jss_one (js_ret (je_op op_plus lift_plus (je_op op_plus lift_plus (je_strT str_nil X.n_str (ja_cons (je_ixX rfl hr.units (je_var 0) je_int) ja_nil)) (je_str [58, 32])) (je_if (jt_cmp (op_neE hr.units) lift_neE (je_var 1) (je_lstF ja_nil)) (je_bm PySem.F.plainAttrs_str PySem.F.slot_str_join PySem.F.type_str_join mt_join lift_join (je_str [44, 32]) (ja_cons (je_var 1) ja_nil)) (je_str [45]))))))
theorem ok_Lday_text (X : Tx P w tb K mg) : Callee (TB P w tb) P w K mg base 1 (He.ga K "_law_day_text") ["_law_day_here"] f_Lday_text [] := by
  obtain ⟨fd, FD⟩ := X.d_Lday_text
  exact ⟨fd, [], fo_Lday_text X FD, FD.kp, .nil, FD.bindsN fun _ _ _ _ _ _ us hl => match us, hl with | [_], _ => rfl⟩
theorem fo_law (X : Tx P w tb K mg) {fd : FuncData} (FD : FunD K "law" "law" (defArgs s_law) (defBody s_law) (defScope s_law) [] [] (He.ga K "law") fd) {ca : Addr} (hc : fd.code = .ref ca) (TBc : LamX.TabB base mg ca tb) : FnG P w K mg base (CX P w) 10 (He.ga K "law") fd ["_law_script"] (spF (TB P w tb) K f_law) := by
  refine fn_okLam FD sc_law hc (fun A outer s H E hr => ?_)
  have tk := takes_of (X := cxOf (CX P w) P w K mg base ["_law_script", "_law_k", "_law_box", "_law_turn", "_law_size", "_law_meetings", "_law_day_here", "_law_at", "_law_less", "_law_begin", "_law_fresh", "_law_over", "_law_due", "_law_ahead", "_law_value", "_law_one"] "law" (defScope s_law) (He.ga K "law") (.ref ca) A outer s H E) rfl rfl rfl rfl
  have hp := passes_of (X := cxOf (CX P w) P w K mg base ["_law_script", "_law_k", "_law_box", "_law_turn", "_law_size", "_law_meetings", "_law_day_here", "_law_at", "_law_less", "_law_begin", "_law_fresh", "_law_over", "_law_due", "_law_ahead", "_law_value", "_law_one"] "law" (defScope s_law) (He.ga K "law") (.ref ca) A outer s H E) rfl
  exact (jss_cons (js_for hp rfl (ji_range1 rfl X.n_range (ja_cons (je_callB (call_max2 rfl) lift_max2 X.n_max (ja_cons je_int (ja_cons (je_callB (call_min2 rfl) lift_min2 X.n_min (ja_cons je_int (ja_cons (je_callB call_lenX lift_lenX X.n_len (ja_cons (je_var 0) ja_nil)) ja_nil))) ja_nil))) ja_nil)) (jg_name 1 sc_law.nd)
 (jss_cons (js_set 2 sc_law.nd (jc_O (ok_Lseed X) (hr.mono (by decide)) X.g_Lseed Dfl.nil tk (ja_cons (je_var 0) (ja_cons (je_var 1) ja_nil))))
 (jss_one (js_for hp rfl (ji_range1 rfl X.n_range (ja_cons je_int ja_nil)) (jg_name 3 sc_law.nd)
 (jss_cons (js_asg (jc_B (ok_Lday X) (hr.mono (by decide)) X.g_Lday Dfl.nil tk (ja_cons (je_var 2) (ja_cons je_int (ja_cons je_bl ja_nil)))) (jg_tup rfl (jgs_cons (jg_name 4 sc_law.nd) (jgs_cons (jg_name 5 sc_law.nd) jgs_nil))))
 (jss_cons (js_set 6 sc_law.nd (jc_K nr_Day_init X.mk_Day (ok_Day_init X) (hr.mono (by decide)) X.g_Day Dfl.nil tk (ja_cons (je_var 4) (ja_cons (je_var 5) ja_nil))))
 (jss_cons (js_for hp rfl (ji_range1 rfl X.n_range (ja_cons (je_callB call_lenX lift_lenX X.n_len (ja_cons (je_var 5) ja_nil)) ja_nil)) (jg_name 7 sc_law.nd)
 (jss_cons (js_set 8 sc_law.nd (jc_M (je_var 6) X.k_Day X.m_Day_withoutX nf_Day_withoutX (ok_Day_withoutX X) (hr.mono (by decide)) Dfl.nil tk (ja_cons (je_var 7) ja_nil)))
 (jss_cons (js_if (jt_w (jw_or (jt_neT (eq_cons (c := 10) (ok_Dayw_eqw X) X.m_Dayw_eqw X.t_Day.ne X.t_Day.ob (hr.mono (by decide)) (eq_nil hr.units)) (je_var 8) (jc_K nr_Day_init X.mk_Day (ok_Day_init X) (hr.mono (by decide)) X.g_Day Dfl.nil tk (ja_cons (je_var 4) (ja_cons (je_op op_plusA lift_plusA (je_slice (je_var 5) jo_none (jo_some (je_var 7))) (je_slice (je_var 5) (jo_some (je_op op_plus lift_plus (je_var 7) je_int)) jo_none)) ja_nil)))) (jw_one (jt_cmp (op_neD hr.units) lift_neD (je_ixO (c := 10) (ok_Dayw_getitemwX X) X.m_Dayw_getitemwX X.f_Dayw_getitemwX (hr.mono (by decide)) (je_var 6) (je_var 7)) (je_ixX rfl hr.units (je_var 5) (je_var 7))))))
 (jss_one (js_ret je_bl))
 jss_nil)
 (jss_one (js_if (jt_neT (eq_cons (c := 10) (ok_Dayw_eqw X) X.m_Dayw_eqw X.t_Day.ne X.t_Day.ob (hr.mono (by decide)) (eq_nil hr.units)) (jc_M (je_var 8) X.k_Day X.m_Day_having nf_Day_having (ok_Day_having X) (hr.mono (by decide)) Dfl.nil tk (ja_cons (je_ixX rfl hr.units (je_var 5) (je_var 7)) ja_nil)) (je_var 6))
 (jss_one (js_ret je_bl))
 jss_nil)))))
 (jss_cons (js_for hp rfl (ji_any (je_tup (ja_cons (je_op op_sub lift_sub je_int je_int) (ja_cons (je_callB call_lenX lift_lenX X.n_len (ja_cons (je_var 5) ja_nil)) (ja_cons (je_op op_plus lift_plus (je_callB call_lenX lift_lenX X.n_len (ja_cons (je_var 5) ja_nil)) je_int) (ja_cons (je_op op_pow lift_pow je_int je_int) ja_nil)))))) (jg_name 7 sc_law.nd)
 (jss_cons (js_if (jt_cmp (op_neD hr.units) lift_neD (je_heard (lam := "law.<locals>.<lambda>") 7 X.d_Lheard X.g_Lheard sc_Lheard rfl (.inl rfl) (fun _ _ _ _ _ _ us hl => match us, hl with | [_], _ => rfl) (fun cdg => give_Lheard X (hr.mono (by decide))) TBc rfl (by kernel_rfl) rfl (hr.mono (by decide)) (by kernel_rfl) rfl (fun _ _ _ _ _ => rfl) (fun _ _ _ _ _ _ _ hr tk => (jc_M (je_var 6) X.k_Day X.m_Day_withoutX nf_Day_withoutX (ok_Day_withoutX X) (hr.mono (by decide)) Dfl.nil tk (ja_cons (je_var 7) ja_nil)))) (je_tup (ja_cons (je_str [110, 111, 110, 101]) (ja_cons (je_var 7) ja_nil))))
 (jss_one (js_ret je_bl))
 jss_nil)
 (jss_one (js_if (jt_cmp (op_neD hr.units) lift_neD (je_heard (lam := "law.<locals>.<lambda>") 4 X.d_Lheard X.g_Lheard sc_Lheard rfl (.inl rfl) (fun _ _ _ _ _ _ us hl => match us, hl with | [_], _ => rfl) (fun cdg => give_Lheard X (hr.mono (by decide))) TBc rfl (by kernel_rfl) rfl (hr.mono (by decide)) (by kernel_rfl) rfl (fun _ _ _ _ _ => rfl) (fun _ _ _ _ _ _ _ hr tk => (je_ixOT (c := 10) (ok_Dayw_getitemwX X) X.m_Dayw_getitemwX X.f_Dayw_getitemwX (hr.mono (by decide)) tk (je_var 6) (je_var 7)))) (je_tup (ja_cons (je_str [110, 111, 110, 101]) (ja_cons (je_var 7) ja_nil))))
 (jss_one (js_ret je_bl))
 jss_nil))))
 (jss_cons (js_set 9 sc_law.nd (jc_B (ok_Lchoose X) (hr.mono (by decide)) X.g_Lchoose Dfl.nil tk (ja_cons (je_var 2) (ja_cons (je_op op_plus lift_plus (je_var 4) je_int) ja_nil))))
 (jss_cons (js_set 10 sc_law.nd (je_tup (ja_cons (je_var 9) (ja_cons (je_op op_plus lift_plus (je_op op_plus lift_plus (je_var 9) je_int) (jc_B (ok_Lchoose X) (hr.mono (by decide)) X.g_Lchoose Dfl.nil tk (ja_cons (je_var 2) (ja_cons je_int ja_nil)))) (ja_cons (je_cmp (op_eqD hr.units) lift_eqD (jc_B (ok_Lchoose X) (hr.mono (by decide)) X.g_Lchoose Dfl.nil tk (ja_cons (je_var 2) (ja_cons je_int ja_nil))) je_int) ja_nil)))))
 (jss_cons (js_setLcF 11 [("_law_one", 15)] rfl sc_law.nd (ji_any (je_var 5)) (blkOk_by (N := ["_law_script", "_law_k", "_law_box", "_law_turn", "_law_size", "_law_meetings", "_law_day_here", "_law_at", "_law_less", "_law_begin", "_law_fresh", "_law_over", "_law_due", "_law_ahead", "_law_value", "_law_one"]) (sc := defScope s_law) (by decide +kernel)) (by decide) (fun _ _ _ _ _ => (jgw_name 15 sc_law.nd)) (fun _ _ _ _ _ => (jts_one (jt_w (jw_and (jt_cmp op_lt' lift_lt (je_ixX rfl hr.units (je_var 15) je_int) (je_ixX rfl hr.units (je_var 10) je_int)) (jw_one (jt_cmp op_lt' lift_lt (je_ixX rfl hr.units (je_var 10) je_int) (je_ixX rfl hr.units (je_var 15) je_int))))))) (fun _ _ _ _ _ => (je_var 15)))
 (jss_cons (js_set 12 sc_law.nd (je_str [33, 109, 101, 101, 116, 105, 110, 103, 115]))
 (jss_cons (js_if (jt_w (jw_and (jt_cmp (op_eqE hr.units) lift_eqE (je_var 11) (je_lstF ja_nil)) (jw_one (jt_cmp op_le' lift_le (je_ixX rfl hr.units (je_var 10) je_int) (je_var 4)))))
 (jss_cons (js_setLcF 13 [("_law_one", 15)] rfl sc_law.nd (ji_any (je_var 5)) (blkOk_by (N := ["_law_script", "_law_k", "_law_box", "_law_turn", "_law_size", "_law_meetings", "_law_day_here", "_law_at", "_law_less", "_law_begin", "_law_fresh", "_law_over", "_law_due", "_law_ahead", "_law_value", "_law_one"]) (sc := defScope s_law) (by decide +kernel)) (by decide) (fun _ _ _ _ _ => (jgw_name 15 sc_law.nd)) (fun _ _ _ _ _ => (jts_one (jt_cmp op_lt' lift_lt (je_ixX rfl hr.units (je_var 15) je_int) (je_var 9)))) (fun _ _ _ _ _ => (je_var 15)))
 (jss_one (js_set 12 sc_law.nd (jc_P (ok_Lday_text X) (hr.mono (by decide)) X.g_Lday_text Dfl.nil tk (ja_cons (je_tup (ja_cons (je_var 4) (ja_cons (je_op op_plusA lift_plusA (je_op op_plusA lift_plusA (je_var 13) (je_lstF (ja_cons (je_var 10) ja_nil))) (je_slice (je_var 5) (jo_some (je_callB call_lenX lift_lenX X.n_len (ja_cons (je_var 13) ja_nil))) jo_none)) ja_nil))) ja_nil)))))
 jss_nil)
 (jss_cons (js_if (jt_cmp (op_neD hr.units) lift_neD (je_heard (lam := "law.<locals>.<lambda>") 7 X.d_Lheard X.g_Lheard sc_Lheard rfl (.inl rfl) (fun _ _ _ _ _ _ us hl => match us, hl with | [_], _ => rfl) (fun cdg => give_Lheard X (hr.mono (by decide))) TBc rfl (by kernel_rfl) rfl (hr.mono (by decide)) (by kernel_rfl) rfl (fun _ _ _ _ _ => rfl) (fun _ _ _ _ _ _ _ hr tk => (jc_M (je_var 6) X.k_Day X.m_Day_having nf_Day_having (ok_Day_having X) (hr.mono (by decide)) Dfl.nil tk (ja_cons (je_var 10) ja_nil)))) (je_var 12))
 (jss_one (js_ret je_bl))
 jss_nil)
 (jss_cons (js_set 14 sc_law.nd (jc_B (ok_Lone_of X) (hr.mono (by decide)) X.g_Lone_of Dfl.nil tk (ja_cons (je_var 2) (ja_cons (je_lstF (ja_cons je_non (ja_cons (je_str [50, 45, 53]) (ja_cons (je_tup (ja_cons je_int (ja_cons je_int ja_nil))) (ja_cons (je_lstF (ja_cons je_int (ja_cons je_int (ja_cons je_bl ja_nil)))) (ja_cons (je_tup (ja_cons je_int (ja_cons je_int (ja_cons je_bl ja_nil)))) (ja_cons (je_tup (ja_cons je_int (ja_cons je_int (ja_cons je_int ja_nil)))) (ja_cons je_int (ja_cons (je_tup ja_nil) (ja_cons (je_var 6) ja_nil)))))))))) ja_nil))))
 (jss_one (js_if (jt_w (jw_or (jt_cmp (op_neD hr.units) lift_neD (je_heard (lam := "law.<locals>.<lambda>") 7 X.d_Lheard X.g_Lheard sc_Lheard rfl (.inl rfl) (fun _ _ _ _ _ _ us hl => match us, hl with | [_], _ => rfl) (fun cdg => give_Lheard X (hr.mono (by decide))) TBc rfl (by kernel_rfl) rfl (hr.mono (by decide)) (by kernel_rfl) rfl (fun _ _ _ _ _ => rfl) (fun _ _ _ _ _ _ _ hr tk => (jc_M (je_var 6) X.k_Day X.m_Day_having nf_Day_having (ok_Day_having X) (hr.mono (by decide)) Dfl.nil tk (ja_cons (je_var 14) ja_nil)))) (je_str [33, 109, 101, 101, 116, 105, 110, 103, 115])) (jw_one (jt_cmp (op_neD hr.units) lift_neD (je_strT (str_cons (c := 10) (ok_Dayw_strw X) X.m_Dayw_strw (hr.mono (by decide)) str_nil) X.n_str (ja_cons (je_var 6) ja_nil)) (jc_P (ok_Lday_text X) (hr.mono (by decide)) X.g_Lday_text Dfl.nil tk (ja_cons (je_tup (ja_cons (je_var 4) (ja_cons (je_var 5) ja_nil))) ja_nil))))))
 (jss_one (js_ret je_bl))
 jss_nil)))))))))))))))))
 (jss_one (js_ret je_bl)))
end
theorem facts {K : PySem.W.Frag} {h : Heap} {mg : Str → Option Value} (X : K.In h) {P : Program} {w : World} {tb : Addr} (G : h.Ns mainGlobals mg) (c : SaysP chk fn K) (hP : P.main.file = xfile) (hS : (P.main.scope.names.lookup ("super" : Str)).isSome = false) : Tx P w tb K mg := by
  obtain ⟨cT, c00⟩ := He.ba c.both.1
  obtain ⟨c1, c0⟩ := He.ba c00
  obtain ⟨c2, c0⟩ := He.ba c0
  obtain ⟨c3, c0⟩ := He.ba c0
  obtain ⟨c4, c0⟩ := He.ba c0
  obtain ⟨c5, c0⟩ := He.ba c0
  obtain ⟨c6, c0⟩ := He.ba c0
  obtain ⟨c7, c0⟩ := He.ba c0
  obtain ⟨c8, c0⟩ := He.ba c0
  obtain ⟨c9, c0⟩ := He.ba c0
  obtain ⟨c10, c0⟩ := He.ba c0
  obtain ⟨c11, c0⟩ := He.ba c0
  obtain ⟨c12, c0⟩ := He.ba c0
  obtain ⟨c13, c0⟩ := He.ba c0
  obtain ⟨c14, c15⟩ := He.ba c0
  exact {
    n_IndexError := He.free_ok X G (all_at c1 (i := 0) (a := .free "IndexError") rfl),
    n_abs := He.free_ok X G (all_at c1 (i := 1) (a := .free "abs") rfl),
    n_all := He.free_ok X G (all_at c1 (i := 2) (a := .free "all") rfl),
    n_bool := He.free_ok X G (all_at c1 (i := 3) (a := .free "bool") rfl),
    n_int := He.free_ok X G (all_at c1 (i := 4) (a := .free "int") rfl),
    n_isinstance := He.free_ok X G (all_at c1 (i := 5) (a := .free "isinstance") rfl),
    n_len := He.free_ok X G (all_at c1 (i := 6) (a := .free "len") rfl),
    n_list := He.free_ok X G (all_at c1 (i := 7) (a := .free "list") rfl),
    n_max := He.free_ok X G (all_at c1 (i := 8) (a := .free "max") rfl),
    n_min := He.free_ok X G (all_at c1 (i := 9) (a := .free "min") rfl),
    n_range := He.free_ok X G (all_at c1 (i := 10) (a := .free "range") rfl),
    n_str := He.free_ok X G (all_at c1 (i := 11) (a := .free "str") rfl),
    n_tuple := He.free_ok X G (all_at c1 (i := 12) (a := .free "tuple") rfl),
    g_Lseed := He.glo_ok X G (all_at c1 (i := 13) (a := .glo "_law_seed") rfl),
    g_Lchoose := He.glo_ok X G (all_at c1 (i := 14) (a := .glo "_law_choose") rfl),
    g_Lone_of := He.glo_ok X G (all_at c1 (i := 15) (a := .glo "_law_one_of") rfl),
    g_Lday := He.glo_ok X G (all_at c1 (i := 16) (a := .glo "_law_day") rfl),
    g_is_integer := He.glo_ok X G (all_at c1 (i := 17) (a := .glo "is_integer") rfl),
    g_InvalidDay := He.glo_ok X G (all_at c1 (i := 18) (a := .glo "InvalidDay") rfl),
    g_is_bool := He.glo_ok X G (all_at c1 (i := 19) (a := .glo "is_bool") rfl),
    g_is_number := He.glo_ok X G (all_at c1 (i := 20) (a := .glo "is_number") rfl),
    g_is_meeting := He.glo_ok X G (all_at c1 (i := 21) (a := .glo "is_meeting") rfl),
    g_is_sequence := He.glo_ok X G (all_at c1 (i := 22) (a := .glo "is_sequence") rfl),
    g_are_meetings := He.glo_ok X G (all_at c1 (i := 23) (a := .glo "are_meetings") rfl),
    g_Day := He.glo_ok X G (all_at c1 (i := 24) (a := .glo "Day") rfl),
    g_NoMeeting := He.glo_ok X G (all_at c1 (i := 25) (a := .glo "NoMeeting") rfl),
    g_InvalidText := He.glo_ok X G (all_at c1 (i := 26) (a := .glo "InvalidText") rfl),
    g_DimError := He.glo_ok X G (all_at c1 (i := 27) (a := .glo "DimError") rfl),
    g_Lheard := He.glo_ok X G (all_at c1 (i := 28) (a := .glo "_law_heard") rfl),
    g_Lday_text := He.glo_ok X G (all_at c1 (i := 29) (a := .glo "_law_day_text") rfl),
    c_ENDING := gk_str X G (all_at c1 (i := 30) (a := .str "ENDING" ⟨([32, 112, 114, 105, 118, 97, 116, 101] : List Nat).toArray⟩) rfl),
    k_Day := cf_of (all_at c3 (i := 0) (a := 10) rfl) (show (TBf 10).Nodup by decide +kernel) (show (TBf 10).length < 1000 by decide +kernel),
    m_Day_need_indexX := meth_of (all_at c1 (i := 31) (a := .meth "Day" "need_index") rfl),
    m_Day_withoutX := meth_of (all_at c1 (i := 32) (a := .meth "Day" "without") rfl),
    m_Dayw_getitemwX := meth_of (all_at c1 (i := 33) (a := .meth "Day" "__getitem__") rfl),
    m_Dayw_strw := meth_of (all_at c1 (i := 34) (a := .meth "Day" "__str__") rfl),
    m_Dayw_eqw := meth_of (all_at c1 (i := 35) (a := .meth "Day" "__eq__") rfl),
    m_Day_having := meth_of (all_at c1 (i := 36) (a := .meth "Day" "having") rfl),
    f_Dayw_getitemwX := all_at c9 (i := 0) (a := fun K => He.ma K (He.ga K "Day") "__getitem__") rfl,
    t_Day := cty_of (all_at c5 (i := 0) (a := "Day") rfl),
    i_Day := is_of (all_at c6 (i := 0) (a := ("Day", is_Day)) rfl),
    mk_Day := mk_of (all_at c1 (i := 37) (a := .mkr "Day") rfl),
    ko := ko_all (fun n => rfl) c12,
    xc_InvalidDay := xc_of hP hS rfl rfl (all_at c13 (i := 0) (a := ("InvalidDay", "word")) rfl),
    xc_NoMeeting := xc_of hP hS rfl rfl (all_at c13 (i := 1) (a := ("NoMeeting", "at")) rfl),
    em := em_of c14,
    kt_NoMeeting_DimError := of_decide_eq_true (all_at c15 (i := 0) rfl),
    kt_NoMeeting_IndexError := of_decide_eq_true (all_at c15 (i := 1) rfl),
    d_Lseed := c.def_ 0 (d := D_Lseed) rfl,
    d_Lchoose := c.def_ 1 (d := D_Lchoose) rfl,
    d_Lone_of := c.def_ 2 (d := D_Lone_of) rfl,
    d_Lday := c.def_ 3 (d := D_Lday) rfl,
    d_is_integer := c.def_ 4 (d := D_is_integer) rfl,
    d_is_bool := c.def_ 5 (d := D_is_bool) rfl,
    d_is_number := c.def_ 6 (d := D_is_number) rfl,
    d_is_meeting := c.def_ 7 (d := D_is_meeting) rfl,
    d_is_sequence := c.def_ 8 (d := D_is_sequence) rfl,
    d_are_meetings := c.def_ 9 (d := D_are_meetings) rfl,
    d_Day_init := c.def_ 10 (d := D_Day_init) rfl,
    d_Day_need_indexX := c.def_ 11 (d := D_Day_need_indexX) rfl,
    d_Day_withoutX := c.def_ 12 (d := D_Day_withoutX) rfl,
    d_Dayw_getitemwX := c.def_ 13 (d := D_Dayw_getitemwX) rfl,
    d_Dayw_strw := c.def_ 14 (d := D_Dayw_strw) rfl,
    d_Dayw_eqw := c.def_ 15 (d := D_Dayw_eqw) rfl,
    d_Day_having := c.def_ 16 (d := D_Day_having) rfl,
    d_Lheard := c.def_ 17 (d := D_Lheard) rfl,
    d_Lday_text := c.def_ 18 (d := D_Lday_text) rfl,
    d_law := c.def_ 19 (d := D_law) rfl }
theorem ends (ok : ∀ ns : List Int, ns.length ≤ 63 → (∀ z ∈ ns, Builtin.Int.intBits z ≤ 1048576) → ∃ h', f_law [] [.lst (ns.map Val.int)] = .ok (.bl true) h') : PySem.Challenge.rw_dimdays_k05_days_with_one_meeting_more_o.Holds := by
  w_on; o_law
  refine HandSHeadRun.head_any (r := PySem.W.OpenLaw.row PySem.Challenge.rw_dimdays_k05_days_with_one_meeting_more_o) (q := PySem.W.view (PySem.W.OpenLaw.row PySem.Challenge.rw_dimdays_k05_days_with_one_meeting_more_o).prog [28]) (H := hk) (ob := ob) (M := 60000) (loose := names) (d := HandSHeadRun.topDef (PySem.W.OpenLaw.row PySem.Challenge.rw_dimdays_k05_days_with_one_meeting_more_o).prog 28) (kwd := []) ob_eq
    (by kernel_rfl) (fun s => by kernel_rfl) run (by kernel_rfl) (by kernel_rfl) (by kernel_rfl) (by rfl) (by first | assumption | decide +kernel) (by decide +kernel) ⟨rfl, rfl, rfl, rfl, rfl, by decide +kernel⟩ ?hw ?hc
  case hw => w_witness2
  case hc =>
    refine law_endT (l := PySem.Challenge.rw_dimdays_k05_days_with_one_meeting_more_o) (k := 10) (T := TB PySem.Challenge.rw_dimdays_k05_days_with_one_meeting_more_o.prog) (fl := f_law) (lam := "law.<locals>.<lambda>") (fun _ _ => rfl) rfl (by kernel_rfl) ⟨⟨rfl, by decide, by decide⟩, rfl⟩ (by kernel_rfl) ?F ok
    intro w mg fa h Y G hmg0
    obtain ⟨K, KX, c⟩ := Y
    have nm : (HandSHeadRun.topDef (PySem.W.OpenLaw.row PySem.Challenge.rw_dimdays_k05_days_with_one_meeting_more_o).prog 28).name = ("law" : PySem.Str) := by kernel_rfl
    have hmg : mg ("law" : PySem.Str) = some (.ref fa) := by
      rw [← nm]
      exact hmg0
    obtain ⟨ca, tb, ht, nT⟩ := tabFree_ok (He.ba c.both.1).1
    have T := facts (P := PySem.Challenge.rw_dimdays_k05_days_with_one_meeting_more_o.prog) (w := w) (tb := tb) KX G c (by kernel_rfl) (by kernel_rfl)
    obtain ⟨fd, FD⟩ := T.d_law
    have e := hmg.symm.trans (He.glo_ok KX G (all_at (He.ba (He.ba c.both.1).2).1 (i := 38) (a := .glo "law") rfl))
    cases e
    exact ⟨K, fd, ca, tb, KX, by rw [nm]; exact ht, nT, fun s u => FD.bindsA (ps := ["_law_script"]) (fun _ _ _ _ _ _ us hl => match us, hl with | [_], _ => rfl) s [u] rfl, fun base _ _ TBc => fo_law T FD (fun_code FD ht) TBc⟩
end Law
namespace Py
open PySem
def ResS.seq (r : ResS) (k : Sg → Hh → ResS) : ResS := match r with
  | .next sg1 h1 => k sg1 h1
  | r => r
def ResS.fin : ResS → Res
  | .ret v h' => .ok v h'
  | .next _ h' => .ok .non h'
  | .exc c fs _ h' => .exc c fs h'
  | _ => .bad
def getS (o : Option (Option Val)) (h : Hh) : Res := match o with
  | some (some v) => .ok v h
  | _ => .bad
def ResI.loop (r : ResI) (body : Val → Sg → Hh → ResS) (sg : Sg) : ResS := match r with
  | .ok (.items vs) h1 => forItems body vs sg h1
  | .ok (.ref k) h1 => forRef body k 1000000 0 sg h1
  | .exc c fs h1 => .exc c fs sg h1
  | .bad => .bad
section
variable {sg sg1 : Sg} {h h1 : Hh} {v u : Val} {c : Nat} {fs : List Val}
@[simp] theorem seq_next (k : Sg → Hh → ResS) : (ResS.next sg h).seq k = k sg h := rfl
@[simp] theorem seq_ret (k : Sg → Hh → ResS) : (ResS.ret v h).seq k = .ret v h := rfl
@[simp] theorem seq_brk (k : Sg → Hh → ResS) : (ResS.brk sg h).seq k = .brk sg h := rfl
@[simp] theorem seq_cont (k : Sg → Hh → ResS) : (ResS.cont sg h).seq k = .cont sg h := rfl
@[simp] theorem seq_exc (k : Sg → Hh → ResS) : (ResS.exc c fs sg h).seq k = .exc c fs sg h := rfl
@[simp] theorem seq_bad (k : Sg → Hh → ResS) : (ResS.bad).seq k = .bad := rfl
@[simp] theorem fin_next : (ResS.next sg h).fin = .ok .non h := rfl
@[simp] theorem fin_ret : (ResS.ret v h).fin = .ok v h := rfl
@[simp] theorem fin_exc : (ResS.exc c fs sg h).fin = .exc c fs h := rfl
@[simp] theorem fin_bad : (ResS.bad).fin = .bad := rfl
@[simp] theorem getS_some : getS (some (some v)) h = .ok v h := rfl
@[simp] theorem rb_ok (k : Val → Hh → Res) : (Res.ok v h).bind k = k v h := rfl
@[simp] theorem rb_exc (k : Val → Hh → Res) : (Res.exc c fs h).bind k = .exc c fs h := rfl
@[simp] theorem rb_bad (k : Val → Hh → Res) : (Res.bad).bind k = .bad := rfl
@[simp] theorem rs_ok (k : Val → Hh → ResS) : (Res.ok v h).bindS sg k = k v h := rfl
@[simp] theorem rs_exc (k : Val → Hh → ResS) : (Res.exc c fs h).bindS sg k = .exc c fs sg h := rfl
@[simp] theorem rs_bad (k : Val → Hh → ResS) : (Res.bad).bindS sg k = .bad := rfl
@[simp] theorem rl_ok (k : Val → Hh → ResL) : (Res.ok v h).bindL k = k v h := rfl
@[simp] theorem rl_exc (k : Val → Hh → ResL) : (Res.exc c fs h).bindL k = .exc c fs h := rfl
@[simp] theorem rl_bad (k : Val → Hh → ResL) : (Res.bad).bindL k = .bad := rfl
@[simp] theorem lb_ok (vs : List Val) (k : List Val → Hh → Res) : (ResL.ok vs h).bind k = k vs h := rfl
@[simp] theorem lb_exc (k : List Val → Hh → Res) : (ResL.exc c fs h).bind k = .exc c fs h := rfl
@[simp] theorem ll_ok (vs : List Val) (k : List Val → Hh → ResL) : (ResL.ok vs h).bindL k = k vs h := rfl
@[simp] theorem ll_exc (k : List Val → Hh → ResL) : (ResL.exc c fs h).bindL k = .exc c fs h := rfl
@[simp] theorem gb_ok (k : Sg → Hh → ResS) : (ResG.ok sg h).bindS k = k sg h := rfl
@[simp] theorem of_some : Res.ofO (some v) h = .ok v h := rfl
@[simp] theorem of_none : Res.ofO none h = .bad := rfl
@[simp] theorem op_some : Res.ofP (some (v, h)) = .ok v h := rfl
@[simp] theorem op_none : Res.ofP none = .bad := rfl
@[simp] theorem test_t (a b : Hh → Res) : (Res.ok (.bl true) h).test a b = a h := rfl
@[simp] theorem test_f (a b : Hh → Res) : (Res.ok (.bl false) h).test a b = b h := rfl
@[simp] theorem test_exc (a b : Hh → Res) : (Res.exc c fs h).test a b = .exc c fs h := rfl
@[simp] theorem testS_t (a b : Hh → ResS) : (Res.ok (.bl true) h).testS sg a b = a h := rfl
@[simp] theorem testS_f (a b : Hh → ResS) : (Res.ok (.bl false) h).testS sg a b = b h := rfl
@[simp] theorem testS_exc (a b : Hh → ResS) : (Res.exc c fs h).testS sg a b = .exc c fs sg h := rfl
@[simp] theorem loop_items (vs : List Val) (body : Val → Sg → Hh → ResS) : (ResI.ok (.items vs) h).loop body sg = forItems body vs sg h := rfl
@[simp] theorem seq_ap (a b : Sx) : xSeq a b sg h = (a sg h).seq b := by
  unfold xSeq ResS.seq; cases a sg h <;> rfl
@[simp] theorem skip_ap : xSkip sg h = .next sg h := rfl
@[simp] theorem drop_ap (e : Ex) : xDrop e sg h = (e sg h).bindS sg fun _ h1 => .next sg h1 := rfl
@[simp] theorem ret_ap (e : Ex) : xRet e sg h = (e sg h).bindS sg fun v h1 => .ret v h1 := rfl
@[simp] theorem ifS_ap (c : Ex) (a b : Sx) : xIfS c a b sg h = (c sg h).testS sg (fun h1 => a sg h1) (fun h1 => b sg h1) := rfl
@[simp] theorem asg_ap (e : Ex) (g : Gx) : xAsg e g sg h = (e sg h).bindS sg fun v h1 => (g v sg h1).bindS fun sg2 h2 => .next sg2 h2 := rfl
@[simp] theorem gN_ap (i : Nat) : gN i v sg h = .ok (sg.set i (some v)) h := rfl
@[simp] theorem set_ap (i : Nat) (e : Ex) : xSet i e sg h = (e sg h).bindS sg fun v h1 => .next (sg.set i (some v)) h1 := rfl
@[simp] theorem var_ap (i : Nat) : xVar i sg h = getS sg[i]? h := rfl
@[simp] theorem c_ap (v : Val) : xC v sg h = .ok v h := rfl
@[simp] theorem op_ap (g : G2) (a b : Ex) : xOp g a b sg h = (a sg h).bind fun x h1 => (b sg h1).bind fun y h2 => .ofO (g h2 x y) h2 := rfl
@[simp] theorem un_ap (g : Hh → Val → Option Val) (a : Ex) : xUn g a sg h = (a sg h).bind fun x h1 => .ofO (g h1 x) h1 := rfl
@[simp] theorem and_ap (a b : Ex) : xAnd a b sg h = (a sg h).test (fun h1 => b sg h1) (fun h1 => .ok (.bl false) h1) := rfl
@[simp] theorem or_ap (a b : Ex) : xOr a b sg h = (a sg h).test (fun h1 => .ok (.bl true) h1) (fun h1 => b sg h1) := rfl
@[simp] theorem not_ap (a : Ex) : xNot a sg h = (a sg h).test (fun h1 => .ok (.bl false) h1) (fun h1 => .ok (.bl true) h1) := rfl
@[simp] theorem if_ap (c a b : Ex) : xIf c a b sg h = (c sg h).test (fun h1 => a sg h1) (fun h1 => b sg h1) := rfl
@[simp] theorem nil_ap : xNil sg h = .ok [] h := rfl
@[simp] theorem cons_ap (a : Ex) (r : Lx) : xCons a r sg h = (a sg h).bindL fun v h1 => (r sg h1).bindL fun vs h2 => .ok (v :: vs) h2 := rfl
@[simp] theorem tup_ap (r : Lx) : xTup r sg h = (r sg h).bind fun vs h1 => if vs.length ≤ 1000000 then .ok (.tup vs) h1 else .bad := rfl
@[simp] theorem lst_ap (r : Lx) : xLst r sg h = (r sg h).bind fun vs h1 => if vs.length ≤ 1000000 then .ok (.ref h1.length) (h1 ++ [.lst vs]) else .bad := rfl
@[simp] theorem lstF_ap (r : Lx) : xLstF r sg h = (r sg h).bind fun vs h1 => if vs.length ≤ 1000000 then .ok (.lst vs) h1 else .bad := rfl
@[simp] theorem cb_ap (g : GC) (l : Lx) : xCB g l sg h = (l sg h).bind fun vs h1 => .ofP (g h1 vs) := rfl
@[simp] theorem callP_ap (T : Nat → List Str) (f : Fx) (d : List Val) (l : Lx) : xCallP T f d l sg h = (l sg h).bind fun as h1 => callQ T f (as ++ d) h1 := rfl
@[simp] theorem callB_ap (T : Nat → List Str) (f : Fx) (d : List Val) (l : Lx) : xCallB T f d l sg h = (l sg h).bind fun as h1 => callB T f (as ++ d) h1 := rfl
@[simp] theorem callO_ap (T : Nat → List Str) (f : Fx) (d : List Val) (l : Lx) : xCallO T f d l sg h = (l sg h).bind fun as h1 => callO T f (as ++ d) h1 := rfl
@[simp] theorem makeP_ap (T : Nat → List Str) (c : Nat) (f : Fx) (d : List Val) (l : Lx) : xMakeP T c f d l sg h = (l sg h).bind fun as h1 => makeQ T c f (as ++ d) h1 := rfl
@[simp] theorem methP_ap (T : Nat → List Str) (c : Nat) (f : Fx) (d : List Val) (o : Ex) (l : Lx) : xMethP T c f d o l sg h = (o sg h).bind fun ov h1 => if isA c h1 ov = true then (l sg h1).bind fun as h2 => callQ T f (ov :: (as ++ d)) h2 else .bad := rfl
@[simp] theorem for_ap (fi : Ix) (g : Gx) (b : Sx) : xFor fi g b sg h = (fi sg h).loop (bodyOf g b) sg := by
  unfold xFor ResI.loop
  cases fi sg h with
  | ok s h1 => cases s <;> rfl
  | _ => rfl
@[simp] theorem bodyOf_ap (g : Gx) (b : Sx) : bodyOf g b v sg h = (g v sg h).bindS fun sg1 h1 => b sg1 h1 := rfl
@[simp] theorem gTu_ap (n : Nat) (r : Gs) (vs : List Val) : gTu n r (.tup vs) sg h = if vs.length = n then r vs sg h else .bad := rfl
@[simp] theorem gsNil_ap : gsNil [] sg h = .ok sg h := rfl
@[simp] theorem gsCons_ap (g : Gx) (r : Gs) (vs : List Val) : gsCons g r (v :: vs) sg h = (match g v sg h with | .ok sg1 h1 => r vs sg1 h1 | .bad => .bad) := rfl
@[simp] theorem fnOf_ap {np nN : Nat} {b : Sx} {as : List Val} (hl : as.length = np) : fnOf np nN b h as = (b (as.map some ++ List.replicate (nN - np) none) h).fin := by
  unfold fnOf ResS.fin; rw [if_pos hl]
  try (cases b (as.map some ++ List.replicate (nN - np) none) h <;> rfl)
@[simp] theorem rng1_ap (l : Lx) : xIRng1 l sg h = (match l sg h with
  | .ok [.int j] h1 => if small62 j then .ok (.items (rng 0 j.toNat)) h1 else .bad
  | .ok _ _ => .bad
  | .exc c fs h1 => .exc c fs h1
  | .bad => .bad) := rfl
end
theorem callP_nil {T : Nat → List Str} {f : Fx} {as : List Val} {v v' : Val} {h' : Hh} (e : f [] as = .ok v h') (z : frzTop T h' v = some v') : callP T f as [] = .ok v' [] := by
  unfold callP; simp [e, z]
theorem callQ_pure {T : Nat → List Str} {f : Fx} {as : List Val} {v : Val} (e : callP T f as [] = .ok v []) (hp : pureVs as = true) (h : Hh) : callQ T f as h = .ok v h := by
  unfold callQ; rw [if_pos hp]; exact callP_any hp e h
theorem makeP_any {T : Nat → List Str} {c : Nat} {f : Fx} {as : List Val} {v : Val} (hp : pureVs as = true) (e : makeP T c f as [] = .ok v []) (h : Hh) : makeP T c f as h = .ok v h := by
  unfold makeP at e ⊢
  rw [hp, Bool.or_true, if_pos rfl] at e ⊢
  cases q : f [.ins c []] (.ref 0 :: as) with
  | bad => rw [q] at e; cases e
  | exc c fs h1 =>
    rw [q] at e
    dsimp only at e
    split at e <;> cases e
  | ok u h1 =>
    rw [q] at e
    dsimp only at e ⊢
    cases qq : frz T h1 30 (.ref 0) with
    | none => rw [qq] at e; cases e
    | some w => rw [qq] at e; cases e; rfl
theorem makeQ_pure {T : Nat → List Str} {c : Nat} {f : Fx} {as : List Val} {v : Val} (e : makeP T c f as [] = .ok v []) (hp : pureVs as = true) (h : Hh) : makeQ T c f as h = .ok v h := by
  unfold makeQ; rw [if_pos hp]; exact makeP_any hp e h
theorem makeP_nil {T : Nat → List Str} {c : Nat} {f : Fx} {as : List Val} {u v : Val} {h' : Hh} (e : f [.ins c []] (.ref 0 :: as) = .ok u h') (z : frz T h' 30 (.ref 0) = some v) : makeP T c f as [] = .ok v [] := by
  unfold makeP; simp [e, z]
@[simp] theorem pureVs_nil : pureVs [] = true := rfl
@[simp] theorem pureVs_cons (v : Val) (vs : List Val) : pureVs (v :: vs) = (pureV v && pureVs vs) := rfl
@[simp] theorem pureV_int (i : Int) : pureV (.int i) = true := rfl
@[simp] theorem pureV_bl (b : Bool) : pureV (.bl b) = true := rfl
@[simp] theorem pureV_str (s : List Nat) : pureV (.str s) = true := rfl
@[simp] theorem pureV_non : pureV .non = true := rfl
@[simp] theorem pureV_glo (g : Nat) : pureV (.glo g) = true := rfl
@[simp] theorem pureV_tup (vs : List Val) : pureV (.tup vs) = pureVs vs := by simp [pureV]
@[simp] theorem pureV_lst (vs : List Val) : pureV (.lst vs) = pureVs vs := by simp [pureV]
@[simp] theorem pureV_obj (c : Nat) (vs : List Val) : pureV (.obj c vs) = pureVs vs := by simp [pureV]
@[simp] theorem pureVs_app (a b : List Val) : pureVs (a ++ b) = (pureVs a && pureVs b) := by
  induction a with
  | nil => rfl
  | cons v a ih => simp [ih, Bool.and_assoc]
theorem pureVs_map {α : Type} {f : α → Val} (hf : ∀ a, pureV (f a) = true) : ∀ l : List α, pureVs (l.map f) = true
  | [] => rfl
  | a :: l => by simp [hf, pureVs_map hf l]
@[simp] theorem noLsts_nil : noLsts [] = true := rfl
@[simp] theorem noLsts_cons (v : Val) (vs : List Val) : noLsts (v :: vs) = (noLst v && noLsts vs) := rfl
@[simp] theorem noLst_int (i : Int) : noLst (.int i) = true := rfl
@[simp] theorem noLst_bl (b : Bool) : noLst (.bl b) = true := rfl
@[simp] theorem noLst_str (s : List Nat) : noLst (.str s) = true := rfl
@[simp] theorem noLst_non : noLst .non = true := rfl
@[simp] theorem noLst_tup (vs : List Val) : noLst (.tup vs) = noLsts vs := by simp [noLst]
@[simp] theorem noLst_obj (c : Nat) (vs : List Val) : noLst (.obj c vs) = noLsts vs := by simp [noLst]
theorem noLsts_map {α : Type} {f : α → Val} (hf : ∀ a, noLst (f a) = true) : ∀ l : List α, noLsts (l.map f) = true
  | [] => rfl
  | a :: l => by simp [hf, noLsts_map hf l]
mutual
def depV : Val → Nat
  | .tup vs => depVs vs + 1
  | .lst vs => depVs vs + 1
  | .obj _ vs => depVs vs + 1
  | .dct _ vs => depVs vs + 1
  | _ => 1
def depVs : List Val → Nat
  | [] => 0
  | v :: vs => max (depV v) (depVs vs)
end
@[simp] theorem depVs_nil : depVs [] = 0 := rfl
@[simp] theorem depVs_cons (v : Val) (vs : List Val) : depVs (v :: vs) = max (depV v) (depVs vs) := rfl
@[simp] theorem depV_int (i : Int) : depV (.int i) = 1 := rfl
@[simp] theorem depV_bl (b : Bool) : depV (.bl b) = 1 := rfl
@[simp] theorem depV_str (s : List Nat) : depV (.str s) = 1 := rfl
@[simp] theorem depV_non : depV .non = 1 := rfl
@[simp] theorem depV_tup (vs : List Val) : depV (.tup vs) = depVs vs + 1 := by simp [depV]
@[simp] theorem depV_lst (vs : List Val) : depV (.lst vs) = depVs vs + 1 := by simp [depV]
@[simp] theorem depV_obj (c : Nat) (vs : List Val) : depV (.obj c vs) = depVs vs + 1 := by simp [depV]
theorem depVs_map {α : Type} {f : α → Val} {n : Nat} (hf : ∀ a, depV (f a) ≤ n) : ∀ l : List α, depVs (l.map f) ≤ n
  | [] => Nat.zero_le _
  | a :: l => by simp [hf, depVs_map hf l]; exact Nat.max_le.mpr ⟨hf a, depVs_map hf l⟩
theorem mapM_id {f : Val → Option Val} : ∀ {l : List Val}, (∀ a ∈ l, f a = some a) → l.mapM f = some l
  | [], _ => rfl
  | a :: l, h => by rw [List.mapM_cons, h a List.mem_cons_self, mapM_id fun b hb => h b (List.mem_cons_of_mem _ hb)]; rfl
theorem depVs_mem : ∀ {vs : List Val} {v : Val}, v ∈ vs → depV v ≤ depVs vs
  | u :: vs, v, hv => by
    rcases List.mem_cons.mp hv with rfl | hv
    · exact Nat.le_max_left _ _
    · exact Nat.le_trans (depVs_mem hv) (Nat.le_max_right _ _)
theorem frz_pure (T : Nat → List Str) (h : Hh) : ∀ (n : Nat) (v : Val), pureV v = true → depV v ≤ n → frz T h n v = some v
  | 0, v, _, hd => by cases v <;> simp at hd <;> (unfold depV at hd; omega)
  | n + 1, v, hp, hd => by
    have ih := frz_pure T h n
    cases v with
    | tup vs =>
      simp at hp hd
      show (vs.mapM (frz T h n)).map Val.tup = _
      rw [mapM_id fun a ha => ih a (pureVs_all hp a ha) (Nat.le_trans (depVs_mem ha) (by omega))]; rfl
    | lst vs =>
      simp at hp hd
      show (vs.mapM (frz T h n)).map Val.lst = _
      rw [mapM_id fun a ha => ih a (pureVs_all hp a ha) (Nat.le_trans (depVs_mem ha) (by omega))]; rfl
    | obj c vs =>
      simp at hp hd
      show (vs.mapM (frz T h n)).map (Val.obj c) = _
      rw [mapM_id fun a ha => ih a (pureVs_all hp a ha) (Nat.le_trans (depVs_mem ha) (by omega))]; rfl
    | dct ks vs =>
      have hp : pureVs vs = true := by simpa [pureV] using hp
      have hd : depVs vs + 1 ≤ n + 1 := by simpa [depV] using hd
      show (vs.mapM (frz T h n)).map (Val.dct ks) = _
      rw [mapM_id fun a ha => ih a (pureVs_all hp a ha) (Nat.le_trans (depVs_mem ha) (by omega))]; rfl
    | ref k => simp [pureV] at hp
    | _ => rfl
section
variable {sg sg1 : Sg} {h h1 : Hh} {v u : Val}
@[simp] theorem test_and (b c : Bool) : (Res.ok (.bl b) h).test (fun h1 => .ok (.bl c) h1) (fun h1 => .ok (.bl false) h1) = .ok (.bl (b && c)) h := by cases b <;> rfl
@[simp] theorem test_or (b c : Bool) : (Res.ok (.bl b) h).test (fun h1 => .ok (.bl true) h1) (fun h1 => .ok (.bl c) h1) = .ok (.bl (b || c)) h := by cases b <;> rfl
@[simp] theorem test_not (b : Bool) : (Res.ok (.bl b) h).test (fun h1 => .ok (.bl false) h1) (fun h1 => .ok (.bl true) h1) = .ok (.bl !b) h := by cases b <;> rfl
def isxV (v : Val) (h1 : Hh) : ResI := match v with
  | .tup vs => .ok (.items vs) h1
  | .lst vs => .ok (.items vs) h1
  | .str s => .ok (.items (s.map fun c => .str [c])) h1
  | v => (match srcD 0 h1 v with
    | some s => .ok s h1
    | none => xISq (xC v) [] h1)
def Res.isx : Res → ResI
  | .ok v h => isxV v h
  | .exc c fs h => .exc c fs h
  | .bad => .bad
@[simp] theorem isx_ap (fe : Ex) : xISX fe sg h = (fe sg h).isx := by
  unfold xISX Res.isx
  cases e : fe sg h with
  | bad => simp [xISq, e]
  | exc c fs h1 => simp [xISq, e]
  | ok v h1 =>
    cases v <;> simp [isxV, srcD, xISq, e, xC] <;> rfl
@[simp] theorem isx_tup (vs : List Val) : (Res.ok (.tup vs) h).isx = .ok (.items vs) h := rfl
@[simp] theorem isx_lst (vs : List Val) : (Res.ok (.lst vs) h).isx = .ok (.items vs) h := rfl
@[simp] theorem isx_str (s : List Nat) : (Res.ok (.str s) h).isx = .ok (.items (s.map fun c => .str [c])) h := rfl
def ResI.comp (r : ResI) (g : Gx) (t e : Ex) (sg : Sg) : ResL := match r with
  | .ok (.items vs) h1 => if vs.length ≤ 1000000 then compItems g t e sg vs [] h1 else .bad
  | .ok (.ref k) h1 => compRef g t e sg k 1000000 0 [] h1
  | .exc c fs h1 => .exc c fs h1
  | .bad => .bad
theorem compL_ap (own : List Nat) (fi : Ix) (g : Gx) (t e : Ex) : xCompL own fi g t e sg h = (fi sg h).comp g t e (wipeG sg own) := by
  unfold xCompL ResI.comp
  cases fi sg h with
  | ok s h1 => cases s <;> rfl
  | _ => rfl
@[simp] theorem compF_ap (own : List Nat) (fi : Ix) (g : Gx) (t e : Ex) : xCompF own fi g t e sg h = ((fi sg h).comp g t e (wipeG sg own)).bind fun vs h1 => .ok (.lst vs) h1 := by
  unfold xCompF; rw [compL_ap]
@[simp] theorem comp_ap (own : List Nat) (fi : Ix) (g : Gx) (t e : Ex) : xComp own fi g t e sg h = ((fi sg h).comp g t e (wipeG sg own)).bind fun vs h1 => .ok (.ref h1.length) (h1 ++ [.lst vs]) := by
  unfold xComp; rw [compL_ap]
@[simp] theorem comp_items (vs : List Val) (g : Gx) (t e : Ex) : (ResI.ok (.items vs) h).comp g t e sg = if vs.length ≤ 1000000 then compItems g t e sg vs [] h else .bad := rfl
theorem comp_filter {α : Type} {enc : α → Val} (p : α → Bool) (r : α → Val) {g : Gx} {t e : Ex} : ∀ (l : List α) (acc : List Val), (∀ a ∈ l, ∃ sg1, g (enc a) sg h = .ok sg1 h ∧ t sg1 h = .ok (.bl (p a)) h ∧ (p a = true → e sg1 h = .ok (r a) h)) →
    compItems g t e sg (l.map enc) acc h = .ok (acc ++ (l.filter p).map r) h
  | [], acc, _ => by simp [compItems]
  | a :: l, acc, hb => by
    obtain ⟨sg1, e1, e2, e3⟩ := hb a (by simp)
    have ih := fun acc => comp_filter p r l acc (fun b hb' => hb b (by simp [hb']))
    rw [List.map_cons]
    unfold compItems
    rw [e1]; dsimp only; rw [e2]
    cases q : p a with
    | true => simp [e3 q, ih, q]
    | false => simp [ih, q]
theorem comp_map {α : Type} {enc : α → Val} (r : α → Val) {g : Gx} {t e : Ex} (l : List α) (acc : List Val) (hb : ∀ a ∈ l, ∃ sg1, g (enc a) sg h = .ok sg1 h ∧ t sg1 h = .ok (.bl true) h ∧ e sg1 h = .ok (r a) h) :
    compItems g t e sg (l.map enc) acc h = .ok (acc ++ l.map r) h := by
  have := comp_filter (enc := enc) (fun _ => true) r l acc (sg := sg) (h := h) (g := g) (t := t) (e := e) (fun a ha => by
    obtain ⟨sg1, e1, e2, e3⟩ := hb a ha
    exact ⟨sg1, e1, e2, fun _ => e3⟩)
  rw [this, List.filter_eq_self.mpr fun _ _ => rfl]
@[simp] theorem xJ_nil (acc : List Nat) : xJ [] acc sg h = .ok (.str acc) h := rfl
@[simp] theorem xJ_cons (f : Ex) (r : List Ex) (acc : List Nat) : xJ (f :: r) acc sg h = (f sg h).bind fun v h1 => match v with
    | .str s => if (acc ++ s).length ≤ 1000000 then xJ r (acc ++ s) sg h1 else .bad
    | _ => .bad := rfl
@[simp] theorem bm_ap (ty : String) (g : GM) (o : Ex) (l : Lx) : xBM ty g o l sg h = (o sg h).bind fun ov h1 => if isTy ty h1 ov = true then (l sg h1).bind fun vs h2 => .ofP (g h2 ov vs) else .bad := rfl
@[simp] theorem bools_map {α : Type} (f : α → Bool) : ∀ l : List α, bools (l.map fun a => Val.bl (f a)) = some (l.map f)
  | [] => rfl
  | a :: l => by simp [bools, bools_map f l]
@[simp] theorem chain_ap (g g' : G2) (a b c : Ex) : xChain g g' a b c sg h = (a sg h).bind fun x h1 => (b sg h1).bind fun y h2 => match g h2 x y with
    | some (.bl true) => (c sg h2).bind fun z h3 => .ofO (g' h3 y z) h3
    | some (.bl false) => .ok (.bl false) h2
    | _ => .bad := by
  unfold xChain
  rfl
end
end Py
namespace Py
open PySem Builtin Builtin.Str
def joinL (sep : List Nat) : List (List Nat) → List Nat
  | [] => []
  | [p] => p
  | p :: q :: r => p ++ sep ++ joinL sep (q :: r)
@[simp] theorem unS_mk (s : List Nat) : unS ⟨s.toArray⟩ = s := by simp [unS]
theorem unS_app (a b : Str) : unS (a ++ b) = unS a ++ unS b := by
  show (a.cps ++ b.cps).toList = _
  simp [unS]
theorem txts_map : ∀ l : List (List Nat), txts (l.map Val.str) = some (l.map fun s => (⟨s.toArray⟩ : Str))
  | [] => rfl
  | s :: l => by simp [txts, txts_map l]
theorem join_eq (sep : List Nat) : ∀ l : List (List Nat), unS (Txt.join ⟨sep.toArray⟩ (l.map fun s => (⟨s.toArray⟩ : Str))) = joinL sep l := by
  intro l
  show unS (glued _ _) = _
  rw [StrLaws.glued_eq_join]
  induction l with
  | nil => rfl
  | cons p l ih =>
    cases l with
    | nil => simp [Str.join, joinL]
    | cons q r =>
      show unS ((⟨p.toArray⟩ : Str) ++ ⟨sep.toArray⟩ ++ Str.join ⟨sep.toArray⟩ ((q :: r).map fun s => (⟨s.toArray⟩ : Str))) = _
      rw [unS_app, unS_app, ih]
      simp [joinL]
end Py
namespace Law
open PySem Py
abbrev Mt := Int × Int × Bool
def eM (m : Mt) : Val := .tup [.int m.1, .int m.2.1, .bl m.2.2]
def eMs (l : List Mt) : List Val := l.map eM
def eDay (n : Int) (l : List Mt) : Val := .obj 10 [.int n, .tup (eMs l)]
@[simp] theorem pure_eM (m : Mt) : pureV (eM m) = true := rfl
@[simp] theorem pure_eMs (l : List Mt) : pureVs (eMs l) = true := pureVs_map pure_eM l
@[simp] theorem noLst_eM (m : Mt) : noLst (eM m) = true := rfl
@[simp] theorem noLst_eMs (l : List Mt) : noLsts (eMs l) = true := noLsts_map noLst_eM l
@[simp] theorem dep_eM (m : Mt) : depV (eM m) = 2 := rfl
theorem dep_eMs (l : List Mt) : depVs (eMs l) ≤ 2 := depVs_map (fun m => Nat.le_of_eq (dep_eM m)) l
@[simp] theorem len_eMs (l : List Mt) : (eMs l).length = l.length := by simp [eMs]
@[simp] theorem pure_eDay (n : Int) (l : List Mt) : pureV (eDay n l) = true := by simp [eDay]
@[simp] theorem noLst_eDay (n : Int) (l : List Mt) : noLst (eDay n l) = true := by simp [eDay]
theorem is_integer_int (i : Int) (h : Hh) : callQ TBf f_is_integer [.int i] h = .ok (.bl true) h := callQ_pure rfl rfl h
theorem is_bool_bl (b : Bool) (h : Hh) : callQ TBf f_is_bool [.bl b] h = .ok (.bl true) h := callQ_pure rfl rfl h
theorem is_number_int (i : Int) (h : Hh) : callQ TBf f_is_number [.int i] h = .ok (.bl (decide (0 ≤ i))) h := by
  refine callQ_pure (callP_nil (h' := []) (v := .bl (decide (0 ≤ i))) ?_ rfl) rfl h
  rw [f_is_number]
  simp [is_integer_int, gI]
theorem is_seq_lst (vs : List Val) (hp : pureVs vs = true) (h : Hh) : callQ TBf f_is_sequence [.lst vs] h = .ok (.bl true) h := callQ_pure (by rfl) (by simp [hp]) h
theorem is_seq_tup (vs : List Val) (hp : pureVs vs = true) (h : Hh) : callQ TBf f_is_sequence [.tup vs] h = .ok (.bl true) h := callQ_pure (by rfl) (by simp [hp]) h
def okM (m : Mt) : Bool := decide (0 ≤ m.1) && (decide (0 ≤ m.2.1) && decide (m.1 < m.2.1))
theorem is_meeting_eM (m : Mt) (h : Hh) : callQ TBf f_is_meeting [eM m] h = .ok (.bl (okM m)) h := by
  refine callQ_pure (callP_nil (h' := []) (v := .bl (okM m)) ?_ rfl) rfl h
  rw [f_is_meeting]
  obtain ⟨a, b, c⟩ := m
  simp [eM, is_number_int, is_bool_bl, gIsi, kdOf, kdIs, gLenX, dctOf, gLen, gNe, eqD, dat, PyData.eqv, okM, gI]
def okF (n : Int) : Int → List Mt → Bool
  | _, [] => true
  | a, m :: r => decide (a ≤ m.1) && (decide (m.1 < m.2.1) && (decide (m.2.1 ≤ n) && okF n m.2.1 r))
theorem okF_all {n : Int} : ∀ {l : List Mt} {a : Int}, 0 ≤ a → okF n a l = true → ∀ m ∈ l, okM m = true ∧ a ≤ m.1 ∧ m.1 < m.2.1 ∧ m.2.1 ≤ n
  | [], _, _, _, _, hm => by cases hm
  | x :: r, a, ha, h, m, hm => by
    simp [okF] at h
    rcases List.mem_cons.mp hm with rfl | hm
    · exact ⟨by simp [okM]; omega, h.1, h.2.1, h.2.2.1⟩
    · obtain ⟨h1, h2, h3⟩ := okF_all (by omega) h.2.2.2 m hm
      exact ⟨h1, by omega, h3⟩
theorem okF_len {n : Int} : ∀ {l : List Mt} {a : Int}, okF n a l = true → l ≠ [] → a + l.length ≤ n
  | [x], a, h, _ => by simp [okF] at h; simp; omega
  | x :: y :: r, a, h, _ => by
    simp [okF] at h
    have := okF_len (l := y :: r) (a := x.2.1) (by simp [okF]; exact h.2.2.2) (by simp)
    simp at this ⊢
    omega
def amBody : Val → Sg → Hh → ResS := bodyOf (gTu 3 (gsCons (gN 3) (gsCons (gN 4) (gsCons (gN 5) gsNil))))
 (xSeq (xIfS (xOr (xOp gLt (xVar 3) (xVar 2)) (xOp gGt (xVar 4) (xVar 0)))
 (xRet (xC (.bl false)))
 xSkip)
 (xSet 2 (xVar 4)))
theorem am_loop (n : Int) (x1 : Option Val) : ∀ (l : List Mt) (a : Int) (x3 x4 x5 x6 : Option Val), 0 ≤ a → (∀ m ∈ l, okM m = true) →
    if okF n a l = true then ∃ sg, forItems amBody (eMs l) [some (.int n), x1, some (.int a), x3, x4, x5, x6] [] = .next sg [] else forItems amBody (eMs l) [some (.int n), x1, some (.int a), x3, x4, x5, x6] [] = .ret (.bl false) []
  | [], a, x3, x4, x5, x6, _, _ => by simp [okF]; exact ⟨_, rfl⟩
  | (b, e, p) :: l, a, x3, x4, x5, x6, ha, hm => by
    have hb : okM (b, e, p) = true := hm _ (by simp)
    simp [okM] at hb
    have st : amBody (eM (b, e, p)) [some (.int n), x1, some (.int a), x3, x4, x5, x6] [] = if a ≤ b ∧ e ≤ n then .next [some (.int n), x1, some (.int e), some (.int b), some (.int e), some (.bl p), x6] [] else .ret (.bl false) [] := by
      unfold amBody
      by_cases h1 : a ≤ b <;> by_cases h2 : e ≤ n
      · have g1 : ¬ b < a := by omega
        have g2 : ¬ n < e := by omega
        simp [eM, gI, h1, h2, g1, g2]
      · have g1 : ¬ b < a := by omega
        have g2 : n < e := by omega
        simp [eM, gI, h1, h2, g1, g2]
      · have g1 : b < a := by omega
        simp [eM, gI, h1, g1]
      · have g1 : b < a := by omega
        simp [eM, gI, h1, g1]
    have ih := am_loop n x1 l e (some (.int b)) (some (.int e)) (some (.bl p)) x6 (by omega) (fun m h => hm m (by simp [h]))
    show if okF n a ((b, e, p) :: l) = true then ∃ sg, forItems amBody (eM (b, e, p) :: eMs l) _ _ = _ else forItems amBody (eM (b, e, p) :: eMs l) _ _ = _
    unfold forItems
    rw [st]
    by_cases hc : a ≤ b ∧ e ≤ n
    · rw [if_pos hc]
      have : okF n a ((b, e, p) :: l) = okF n e l := by simp [okF, hc.1, hc.2, hb.2.2]
      rw [this]
      exact ih
    · rw [if_neg hc, if_neg (by simp [okF]; intro h1 h2 h3; exact absurd ⟨h1, h3⟩ hc)]
def okMs (n : Int) (l : List Mt) : Bool := l.all okM && okF n 0 l
theorem are_meetings_fn (n : Int) (l : List Mt) (hl : l.length ≤ 1000) (v : Val) (hv : v = .lst (eMs l) ∨ v = .tup (eMs l)) : f_are_meetings [] [.int n, v] = .ok (.bl (okMs n l)) [] := by
  rw [f_are_meetings]
  have hs : callQ TBf f_is_sequence [v] [] = .ok (.bl true) [] := by
    rcases hv with rfl | rfl
    · exact is_seq_lst _ (by simp) _
    · exact is_seq_tup _ (by simp) _
  have hi : (Res.ok v []).isx = .ok (.items (eMs l)) [] := by rcases hv with rfl | rfl <;> rfl
  have hcm : compItems (gN 6) (xC (.bl true)) (xCallP TBf f_is_meeting [] (xCons (xVar 6) xNil)) [some (.int n), some v, none, none, none, none, none] (eMs l) [] [] = .ok (l.map fun m => .bl (okM m)) [] := by
    have := comp_map (enc := eM) (fun m => .bl (okM m)) (g := gN 6) (t := xC (.bl true)) (e := xCallP TBf f_is_meeting [] (xCons (xVar 6) xNil)) (sg := [some (.int n), some v, none, none, none, none, none]) (h := []) l [] (fun m _ => ⟨_, rfl, rfl, by simp [is_meeting_eM]⟩)
    simpa [eMs] using this
  have hloop := am_loop n (some v) l 0 none none none none (Int.le_refl 0)
  have hz : l.length ≤ 1000000 := by omega
  have hall : gAll [] [.lst (l.map fun m => .bl (okM m))] = some (.bl (l.all okM), []) := by
    have : (l.map okM).all id = l.all okM := by simp [List.all_map, Function.comp_def]
    simp [gAll, lstOf, -List.all_map, this]
  unfold okMs
  cases ha : l.all okM with
  | true =>
    rw [ha] at hall
    have ha' : ∀ m ∈ l, okM m = true := List.all_eq_true.mp ha
    have hloop := hloop ha'
    simp [hs, hi, wipeG, hcm, hall, hz]
    change ((forItems amBody (eMs l) [some (.int n), some v, some (.int 0), none, none, none, none] []).seq _).fin = _
    cases hf : okF n 0 l with
    | true =>
      rw [if_pos hf] at hloop
      obtain ⟨sg, e⟩ := hloop
      rw [e]; rfl
    | false =>
      rw [if_neg (by simp [hf])] at hloop
      rw [hloop]; rfl
  | false =>
    rw [ha] at hall
    simp [hs, hi, wipeG, hcm, hall, hz]
theorem are_meetings_lst (n : Int) (l : List Mt) (hl : l.length ≤ 1000) (h : Hh) : callQ TBf f_are_meetings [.int n, .lst (eMs l)] h = .ok (.bl (okMs n l)) h :=
  callQ_pure (callP_nil (are_meetings_fn n l hl _ (.inl rfl)) rfl) (by simp) h
theorem are_meetings_tup (n : Int) (l : List Mt) (hl : l.length ≤ 1000) (h : Hh) : callQ TBf f_are_meetings [.int n, .tup (eMs l)] h = .ok (.bl (okMs n l)) h :=
  callQ_pure (callP_nil (are_meetings_fn n l hl _ (.inr rfl)) rfl) (by simp) h
theorem day_init_ok (n : Int) (l : List Mt) (hn : 1 ≤ n) (hl : l.length ≤ 1000) (ho : okMs n l = true) (v : Val) (hv : v = .lst (eMs l) ∨ v = .tup (eMs l)) : makeP TBf 10 f_Day_init [.int n, v] [] = .ok (eDay n l) [] := by
  have hm : ∀ h, callQ TBf f_are_meetings [.int n, v] h = .ok (.bl true) h := fun h => by
    rcases hv with rfl | rfl
    · rw [are_meetings_lst n l hl, ho]
    · rw [are_meetings_tup n l hl, ho]
  have ht : gTuple [.ins 10 [.int n]] [v] = some (.tup (eMs l), [.ins 10 [.int n]]) := by rcases hv with rfl | rfl <;> rfl
  refine makeP_nil (u := .non) (h' := [.ins 10 [.int n, .tup (eMs l)]]) ?_ ?_
  · rw [f_Day_init]
    have : ¬ n < 1 := by omega
    simp [is_integer_int, hm, gI, this, xSetAttr, List.lookup, ht]
  · show ((([.int n, .tup (eMs l)] : List Val).mapM (frz TBf [.ins 10 [.int n, .tup (eMs l)]] 29)).map (Val.obj 10)) = _
    rw [mapM_id fun a ha => ?_]
    · rfl
    · refine frz_pure _ _ _ _ ?_ ?_
      · simp at ha; rcases ha with rfl | rfl <;> simp
      · have := dep_eMs l
        simp at ha; rcases ha with rfl | rfl <;> simp; omega
end Law
namespace Law
open PySem Py
def okNum (k : Nat) : Bool := decide ((dec k).length ≤ 2) && (decide (0 < (dec k).length) && ((dec k).all (fun c => decide (48 ≤ c) && decide (c ≤ 57)) && match callP TBf f_number_in [.str (dec k), .int 2] [] with
  | .ok (.int j) [] => decide (j = k)
  | _ => false))
theorem okNum_all : ∀ k, k < 100 → okNum k = true := by decide +kernel
theorem small_nat {i : Int} (h0 : 0 ≤ i) (h1 : i < 100) : ∃ k : Nat, k < 100 ∧ i = k := ⟨i.toNat, by omega, by omega⟩
theorem dec_len {i : Int} (h0 : 0 ≤ i) (h1 : i < 100) : (dec i).length ≤ 2 := by
  obtain ⟨k, hk, rfl⟩ := small_nat h0 h1
  have := okNum_all k hk
  simp [okNum] at this; exact this.1
theorem dec_dig {i : Int} (h0 : 0 ≤ i) (h1 : i < 100) : ∀ c ∈ dec i, 48 ≤ c ∧ c ≤ 57 := by
  obtain ⟨k, hk, rfl⟩ := small_nat h0 h1
  have := okNum_all k hk
  simp [okNum] at this
  intro c hc; exact this.2.2.1 c hc
abbrev priv : List Nat := [32, 112, 114, 105, 118, 97, 116, 101]
def txtM (m : Mt) : List Nat := dec m.1 ++ 45 :: (dec m.2.1 ++ if m.2.2 = true then priv else [])
def restT (l : List Mt) : List Nat := if l = [] then [45] else joinL [44, 32] (l.map txtM)
def dayT (n : Int) (l : List Mt) : List Nat := dec n ++ 58 :: 32 :: restT l
structure Good (n : Int) (l : List Mt) : Prop where
  lo : 1 ≤ n
  hi : n < 100
  ok : okF n 0 l = true
variable {n n' : Int} {l l' : List Mt}
theorem Good.all (g : Good n l) : ∀ m ∈ l, okM m = true ∧ 0 ≤ m.1 ∧ m.1 < 100 ∧ 0 ≤ m.2.1 ∧ m.2.1 < 100 ∧ m.1 < m.2.1 ∧ m.2.1 ≤ n := fun m hm => by
  have q := okF_all (Int.le_refl 0) g.ok m hm
  have := g.hi
  exact ⟨q.1, by omega, by omega, by omega, by omega, by omega, by omega⟩
theorem Good.len (g : Good n l) : l.length ≤ 99 := by
  by_cases e : l = []
  · subst e; simp
  · have := okF_len g.ok e
    have := g.hi
    omega
theorem Good.ms (g : Good n l) : okMs n l = true := by
  simp only [okMs, Bool.and_eq_true]
  exact ⟨List.all_eq_true.mpr fun m hm => (g.all m hm).1, g.ok⟩
theorem make_day (g : Good n l) (v : Val) (hv : v = .lst (eMs l) ∨ v = .tup (eMs l)) (h : Hh) : makeQ TBf 10 f_Day_init [.int n, v] h = .ok (eDay n l) h :=
  makeQ_pure (day_init_ok n l g.lo (by have := g.len; omega) g.ms v hv) (by rcases hv with rfl | rfl <;> simp) h
theorem txtM_len {m : Mt} (h1 : 0 ≤ m.1) (h2 : m.1 < 100) (h3 : 0 ≤ m.2.1) (h4 : m.2.1 < 100) : (txtM m).length ≤ 13 := by
  have := dec_len h1 h2
  have := dec_len h3 h4
  unfold txtM
  split <;> simp <;> omega
theorem sum_le (f : Mt → Nat) (b : Nat) : ∀ l : List Mt, (∀ m ∈ l, f m ≤ b) → (l.map f).sum ≤ b * l.length
  | [], _ => by simp
  | m :: l, h => by
    have h1 := h m (by simp)
    have h2 := sum_le f b l (fun x hx => h x (by simp [hx]))
    simp [Nat.mul_add]; omega
theorem fmt_int {i : Int} (ho : okDec i = true) (h : Hh) : fmtV h (.int i) = some (.str (dec i)) := by simp [fmtV, ho]
theorem fmt_str {s : List Nat} (ho : s.length ≤ 1000000) (h : Hh) : fmtV h (.str s) = some (.str s) := by simp [fmtV, ho]
theorem joinL_len (sep : List Nat) : ∀ ps : List (List Nat), (joinL sep ps).length ≤ (ps.map List.length).sum + ps.length * sep.length
  | [] => by simp [joinL]
  | [p] => by simp [joinL]
  | p :: q :: r => by
    have := joinL_len sep (q :: r)
    simp [joinL, Nat.add_mul] at this ⊢
    omega
theorem day_str_fn (g : Good n l) : f_Dayw_strw [] [eDay n l] = .ok (.str (dayT n l)) [] := by
  have hg := g.all
  have hl := g.len
  have hz : l.length ≤ 1000000 := by omega
  have hn := dec_len (i := n) (by have := g.lo; omega) g.hi
  have okn : okDec n = true := by have := g.lo; have := g.hi; simp [okDec]; omega
  have hcm : compItems (gTu 3 (gsCons (gN 2) (gsCons (gN 3) (gsCons (gN 4) gsNil)))) (xC (.bl true)) (xJ [(xUn fmtV (xVar 2)), (xC (.str [45])), (xUn fmtV (xVar 3)), (xUn fmtV (xIf (xVar 4) (xC (.str [32, 112, 114, 105, 118, 97, 116, 101])) (xC (.str []))))] []) [some (eDay n l), none, none, none, none] (eMs l) [] [] = .ok (l.map fun m => .str (txtM m)) [] := by
    have := comp_map (enc := eM) (fun m => .str (txtM m)) (g := gTu 3 (gsCons (gN 2) (gsCons (gN 3) (gsCons (gN 4) gsNil)))) (t := xC (.bl true)) (e := xJ [(xUn fmtV (xVar 2)), (xC (.str [45])), (xUn fmtV (xVar 3)), (xUn fmtV (xIf (xVar 4) (xC (.str [32, 112, 114, 105, 118, 97, 116, 101])) (xC (.str []))))] []) (sg := [some (eDay n l), none, none, none, none]) (h := []) l [] (fun m hm => by
      obtain ⟨a, b, c⟩ := m
      obtain ⟨_, h1, h2, h3, h4, _⟩ := hg _ hm
      have d1 := dec_len h1 h2
      have d2 := dec_len h3 h4
      have o1 : okDec a = true := by simp at h1 h2; simp [okDec]; omega
      have o2 : okDec b = true := by simp at h3 h4; simp [okDec]; omega
      simp only at d1 d2
      refine ⟨_, rfl, rfl, ?_⟩
      have z1 : (dec a).length ≤ 1000000 := by omega
      have z2 : (dec a).length + 1 ≤ 1000000 := by omega
      have z3 : (dec a).length + ((dec b).length + 1) ≤ 1000000 := by omega
      have z4 : (dec a).length + ((dec b).length + 8 + 1) ≤ 1000000 := by omega
      cases c <;> simp [fmtV, o1, o2, z1, z2, z3, z4, txtM] <;> repeat rw [if_pos (by omega)])
    simpa [eMs] using this
  have hattr : gAttr [(10, 1)] [] (eDay n l) = some (.tup (eMs l)) := rfl
  have hattr0 : gAttr [(10, 0)] [] (eDay n l) = some (.int n) := rfl
  have hjoin : l ≠ [] → gJoin [] (.str [44, 32]) [.lst (l.map fun m => Val.str (txtM m))] = some (.str (joinL [44, 32] (l.map txtM)), []) := fun _ => by
    have e1 : (l.map fun m => Val.str (txtM m)) = (l.map txtM).map Val.str := by simp [Function.comp_def]
    have b := sum_le (fun m => (txtM m).length) 13 l (fun m hm => by obtain ⟨_, h1, h2, h3, h4, _⟩ := hg m hm; exact txtM_len h1 h2 h3 h4)
    unfold gJoin
    simp only [sqOf, lstOf]
    rw [e1, txts_map]
    dsimp only
    rw [if_pos ?_, join_eq]
    have e2 : ((l.map txtM).map fun s => (⟨s.toArray⟩ : Str)).map (fun x => x.length) = l.map fun m => (txtM m).length := by simp [Function.comp_def, Str.length]
    rw [e2]
    simp
    omega
  have hjl : (joinL [44, 32] (l.map txtM)).length ≤ 2000 := by
    have b := sum_le (fun m => (txtM m).length) 13 l (fun m hm => by obtain ⟨_, h1, h2, h3, h4, _⟩ := hg m hm; exact txtM_len h1 h2 h3 h4)
    have c := joinL_len [44, 32] (l.map txtM)
    simp [Function.comp_def] at c
    omega
  have hlen : gLenX [] [.lst (l.map fun m => Val.str (txtM m))] = some (.int l.length, []) := by simp [gLenX, dctOf, gLen, lstOf]
  rw [f_Dayw_strw]
  by_cases e : l = []
  · have e0 : l.length = 0 := by simp [e]
    have er : restT l = [45] := by simp [restT, e]
    have z1 : (dec n).length ≤ 1000000 := by omega
    have z2 : (dec n).length + 2 ≤ 1000000 := by omega
    have z3 : (dec n).length + 3 ≤ 1000000 := by omega
    simp [hattr, hattr0, wipeG, hcm, hz, hlen, gI, fmt_int okn, fmt_str, e0, dayT, er]
    repeat rw [if_pos (by omega)]
    rfl
  · have e' : 0 < l.length := List.length_pos_iff.mpr e
    have er : restT l = joinL [44, 32] (l.map txtM) := by simp [restT, e]
    have hf : fmtV [] (.str (joinL [44, 32] (l.map txtM))) = some (.str (joinL [44, 32] (l.map txtM))) := fmt_str (by omega) _
    simp [hattr, hattr0, wipeG, hcm, hz, hlen, gI, fmt_int okn, e', dayT, er, isTy, hjoin e, hf]
    repeat rw [if_pos (by omega)]
    rfl
theorem day_str_P (g : Good n l) (h : Hh) : callP TBf f_Dayw_strw [eDay n l] h = .ok (.str (dayT n l)) h := callP_any (by simp) (callP_nil (day_str_fn g) rfl) h
theorem okStr_of {s : List Nat} (h : ∀ c ∈ s, c < 256) : okStr s = true := by
  simp only [okStr, List.all_eq_true, decide_eq_true_eq]
  intro c hc; have := h c hc; omega
theorem joinL_mem {sep : List Nat} {c : Nat} : ∀ {ps : List (List Nat)}, c ∈ joinL sep ps → c ∈ sep ∨ ∃ p ∈ ps, c ∈ p
  | [], h => by simp [joinL] at h
  | [p], h => .inr ⟨p, by simp, h⟩
  | p :: q :: r, h => by
    simp only [joinL, List.mem_append] at h
    rcases h with (h | h) | h
    · exact .inr ⟨p, by simp, h⟩
    · exact .inl h
    · rcases joinL_mem h with h | ⟨x, hx, h⟩
      · exact .inl h
      · exact .inr ⟨x, by simp at hx ⊢; exact .inr hx, h⟩
theorem txtM_sign {m : Mt} (h1 : 0 ≤ m.1) (h2 : m.1 < 100) (h3 : 0 ≤ m.2.1) (h4 : m.2.1 < 100) : ∀ c ∈ txtM m, c < 256 ∧ c ≠ 44 := fun c hc => by
  unfold txtM at hc
  rcases List.mem_append.mp hc with h | h
  · have := dec_dig h1 h2 c h; omega
  · rcases List.mem_cons.mp h with rfl | h
    · omega
    · rcases List.mem_append.mp h with h | h
      · have := dec_dig h3 h4 c h; omega
      · split at h
        · simp [priv] at h; omega
        · cases h
theorem dayT_sign (g : Good n l) : ∀ c ∈ dayT n l, c < 256 := fun c hc => by
  unfold dayT at hc
  rcases List.mem_append.mp hc with h | h
  · have := dec_dig (by have := g.lo; omega) g.hi c h; omega
  · simp only [List.mem_cons] at h
    rcases h with rfl | rfl | h
    · omega
    · omega
    · unfold restT at h
      split at h
      · simp at h; omega
      · rcases joinL_mem h with h | ⟨p, hp, h⟩
        · simp at h; omega
        · obtain ⟨m, hm, rfl⟩ := List.mem_map.mp hp
          obtain ⟨_, h1, h2, h3, h4, _⟩ := g.all m hm
          exact (txtM_sign h1 h2 h3 h4 c h).1
theorem eqD_str {s t : List Nat} (hs : okStr s = true) (ht : okStr t = true) (h : Hh) : eqD h (.str s) (.str t) = some (decide (s = t)) := by
  simp only [eqD, dat, hs, ht, if_true, PyData.eqv]
  by_cases e : s = t
  · subst e; simp
  · have : (⟨s.toArray⟩ : Str) ≠ ⟨t.toArray⟩ := fun q => e (by injection q with q; simpa using congrArg Array.toList q)
    simp [e, this]
theorem day_eq_fn (g : Good n l) (g' : Good n' l') : f_Dayw_eqw [] [eDay n l, eDay n' l'] = .ok (.bl (decide (dayT n l = dayT n' l'))) [] := by
  rw [f_Dayw_eqw]
  have e1 : gStrT TBf [(10, f_Dayw_strw)] [] [eDay n l] = some (.str (dayT n l), []) := by
    show ((strBack (callP TBf f_Dayw_strw [eDay n l] [])).map fun z => (z, [])) = _
    rw [day_str_P g]; rfl
  have e2 : gStrT TBf [(10, f_Dayw_strw)] [] [eDay n' l'] = some (.str (dayT n' l'), []) := by
    show ((strBack (callP TBf f_Dayw_strw [eDay n' l'] [])).map fun z => (z, [])) = _
    rw [day_str_P g']; rfl
  have e3 : gIsO [(10, true)] [] (eDay n' l') = some (.bl true) := rfl
  have e4 : gEq [] (.str (dayT n l)) (.str (dayT n' l')) = some (.bl (decide (dayT n l = dayT n' l'))) := by
    unfold gEq; rw [eqD_str (okStr_of (dayT_sign g)) (okStr_of (dayT_sign g'))]; rfl
  simp [e1, e2, e3, e4]
theorem day_eq_P (g : Good n l) (g' : Good n' l') (h : Hh) : callP TBf f_Dayw_eqw [eDay n l, eDay n' l'] h = .ok (.bl (decide (dayT n l = dayT n' l'))) h := callP_any (by simp) (callP_nil (day_eq_fn g g') rfl) h
theorem day_neT (g : Good n l) (g' : Good n' l') (h : Hh) : gNeT TBf [(10, f_Dayw_eqw)] h (eDay n l) (eDay n' l') = some (.bl (!decide (dayT n l = dayT n' l'))) := by
  show ((boolBack (callP TBf f_Dayw_eqw [eDay n l, eDay n' l'] h)).map fun b => Val.bl (!b)) = _
  rw [day_eq_P g g']; rfl
theorem day_strT (g : Good n l) (h : Hh) : gStrT TBf [(10, f_Dayw_strw)] h [eDay n l] = some (.str (dayT n l), h) := by
  show ((strBack (callP TBf f_Dayw_strw [eDay n l] h)).map fun z => (z, h)) = _
  rw [day_str_P g]; rfl
end Law
namespace Law
open PySem Py
def dM (m : Mt) : PyData := .tuple [.int m.1, .int m.2.1, .bool m.2.2]
theorem dat_eM (m : Mt) (k : Nat) (h : Hh) : dat h (k + 2) (eM m) = some (dM m) := rfl
variable {n n' : Int} {l l' : List Mt}
end Law
namespace Law
open PySem Py
theorem gNe_str {s : List Nat} (hs : okStr s = true) (h : Hh) : gNe h (.str s) (.str s) = some (.bl false) := by
  unfold gNe; rw [eqD_str hs hs]; simp
end Law
namespace Law
open PySem Py
abbrev box (a b : Int) : Py.Obj := .lst [.int a, .int b]
theorem draw (T : Nat → List Str) (m : Int) (h0 : 0 < m) (h1 : m < 1073741824) {h : Hh} {k : Nat} {a b : Int} (hk : h[k]? = some (box a b)) :
    ∃ d a' b' : Int, 0 ≤ d ∧ d < m ∧ callB T chooseF [.ref k, .int m] h = .ok (.int d) (h.set k (box a' b')) :=
  ⟨cD a b m, cA a m, cB a b, cD_lo a b m h0, cD_hi a b m h0, callB_choose T a b m h0 h1 k h hk⟩
def oneX (T : Nat → List Str) : Fx := fnOf 2 2
 (xRet (xOp gIxX (xVar 1) (xCallB T chooseF [] (xCons (xVar 0) (xCons (xCB gLenX (xCons (xVar 1) xNil)) xNil)))))
theorem drawOne (T : Nat → List Str) (vs : List Val) (hp : pureVs vs = true) (h0 : 0 < vs.length) (h1 : vs.length < 1000000) {h : Hh} {k : Nat} {a b : Int} (hk : h[k]? = some (box a b)) :
    ∃ (v : Val) (a' b' : Int), v ∈ vs ∧ callB T (oneX T) [.ref k, .lst vs] h = .ok v (h.set k (box a' b')) := by
  have q := cD_lo a b vs.length (by omega)
  have q2 := cD_hi a b vs.length (by omega)
  have hlt : (cD a b vs.length).toNat < vs.length := by omega
  refine ⟨vs[(cD a b vs.length).toNat], cA a vs.length, cB a b, List.getElem_mem hlt, ?_⟩
  have e := callB_choose T a b vs.length (by omega) (by omega) 0 [.lst [.int a, .int b]] rfl
  have hv : vs[(cD a b vs.length).toNat]? = some vs[(cD a b vs.length).toNat] := by simp [hlt]
  have pv : pureV vs[(cD a b vs.length).toNat] = true := pureVs_all hp _ (List.getElem_mem hlt)
  generalize vs[(cD a b vs.length).toNat] = v at *
  have f1 : oneX T [.lst [.int a, .int b]] [.ref 0, .lst vs] = .ok v [.lst [.int (cA a vs.length), .int (cB a b)]] := by
    have hlen : gLenX [.lst [.int a, .int b]] [.lst vs] = some (.int vs.length, [.lst [.int a, .int b]]) := rfl
    have hix : gIxX [.lst [.int (cA a vs.length), .int (cB a b)]] (.lst vs) (.int (cD a b vs.length)) = some v := by
      show atV vs (cD a b vs.length) = _
      unfold atV; rw [if_pos q, hv]
    rw [oneX]
    simp [hlen, e, hix]
  unfold callB
  simp only [hk]
  rw [if_pos (by simp [hp]), f1]
  simp [pv]
theorem frzB_pure (T : Nat → List Str) (h : Hh) : ∀ (n : Nat) (v : Val), pureV v = true → depV v ≤ n → frzB T h n v = some v
  | 0, v, _, hd => by cases v <;> simp at hd <;> (unfold depV at hd; omega)
  | n + 1, v, hp, hd => by
    have ih := frzB_pure T h n
    cases v with
    | tup vs =>
      simp at hp hd
      show (vs.mapM (frzB T h n)).map Val.tup = _
      rw [mapM_id fun a ha => ih a (pureVs_all hp a ha) (Nat.le_trans (depVs_mem ha) (by omega))]; rfl
    | lst vs =>
      simp at hp hd
      show (vs.mapM (frzB T h n)).map Val.lst = _
      rw [mapM_id fun a ha => ih a (pureVs_all hp a ha) (Nat.le_trans (depVs_mem ha) (by omega))]; rfl
    | obj c vs =>
      simp at hp hd
      show (vs.mapM (frzB T h n)).map (Val.obj c) = _
      rw [mapM_id fun a ha => ih a (pureVs_all hp a ha) (Nat.le_trans (depVs_mem ha) (by omega))]; rfl
    | dct ks vs =>
      have hp : pureVs vs = true := by simpa [pureV] using hp
      have hd : depVs vs + 1 ≤ n + 1 := by simpa [depV] using hd
      show (vs.mapM (frzB T h n)).map (Val.dct ks) = _
      rw [mapM_id fun a ha => ih a (pureVs_all hp a ha) (Nat.le_trans (depVs_mem ha) (by omega))]; rfl
    | ref k => simp [pureV] at hp
    | _ => rfl
theorem frzB_ref {T : Nat → List Str} {h : Hh} {k n : Nat} {vs : List Val} (hk : k ≠ 0) (e : h[k]? = some (.lst vs)) (hp : pureVs vs = true) (hd : depVs vs ≤ n) : frzB T h (n + 1) (.ref k) = some (.lst vs) := by
  show (if k = 0 then none else (match h[k]? with
      | some (.lst vs) => (vs.mapM (frzB T h n)).map Val.lst
      | some (.ins c vs) => if vs.length = (T c).length then (vs.mapM (frzB T h n)).map (Val.obj c) else none
      | some (.dct ks vs) => (vs.mapM (frzB T h n)).map (Val.dct ks)
      | none => none)) = _
  rw [if_neg hk, e]
  dsimp only
  rw [mapM_id fun a ha => frzB_pure T _ n a (pureVs_all hp a ha) (Nat.le_trans (depVs_mem ha) hd)]; rfl
theorem callB_of {T : Nat → List Str} {f : Fx} {rest : List Val} {h h' : Hh} {k : Nat} {a b a' b' : Int} {v v' : Val} (hk : h[k]? = some (box a b)) (hp : pureVs rest = true) (e : f [box a b] (.ref 0 :: rest) = .ok v h') (h0 : h'[0]? = some (box a' b'))
    (hf : (if pureV v = true then some v else frzB T h' 30 v) = some v') : callB T f (.ref k :: rest) h = .ok v' (h.set k (box a' b')) := by
  unfold callB
  simp only [hk]
  rw [if_pos (by simp [hp]), e]
  dsimp only
  rw [h0]
  dsimp only
  rw [if_pos (by simp), hf]
def dayBody (T : Nat → List Str) : Sx := (xSeq (xSet 7 (xOp gPlus (xVar 5) (xCallB T (oneX T) [] (xCons (xVar 0) (xCons (xLstF (xCons (xC (.int 0)) (xCons (xC (.int 0)) (xCons (xC (.int 1)) (xCons (xC (.int 1)) (xCons (xC (.int 2)) (xCons (xC (.int 3)) (xCons (xC (.int 5)) xNil)))))))) xNil)))))
 (xSeq (xSet 8 (xOp gPlus (xVar 7) (xCallB T (oneX T) [] (xCons (xVar 0) (xCons (xLstF (xCons (xC (.int 1)) (xCons (xC (.int 1)) (xCons (xC (.int 2)) (xCons (xC (.int 3)) (xCons (xC (.int 4)) (xCons (xC (.int 9)) xNil))))))) xNil)))))
 (xIfS (xOp gLe (xVar 8) (xVar 3))
 (xSeq (xDrop (xBM "list" gAppend (xVar 4) (xCons (xTup (xCons (xVar 7) (xCons (xVar 8) (xCons (xAnd (xVar 2) (xOp gEq (xCallB T chooseF [] (xCons (xVar 0) (xCons (xC (.int 3)) xNil))) (xC (.int 0)))) xNil)))) xNil)))
 (xSet 5 (xVar 8)))
 xSkip)))
def dayF (T : Nat → List Str) : Fx := fnOf 3 9
 (xSeq (xPar3 3 4 5 (xCons (xOp gPlus (xC (.int 1)) (xCallB T chooseF [] (xCons (xVar 0) (xCons (xVar 1) xNil)))) (xCons (xLst xNil) (xCons (xC (.int 0)) xNil))))
 (xSeq (xFor (xIRng1 (xCons (xC (.int 8)) xNil)) (gN 6) (dayBody T))
 (xRet (xTup (xCons (xVar 3) (xCons (xVar 4) xNil))))))
def endOf : Int → List Mt → Int
  | a, [] => a
  | _, m :: r => endOf m.2.1 r
theorem okF_snoc (n : Int) (m : Mt) : ∀ (l : List Mt) (a : Int), okF n a (l ++ [m]) = (okF n a l && (decide (endOf a l ≤ m.1) && (decide (m.1 < m.2.1) && decide (m.2.1 ≤ n))))
  | [], a => by simp [okF, endOf]; rfl
  | x :: l, a => by simp [okF, endOf, okF_snoc n m l, Bool.and_assoc]; rfl
theorem endOf_snoc (m : Mt) : ∀ (l : List Mt) (a : Int), endOf a (l ++ [m]) = m.2.1
  | [], _ => rfl
  | x :: l, a => by simp [endOf, endOf_snoc m l]
theorem day_step (T : Nat → List Str) (top n last : Int) (s : Bool) (l : List Mt) (x6 x7 x8 : Option Val) (a b : Int) (hl : l.length < 1000) (h0 : 0 ≤ last) :
    ∃ (l' : List Mt) (last' : Int) (x7' x8' : Option Val) (a' b' : Int), l'.length ≤ l.length + 1 ∧ 0 ≤ last' ∧
      (last' = last ∧ l' = l ∨ ∃ m : Mt, l' = l ++ [m] ∧ last ≤ m.1 ∧ m.1 < m.2.1 ∧ m.2.1 ≤ n ∧ last' = m.2.1) ∧
      dayBody T [some (.ref 0), some (.int top), some (.bl s), some (.int n), some (.ref 1), some (.int last), x6, x7, x8] [box a b, .lst (eMs l)] = .next [some (.ref 0), some (.int top), some (.bl s), some (.int n), some (.ref 1), some (.int last'), x6, x7', x8'] [box a' b', .lst (eMs l')] := by
  obtain ⟨v1, a1, b1, m1, e1⟩ := drawOne T [.int 0, .int 0, .int 1, .int 1, .int 2, .int 3, .int 5] rfl (by decide) (by decide) (h := [box a b, .lst (eMs l)]) (k := 0) rfl
  obtain ⟨i1, rfl, hi1⟩ : ∃ i : Int, v1 = .int i ∧ 0 ≤ i := by
    simp at m1; rcases m1 with rfl | rfl | rfl | rfl | rfl <;> exact ⟨_, rfl, by omega⟩
  obtain ⟨v2, a2, b2, m2, e2⟩ := drawOne T [.int 1, .int 1, .int 2, .int 3, .int 4, .int 9] rfl (by decide) (by decide) (h := [box a1 b1, .lst (eMs l)]) (k := 0) rfl
  obtain ⟨i2, rfl, hi2⟩ : ∃ i : Int, v2 = .int i ∧ 1 ≤ i := by
    simp at m2; rcases m2 with rfl | rfl | rfl | rfl | rfl <;> exact ⟨_, rfl, by omega⟩
  simp at e1 e2
  by_cases hc : last + i1 + i2 ≤ n
  · have hz : l.length < 1000000 := by omega
    cases s with
    | true =>
      obtain ⟨d, a3, b3, _, _, e3⟩ := draw T 3 (by decide) (by decide) (h := [box a2 b2, .lst (eMs l)]) (k := 0) rfl
      simp at e3
      refine ⟨l ++ [(last + i1, last + i1 + i2, decide (d = 0))], last + i1 + i2, some (.int (last + i1)), some (.int (last + i1 + i2)), a3, b3, by simp, by omega, .inr ⟨_, rfl, by simp; omega, by simp; omega, by simp; omega, rfl⟩, ?_⟩
      unfold dayBody
      simp [e1, e2, e3, gPlus, gI, hc, isTy, lstOf, gEq, eqD, dat, PyData.eqv, gAppend, mutOf, hz]
      simp [eMs, eM]
      by_cases q : d = 0 <;> simp [q]
    | false =>
      refine ⟨l ++ [(last + i1, last + i1 + i2, false)], last + i1 + i2, some (.int (last + i1)), some (.int (last + i1 + i2)), a2, b2, by simp, by omega, .inr ⟨_, rfl, by simp; omega, by simp; omega, by simp; omega, rfl⟩, ?_⟩
      unfold dayBody
      simp [e1, e2, gPlus, gI, hc, isTy, lstOf, gAppend, mutOf, hz]
      simp [eMs, eM]
  · refine ⟨l, last, some (.int (last + i1)), some (.int (last + i1 + i2)), a2, b2, by omega, h0, .inl ⟨rfl, rfl⟩, ?_⟩
    unfold dayBody
    simp [e1, e2, gPlus, gI, hc]
theorem day_rounds (T : Nat → List Str) (top n : Int) (s : Bool) : ∀ (vs : List Val) (last : Int) (l : List Mt) (x6 x7 x8 : Option Val) (a b : Int), l.length + vs.length < 1000 → 0 ≤ last → last = endOf 0 l → okF n 0 l = true →
    ∃ (l' : List Mt) (sg : Sg) (a' b' : Int), l'.length ≤ l.length + vs.length ∧ okF n 0 l' = true ∧ sg.length = 4 ∧
      forItems (bodyOf (gN 6) (dayBody T)) vs [some (.ref 0), some (.int top), some (.bl s), some (.int n), some (.ref 1), some (.int last), x6, x7, x8] [box a b, .lst (eMs l)] = .next (some (.ref 0) :: some (.int top) :: some (.bl s) :: some (.int n) :: some (.ref 1) :: sg) [box a' b', .lst (eMs l')]
  | [], last, l, x6, x7, x8, a, b, _, _, _, ho => ⟨l, _, a, b, by simp, ho, rfl, rfl⟩
  | v :: vs, last, l, x6, x7, x8, a, b, hz, h0, hlast, ho => by
    obtain ⟨l1, last1, y7, y8, a1, b1, q1, q2, q3, e⟩ := day_step T top n last s l (some v) x7 x8 a b (by simp at hz; omega) h0
    have hok : okF n 0 l1 = true ∧ last1 = endOf 0 l1 := by
      rcases q3 with ⟨rfl, rfl⟩ | ⟨m, rfl, p1, p2, p3, rfl⟩
      · exact ⟨ho, hlast⟩
      · rw [okF_snoc, ho, endOf_snoc]
        simp [← hlast, p1, p2, p3]
    obtain ⟨l2, sg, a2, b2, r1, r2, r3, e2⟩ := day_rounds T top n s vs last1 l1 (some v) y7 y8 a1 b1 (by simp at hz; omega) q2 hok.2 hok.1
    refine ⟨l2, sg, a2, b2, by simp; omega, r2, r3, ?_⟩
    unfold forItems
    have : bodyOf (gN 6) (dayBody T) v [some (.ref 0), some (.int top), some (.bl s), some (.int n), some (.ref 1), some (.int last), x6, x7, x8] [box a b, .lst (eMs l)] = dayBody T [some (.ref 0), some (.int top), some (.bl s), some (.int n), some (.ref 1), some (.int last), some v, x7, x8] [box a b, .lst (eMs l)] := rfl
    rw [this, e]
    exact e2
theorem draw_day (T : Nat → List Str) (top : Int) (s : Bool) (ht0 : 0 < top) (ht1 : top < 1000000) {h : Hh} {k : Nat} {a b : Int} (hk : h[k]? = some (box a b)) :
    ∃ (n : Int) (l : List Mt) (a' b' : Int), 1 ≤ n ∧ n ≤ top ∧ l.length ≤ 8 ∧ okF n 0 l = true ∧ callB T (dayF T) [.ref k, .int top, .bl s] h = .ok (.tup [.int n, .lst (eMs l)]) (h.set k (box a' b')) := by
  obtain ⟨d, a1, b1, d1, d2, e1⟩ := draw T top ht0 (by omega) (h := [box a b]) (k := 0) rfl
  simp at e1
  obtain ⟨l, sg, a2, b2, q1, q2, q3, e2⟩ := day_rounds T top (1 + d) s (rng 0 8) 0 [] none none none a1 b1 (by simp [rng_len]) (by omega) rfl rfl
  refine ⟨1 + d, l, a2, b2, by omega, by omega, by simpa [rng_len] using q1, q2, ?_⟩
  have e2' : forItems (bodyOf (gN 6) (dayBody T)) (rng 0 8) [some (.ref 0), some (.int top), some (.bl s), some (.int (1 + d)), some (.ref 1), some (.int 0), none, none, none] [box a1 b1, .lst []] = .next (some (.ref 0) :: some (.int top) :: some (.bl s) :: some (.int (1 + d)) :: some (.ref 1) :: sg) [box a2 b2, .lst (eMs l)] := e2
  refine callB_of (v := .tup [.int (1 + d), .ref 1]) (h' := [box a2 b2, .lst (eMs l)]) hk rfl ?_ rfl ?_
  · rw [dayF]
    simp [xPar3, e1, gPlus, small62, e2']
  · have := dep_eMs l
    have e3 := frzB_ref (T := T) (h := [box a2 b2, .lst (eMs l)]) (k := 1) (n := 28) (by decide) rfl (pure_eMs l) (by omega)
    show (if pureV (.tup [.int (1 + d), .ref 1]) = true then _ else (([.int (1 + d), .ref 1] : List Val).mapM (frzB T [box a2 b2, .lst (eMs l)] 29)).map Val.tup) = _
    rw [if_neg (by simp [pureV]), List.mapM_cons, List.mapM_cons, e3]
    rfl
end Law
namespace Law
open PySem Py
theorem okF_iff {n : Int} : ∀ {l : List Mt} {a : Int}, okF n a l = true ↔ (∀ m ∈ l, a ≤ m.1 ∧ m.1 < m.2.1 ∧ m.2.1 ≤ n) ∧ l.Pairwise fun x y => x.2.1 ≤ y.1
  | [], a => by simp [okF]
  | x :: l, a => by
    have ih := okF_iff (n := n) (l := l) (a := x.2.1)
    simp only [okF, Bool.and_eq_true, decide_eq_true_eq, ih, List.pairwise_cons, List.mem_cons]
    constructor
    · rintro ⟨h1, h2, h3, h4, h5⟩
      refine ⟨?_, fun y hy => (h4 y hy).1, h5⟩
      rintro m (rfl | hm)
      · exact ⟨h1, h2, h3⟩
      · have := h4 m hm; exact ⟨by omega, this.2⟩
    · rintro ⟨h1, h2, h3⟩
      have hx := h1 x (.inl rfl)
      exact ⟨hx.1, hx.2.1, hx.2.2, fun m hm => ⟨h2 m hm, (h1 m (.inr hm)).2⟩, h3⟩
theorem Good.sub {n : Int} {l l' : List Mt} (g : Good n l) (s : l'.Sublist l) : Good n l' :=
  ⟨g.lo, g.hi, okF_iff.mpr ⟨fun m hm => (okF_iff.mp g.ok).1 m (s.subset hm), (okF_iff.mp g.ok).2.sublist s⟩⟩
theorem Good.parts {n : Int} {A B : List Mt} {m : Mt} (g : Good n (A ++ m :: B)) : (∀ x ∈ A, x.1 < x.2.1 ∧ x.2.1 ≤ m.1) ∧ m.1 < m.2.1 ∧ (∀ x ∈ B, m.2.1 ≤ x.1 ∧ x.1 < x.2.1) := by
  obtain ⟨h1, h2⟩ := okF_iff.mp g.ok
  rw [List.pairwise_append] at h2
  obtain ⟨_, h3, h4⟩ := h2
  rw [List.pairwise_cons] at h3
  refine ⟨fun x hx => ⟨(h1 x (by simp [hx])).2.1, h4 x hx m (by simp)⟩, (h1 m (by simp)).2.1, fun x hx => ⟨h3.1 x hx, (h1 x (by simp [hx])).2.1⟩⟩
theorem having_ok {n : Int} {A B : List Mt} {m : Mt} (g : Good n (A ++ m :: B)) (h : Hh) : callQ TBf f_Day_having [eDay n (A ++ B), eM m] h = .ok (eDay n (A ++ m :: B)) h := by
  obtain ⟨p1, p2, p3⟩ := g.parts
  have hl := g.len
  have gAB : Good n (A ++ B) := g.sub (List.Sublist.append_left (List.sublist_cons_self _ _) _)
  have om : okM m = true := (g.all m (by simp)).1
  refine callQ_pure (callP_nil (h' := []) (v := eDay n (A ++ m :: B)) ?_ rfl) (by simp) h
  have at0 : ∀ h : Hh, gAttr [(10, 0)] h (eDay n (A ++ B)) = some (.int n) := fun _ => rfl
  have at1 : ∀ h : Hh, gAttr [(10, 1)] h (eDay n (A ++ B)) = some (.tup (eMs (A ++ B))) := fun _ => rfl
  have hz : A.length + B.length ≤ 1000000 := by simp at hl; omega
  have i0 : ∀ (x : Mt) (h : Hh), gIxX h (eM x) (.int 0) = some (.int x.1) := fun _ _ => rfl
  have hcm : compItems (gN 3) (xOp gLt (xOp gIxX (xVar 3) (xC (.int 0))) (xOp gIxX (xVar 1) (xC (.int 0)))) (xVar 3) [some (eDay n (A ++ B)), some (eM m), none, none] (eMs (A ++ B)) [] [] = .ok (eMs A) [] := by
    have := comp_filter (enc := eM) (fun x => decide (x.1 < m.1)) eM (g := gN 3) (t := xOp gLt (xOp gIxX (xVar 3) (xC (.int 0))) (xOp gIxX (xVar 1) (xC (.int 0)))) (e := xVar 3) (sg := [some (eDay n (A ++ B)), some (eM m), none, none]) (h := []) (A ++ B) [] (fun x hx => ⟨_, rfl, by simp [i0, gI], fun _ => rfl⟩)
    have e : (A ++ B).filter (fun x => decide (x.1 < m.1)) = A := by
      rw [List.filter_append, List.filter_eq_self.mpr (fun x hx => by have := p1 x hx; simp; omega), List.filter_eq_nil_iff.mpr (fun x hx => by have := p3 x hx; simp; omega), List.append_nil]
    rw [e] at this
    simpa [eMs] using this
  have sl : slV [] (.tup (eMs (A ++ B))) (some (A.length : Int)) none = some (.tup (eMs B)) := by
    show some (Val.tup (cutL (eMs (A ++ B)) (some (A.length : Int)) none)) = _
    unfold cutL
    rw [HT.sIx_nat]
    simp only [HT.sIx]
    have e1 : eMs (A ++ B) = eMs A ++ eMs B := by simp [eMs]
    rw [e1]
    have e2 : min A.length (eMs A ++ eMs B).length = (eMs A).length := by simp
    rw [e2, List.drop_left, List.take_of_length_le (by simp)]
  have ln : gLenX [] [.lst (eMs A)] = some (.int A.length, []) := by simp [gLenX, dctOf, gLen, lstOf]
  have mk := make_day g (.tup (eMs (A ++ m :: B))) (.inr rfl) []
  have e3 : eMs A ++ eM m :: eMs B = eMs (A ++ m :: B) := by simp [eMs]
  have hz2 : A.length + (B.length + 1) ≤ 1000000 := by simp at hl; omega
  rw [f_Day_having]
  simp [is_meeting_eM, om, at0, at1, hz, wipeG, hcm, xStar, seqOf, lstOf, xSlice, oSome, oNone, ln, partOf, sl, hz2, e3, mk]
def pI (k : Int) : It2 := (.int k, .int k)
theorem lt_int (a b : Int) : lt2 (pI a) (pI b) = decide (a < b) := by
  exact PySem.W.dataLt_int a b
def tk (m : Mt) : List Int := (List.range (m.2.1 - m.1).toNat).map fun (i : Nat) => m.1 + (i : Int)
end Law
namespace Law
open PySem Py
abbrev Kn := Int × Bool
structure Fr where
  len : Int
  sh : Int
  most : Option Int
  priv : Bool
  known : List Kn
def eK (k : Kn) : Val := .tup [.int k.1, .bl k.2]
def eKs (l : List Kn) : List Val := l.map eK
def eO : Option Int → Val
  | none => .non
  | some i => .int i
def eFr (f : Fr) : Val := .obj 12 [.int f.len, .int f.sh, eO f.most, .bl f.priv, .tup (eKs f.known)]
@[simp] theorem pure_eK (m : Kn) : pureV (eK m) = true := rfl
@[simp] theorem pure_eKs (l : List Kn) : pureVs (eKs l) = true := pureVs_map pure_eK l
@[simp] theorem noLst_eK (m : Kn) : noLst (eK m) = true := rfl
@[simp] theorem noLst_eKs (l : List Kn) : noLsts (eKs l) = true := noLsts_map noLst_eK l
@[simp] theorem dep_eK (m : Kn) : depV (eK m) = 2 := rfl
@[simp] theorem len_eKs (l : List Kn) : (eKs l).length = l.length := by simp [eKs]
@[simp] theorem pure_eO (o : Option Int) : pureV (eO o) = true := by cases o <;> rfl
@[simp] theorem noLst_eO (o : Option Int) : noLst (eO o) = true := by cases o <;> rfl
@[simp] theorem dep_eO (o : Option Int) : depV (eO o) = 1 := by cases o <;> rfl
@[simp] theorem pure_eFr (f : Fr) : pureV (eFr f) = true := by simp [eFr]
@[simp] theorem noLst_eFr (f : Fr) : noLst (eFr f) = true := by simp [eFr]
structure GoodF (f : Fr) : Prop where
  l1 : 1 ≤ f.len
  l2 : f.len < 100
  s1 : 1 ≤ f.sh
  s2 : f.sh < 100
  m : ∀ i, f.most = some i → 0 ≤ i ∧ i < 100
  k : ∀ x ∈ f.known, 0 ≤ x.1 ∧ x.1 < f.len
  kl : f.known.length ≤ 50
end Law
namespace Law
open PySem Py
end Law
namespace Law
open PySem Py
theorem gNe_int (a b : Int) (h : Hh) : gNe h (.int a) (.int b) = some (.bl (!decide (a = b))) := by
  simp only [gNe, eqD, dat, PyData.eqv, Option.map_some]
  by_cases e : a = b <;> simp [e]
end Law
namespace Py
open PySem
mutual
def okA : Val → Bool
  | .tup vs => okAs vs
  | .lst vs => okAs vs
  | .obj c vs => decide (10 ≤ c) && pureVs vs
  | .ref _ => false
  | .glo _ => false
  | .dct _ _ => false
  | _ => true
def okAs : List Val → Bool
  | [] => true
  | v :: vs => okA v && okAs vs
end
@[simp] theorem okA_non : okA .non = true := by simp [okA]
@[simp] theorem okA_bl (b : Bool) : okA (.bl b) = true := by simp [okA]
@[simp] theorem okA_int (i : Int) : okA (.int i) = true := by simp [okA]
@[simp] theorem okA_str (s : List Nat) : okA (.str s) = true := by simp [okA]
@[simp] theorem okA_tup (vs : List Val) : okA (.tup vs) = okAs vs := by simp [okA]
@[simp] theorem okA_lst (vs : List Val) : okA (.lst vs) = okAs vs := by simp [okA]
@[simp] theorem okA_obj (c : Nat) (vs : List Val) : okA (.obj c vs) = (decide (10 ≤ c) && pureVs vs) := by simp [okA]
@[simp] theorem okA_ref (k : Nat) : okA (.ref k) = false := by simp [okA]
@[simp] theorem okA_glo (k : Nat) : okA (.glo k) = false := by simp [okA]
@[simp] theorem okA_dct (k vs : List Val) : okA (.dct k vs) = false := by simp [okA]
@[simp] theorem okAs_nil : okAs [] = true := rfl
@[simp] theorem okAs_cons (v : Val) (vs : List Val) : okAs (v :: vs) = (okA v && okAs vs) := rfl
@[simp] theorem okAs_app (a b : List Val) : okAs (a ++ b) = (okAs a && okAs b) := by
  induction a with
  | nil => rfl
  | cons v a ih => simp [ih, Bool.and_assoc]
mutual
theorem okA_pure : ∀ {v : Val}, okA v = true → pureV v = true
  | .non, _ => rfl
  | .bl _, _ => rfl
  | .int _, _ => rfl
  | .str _, _ => rfl
  | .tup vs, h => by simp at h ⊢; exact okAs_pure h
  | .lst vs, h => by simp at h ⊢; exact okAs_pure h
  | .obj c vs, h => by simp at h ⊢; exact h.2
  | .ref _, h => by simp at h
  | .glo _, h => by simp at h
  | .dct _ _, h => by simp at h
theorem okAs_pure : ∀ {vs : List Val}, okAs vs = true → pureVs vs = true
  | [], _ => rfl
  | v :: vs, h => by simp at h ⊢; exact ⟨okA_pure h.1, okAs_pure h.2⟩
end
theorem okAs_all : ∀ {vs : List Val}, okAs vs = true → ∀ v ∈ vs, okA v = true
  | v :: vs, h, u, hu => by
    simp at h
    rcases List.mem_cons.mp hu with rfl | hu
    · exact h.1
    · exact okAs_all h.2 u hu
theorem okAs_of : ∀ {vs : List Val}, (∀ v ∈ vs, okA v = true) → okAs vs = true
  | [], _ => rfl
  | v :: vs, h => by simp [h v (by simp), okAs_of fun u hu => h u (List.mem_cons_of_mem _ hu)]
def isK (b : Kd) : Val → Bool
  | .non => kdIs .non b
  | .bl _ => kdIs .bool b
  | .int _ => kdIs .int b
  | .str _ => kdIs .str b
  | .tup _ => kdIs .tuple b
  | .lst _ => kdIs .list b
  | _ => false
theorem gIsi_any (b : Kd) (h : Hh) {v : Val} (ha : okA v = true) : gIsi b h v = some (.bl (isK b v)) := by
  cases v with
  | obj c us => simp at ha; simp [gIsi, ha.1, isK]
  | ref k => simp at ha
  | glo k => simp at ha
  | dct k us => simp at ha
  | _ => rfl
theorem gIsi2_any (b c : Kd) (h : Hh) {v : Val} (ha : okA v = true) : gIsi2 b c h v = some (.bl (isK b v || isK c v)) := by
  cases v with
  | obj c us => simp at ha; simp [gIsi2, ha.1, isK]
  | ref k => simp at ha
  | glo k => simp at ha
  | dct k us => simp at ha
  | _ => rfl
def isInt : Val → Bool
  | .int _ => true
  | _ => false
def isBl : Val → Bool
  | .bl _ => true
  | _ => false
def isNum (low : Int) : Val → Bool
  | .int i => decide (low ≤ i)
  | _ => false
def sqV : Val → Option (List Val)
  | .tup vs => some vs
  | .lst vs => some vs
  | _ => none
theorem isInt_eq (v : Val) : (isK .int v && !isK .bool v) = isInt v := by cases v <;> rfl
theorem isBl_eq (v : Val) : isK .bool v = isBl v := by cases v <;> rfl
theorem isSeq_eq (v : Val) : (isK .list v || isK .tuple v) = (sqV v).isSome := by cases v <;> rfl
theorem sqV_ok {v : Val} {vs : List Val} (ha : okA v = true) (e : sqV v = some vs) : okAs vs = true := by
  cases v <;> cases e <;> simpa using ha
theorem sqV_isx {v : Val} {vs : List Val} (e : sqV v = some vs) (h : Hh) : (Res.ok v h).isx = .ok (.items vs) h := by
  cases v <;> cases e <;> rfl
def ResS.catch (r : ResS) (i : Nat) (cs : List Nat) (hs : List (Nat × (List Val → Sx))) : ResS := match r with
  | .exc c fs sg h => if c ∈ cs ∧ i < sg.length then tryH i c fs sg h hs else .bad
  | r => r
@[simp] theorem try_ap (i : Nat) (cs : List Nat) (b : Sx) (hs : List (Nat × (List Val → Sx))) (sg : Sg) (h : Hh) : xTry i cs b hs sg h = (b sg h).catch i cs hs := by
  unfold xTry ResS.catch; cases b sg h <;> rfl
section
variable {sg : Sg} {h : Hh} {i : Nat} {cs : List Nat} {hs : List (Nat × (List Val → Sx))}
@[simp] theorem catch_next : (ResS.next sg h).catch i cs hs = .next sg h := rfl
@[simp] theorem catch_ret (v : Val) : (ResS.ret v h).catch i cs hs = .ret v h := rfl
@[simp] theorem catch_exc (c : Nat) (fs : List Val) : (ResS.exc c fs sg h).catch i cs hs = if c ∈ cs ∧ i < sg.length then tryH i c fs sg h hs else .bad := rfl
@[simp] theorem tryH_cons (k c : Nat) (fs : List Val) (f : List Val → Sx) (r : List (Nat × (List Val → Sx))) : tryH i c fs sg h ((k, f) :: r) = if c = k then unset i (f fs (sg.set i none) h) else tryH i c fs sg h r := rfl
@[simp] theorem tryH_nil (c : Nat) (fs : List Val) : tryH i c fs sg h [] = .exc c fs sg h := rfl
@[simp] theorem unset_next : unset i (.next sg h) = .next (sg.set i none) h := rfl
@[simp] theorem xfld_ap (v : Val) : xXfld [v] sg h = .ok v h := rfl
@[simp] theorem raise_ap (c : Nat) (e : Ex) : xRaise c e sg h = (e sg h).bindS sg fun v h1 => .exc c [v] sg h1 := rfl
end
theorem callP_nilE {T : Nat → List Str} {f : Fx} {as : List Val} {c : Nat} {w : List Nat} {h' : Hh} (e : f [] as = .exc c [.str w] h') : callP T f as [] = .exc c [.str w] [] := by
  unfold callP
  have : frzTops T h' [.str w] = some [.str w] := by cases h' <;> rfl
  simp [e, this]
theorem callP_anyE {T : Nat → List Str} {f : Fx} {as : List Val} {c : Nat} {fs : List Val} (hp : pureVs as = true) (e : callP T f as [] = .exc c fs []) (h : Hh) : callP T f as h = .exc c fs h := by
  unfold callP at e ⊢
  rw [hp, Bool.or_true, if_pos rfl] at e ⊢
  cases q : f [] as with
  | bad => rw [q] at e; cases e
  | exc c1 fs1 h1 =>
    rw [q] at e
    dsimp only at e ⊢
    cases qq : frzTops T h1 fs1 with
    | none => rw [qq] at e; cases e
    | some w => rw [qq] at e; cases e; rfl
  | ok u h1 =>
    rw [q] at e
    dsimp only at e
    cases qq : frzTop T h1 u with
    | none => rw [qq] at e; cases e
    | some w => rw [qq] at e; cases e
theorem callQ_pureE {T : Nat → List Str} {f : Fx} {as : List Val} {c : Nat} {fs : List Val} (e : callP T f as [] = .exc c fs []) (hp : pureVs as = true) (h : Hh) : callQ T f as h = .exc c fs h := by
  unfold callQ; rw [if_pos hp]; exact callP_anyE hp e h
theorem makeP_nilE {T : Nat → List Str} {k : Nat} {f : Fx} {as : List Val} {c : Nat} {w : List Nat} {h' : Hh} (e : f [.ins k []] (.ref 0 :: as) = .exc c [.str w] h') : makeP T k f as [] = .exc c [.str w] [] := by
  unfold makeP
  have : frzTops T h' [.str w] = some [.str w] := by cases h' <;> rfl
  simp [e, this]
theorem makeQ_pureE {T : Nat → List Str} {k : Nat} {f : Fx} {as : List Val} {c : Nat} {fs : List Val} (e : makeP T k f as [] = .exc c fs []) (hp : pureVs as = true) (h : Hh) : makeQ T k f as h = .exc c fs h := by
  unfold makeQ; rw [if_pos hp]
  unfold makeP at e ⊢
  rw [hp, Bool.or_true, if_pos rfl] at e ⊢
  cases q : f [.ins k []] (.ref 0 :: as) with
  | bad => rw [q] at e; cases e
  | exc c1 fs1 h1 =>
    rw [q] at e
    dsimp only at e ⊢
    cases qq : frzTops T h1 fs1 with
    | none => rw [qq] at e; cases e
    | some w => rw [qq] at e; cases e; rfl
  | ok u h1 =>
    rw [q] at e
    dsimp only at e
    cases qq : frz T h1 30 (.ref 0) with
    | none => rw [qq] at e; cases e
    | some w => rw [qq] at e; cases e
theorem rounds {body : Val → Sg → Hh → ResS} {I : Sg → Hh → Prop} : ∀ (vs : List Val), (∀ v ∈ vs, ∀ sg h, I sg h → ∃ sg' h', body v sg h = .next sg' h' ∧ I sg' h') → ∀ sg h, I sg h → ∃ sg' h', forItems body vs sg h = .next sg' h' ∧ I sg' h'
  | [], _, sg, h, i => ⟨sg, h, rfl, i⟩
  | v :: vs, st, sg, h, i => by
    obtain ⟨sg1, h1, e1, i1⟩ := st v (by simp) sg h i
    obtain ⟨sg2, h2, e2, i2⟩ := rounds vs (fun u hu => st u (by simp [hu])) sg1 h1 i1
    refine ⟨sg2, h2, ?_, i2⟩
    unfold forItems
    rw [e1]
    exact e2
end Py
namespace Law
open PySem Py
theorem is_integer_any {v : Val} (ha : okA v = true) (h : Hh) : callQ TBf f_is_integer [v] h = .ok (.bl (isInt v)) h := by
  refine callQ_pure (callP_nil (h' := []) (v := .bl (isInt v)) ?_ rfl) (by simp [okA_pure ha]) h
  rw [f_is_integer]
  simp [gIsi_any _ _ ha, isInt_eq]
theorem is_bool_any {v : Val} (ha : okA v = true) (h : Hh) : callQ TBf f_is_bool [v] h = .ok (.bl (isBl v)) h := by
  refine callQ_pure (callP_nil (h' := []) (v := .bl (isBl v)) ?_ rfl) (by simp [okA_pure ha]) h
  rw [f_is_bool]
  simp [gIsi_any _ _ ha, isBl_eq]
theorem is_sequence_any {v : Val} (ha : okA v = true) (h : Hh) : callQ TBf f_is_sequence [v] h = .ok (.bl (sqV v).isSome) h := by
  refine callQ_pure (callP_nil (h' := []) (v := .bl (sqV v).isSome) ?_ rfl) (by simp [okA_pure ha]) h
  rw [f_is_sequence]
  simp [gIsi2_any _ _ _ ha, isSeq_eq]
theorem is_number_any {v : Val} (ha : okA v = true) (h : Hh) : callQ TBf f_is_number [v] h = .ok (.bl (isNum 0 v)) h := by
  refine callQ_pure (callP_nil (h' := []) (v := .bl (isNum 0 v)) ?_ rfl) (by simp [okA_pure ha]) h
  rw [f_is_number]
  have e := is_integer_any ha []
  cases v <;> simp [e, isInt, isNum, gI]
theorem comp_any {r : Val → Val} {g : Gx} {t e : Ex} {sg : Sg} {h : Hh} (vs : List Val) (hb : ∀ v ∈ vs, ∃ sg1, g v sg h = .ok sg1 h ∧ t sg1 h = .ok (.bl true) h ∧ e sg1 h = .ok (r v) h) : compItems g t e sg vs [] h = .ok (vs.map r) h := by
  have := comp_map (enc := id) r (g := g) (t := t) (e := e) (sg := sg) (h := h) vs [] hb
  simpa using this
theorem gAll_map (p : Val → Bool) (vs : List Val) (h : Hh) : gAll h [.lst (vs.map fun v => .bl (p v))] = some (.bl (vs.all p), h) := by
  have : (vs.map p).all id = vs.all p := by simp [List.all_map, Function.comp_def]
  simp [gAll, lstOf, -List.all_map, this]
end Law
namespace Law
open PySem Py
def leafVs : List Val := [.non, .bl true, .bl false, .int 0, .int 1, .int (-1), .int 2, .int 3, .str [], .str [98, 117, 115, 121], .str [112, 114, 105, 118, 97, 116, 101], .str [111, 110, 101], .str [50, 45, 53], .str [45], .str [49, 50, 58, 32, 45]]
structure AnyOk (m : Nat) (v : Val) : Prop where
  ok : okA v = true
  len : ∀ vs, sqV v = some vs → vs.length ≤ 3
  dt : ∀ h, ∃ d, dat h m v = some d
  lf : ∀ s, v = .str s → v ∈ leafVs
end Law
namespace Law
open PySem Py
theorem get_set {h : Hh} {k : Nat} {x y : Py.Obj} (e : h[k]? = some x) : (h.set k y)[k]? = some y := by
  have := (List.getElem?_eq_some_iff.mp e).1
  rw [List.getElem?_set_self this]
theorem get_end (h : Hh) (x : Py.Obj) : (h ++ [x])[h.length]? = some x := by simp
structure NiceV (v : Val) : Prop where
  ok : okA v = true
  sq : ∀ us, sqV v = some us → us.length ≤ 1000 ∧ ∀ u ∈ us, ∀ h, ∃ d, dat h 28 u = some d
end Law
namespace Law
open PySem Py
def meetOk : Val → Bool
  | .tup [.int a, .int b, .bl _] => decide (0 ≤ a) && (decide (0 ≤ b) && decide (a < b))
  | _ => false
def decM : Val → Option Mt
  | .tup [.int a, .int b, .bl c] => some (a, b, c)
  | _ => none
theorem meet_dec {v : Val} (h : meetOk v = true) : ∃ m, v = eM m ∧ okM m = true ∧ decM v = some m := by
  unfold meetOk at h
  split at h
  · rename_i a b c
    exact ⟨(a, b, c), rfl, h, rfl⟩
  · cases h
theorem meets_dec : ∀ {vs : List Val}, vs.all meetOk = true → ∃ l : List Mt, vs = eMs l ∧ l.all okM = true ∧ vs.filterMap decM = l
  | [], _ => ⟨[], rfl, rfl, rfl⟩
  | v :: vs, h => by
    simp only [List.all_cons, Bool.and_eq_true] at h
    obtain ⟨m, rfl, hm, dm⟩ := meet_dec h.1
    obtain ⟨l, rfl, hl, dl⟩ := meets_dec h.2
    exact ⟨m :: l, rfl, by simp only [List.all_cons, hm, hl, Bool.and_self], by rw [List.filterMap_cons, dm, dl]⟩
theorem tup_len (vs : List Val) : (∃ x y z, vs = [x, y, z]) ∨ vs.length ≠ 3 := by
  match vs with
  | [] => exact .inr (by decide)
  | [_] => exact .inr (by simp)
  | [_, _] => exact .inr (by simp)
  | [x, y, z] => exact .inl ⟨x, y, z, rfl⟩
  | _ :: _ :: _ :: _ :: t => exact .inr (by simp)
theorem meetOk_len {vs : List Val} (h : vs.length ≠ 3) : meetOk (.tup vs) = false := by
  unfold meetOk
  split
  · rename_i e; cases e; exact absurd rfl h
  · rfl
theorem is_meeting_any {v : Val} (ha : okA v = true) (h : Hh) : callQ TBf f_is_meeting [v] h = .ok (.bl (meetOk v)) h := by
  refine callQ_pure (callP_nil (h' := []) (v := .bl (meetOk v)) ?_ rfl) (by simp [okA_pure ha]) h
  rw [f_is_meeting]
  have g1 := gIsi_any .tuple [] ha
  cases v with
  | tup vs =>
    have g2 : isK .tuple (.tup vs) = true := rfl
    have e : gLenX [] [.tup vs] = some (.int (vs.length : Nat), []) := rfl
    rcases tup_len vs with ⟨x, y, z, rfl⟩ | hl
    · simp at ha
      have e1 := is_number_any ha.1 []
      have e2 := is_number_any ha.2.1 []
      have e3 := is_bool_any ha.2.2 []
      cases q1 : isNum 0 x with
      | false =>
        have : meetOk (.tup [x, y, z]) = false := by cases x <;> simp_all [meetOk, isNum] <;> (split <;> simp_all <;> intros <;> omega)
        simp [g1, g2, e, gNe_int, e1, q1, this]
      | true =>
        obtain ⟨a, rfl, h0⟩ : ∃ n, x = .int n ∧ 0 ≤ n := by cases x <;> simp [isNum] at q1; exact ⟨_, rfl, q1⟩
        cases q2 : isNum 0 y with
        | false =>
          have : meetOk (.tup [.int a, y, z]) = false := by cases y <;> simp_all [meetOk, isNum] <;> (split <;> simp_all <;> intros <;> omega)
          simp [g1, g2, e, gNe_int, e1, e2, q1, q2, this]
        | true =>
          obtain ⟨b, rfl, h1⟩ : ∃ n, y = .int n ∧ 0 ≤ n := by cases y <;> simp [isNum] at q2; exact ⟨_, rfl, q2⟩
          cases z <;> simp [g1, g2, e, gNe_int, e1, e2, e3, q1, q2, isBl, meetOk, gI, h0, h1]
    · have n3 : ¬ ((vs.length : Int) = 3) := by omega
      simp [g1, g2, e, gNe_int, n3, meetOk_len hl]
  | _ => simp [g1, isK, kdIs, meetOk]
def meetsOk (n : Int) (v : Val) : Bool := match sqV v with
  | some vs => vs.all meetOk && okF n 0 (vs.filterMap decM)
  | none => false
theorem are_meetings_any (n : Int) {v : Val} (ha : okA v = true) (hl : ∀ vs, sqV v = some vs → vs.length ≤ 1000) (h : Hh) : callQ TBf f_are_meetings [.int n, v] h = .ok (.bl (meetsOk n v)) h := by
  refine callQ_pure (callP_nil (h' := []) (v := .bl (meetsOk n v)) ?_ rfl) (by simp [okA_pure ha]) h
  cases e : sqV v with
  | none =>
    have hs := is_sequence_any ha []
    rw [f_are_meetings]
    simp [hs, e, meetsOk]
  | some vs =>
    have hz := hl vs e
    cases hp : vs.all meetOk with
    | true =>
      obtain ⟨l, rfl, hm, dl⟩ := meets_dec hp
      have : meetsOk n v = okMs n l := by simp only [meetsOk, e, hp, dl, okMs, hm, Bool.true_and]
      rw [this]
      exact are_meetings_fn n l (by simpa using hz) v (by cases v <;> cases e <;> first | exact .inl rfl | exact .inr rfl)
    | false =>
      have hs := is_sequence_any ha []
      have hi := sqV_isx e []
      have oks := sqV_ok ha e
      have hz2 : vs.length ≤ 1000000 := by omega
      have c1 : compItems (gN 6) (xC (.bl true)) (xCallP TBf f_is_meeting [] (xCons (xVar 6) xNil)) [some (.int n), some v, none, none, none, none, none] vs [] [] = .ok (vs.map fun v => .bl (meetOk v)) [] :=
        comp_any vs fun u hu => ⟨_, rfl, rfl, by simp [is_meeting_any (okAs_all oks u hu)]⟩
      have g1 := gAll_map meetOk vs []
      have : meetsOk n v = false := by simp only [meetsOk, e, hp, Bool.false_and]
      rw [f_are_meetings]
      simp [hs, e, hi, hz2, wipeG, c1, g1, hp, this]
def wMeetings : List Nat := [109, 101, 101, 116, 105, 110, 103, 115]
def wLen : List Nat := [108, 101, 110, 103, 116, 104]
def dueD (a b : Val) : List Nat := match a with
  | .int n => if n < 1 then wLen else if meetsOk n b then [] else wMeetings
  | _ => wLen
theorem day_init_any {a b : Val} (ha : okA a = true) (hb : okA b = true) (hl : ∀ vs, sqV b = some vs → vs.length ≤ 1000) (h : Hh) :
    (dueD a b = [] ∧ ∃ n l, a = .int n ∧ 1 ≤ n ∧ sqV b = some (eMs l) ∧ okMs n l = true ∧ makeQ TBf 10 f_Day_init [a, b] h = .ok (eDay n l) h) ∨ (dueD a b ≠ [] ∧ makeQ TBf 10 f_Day_init [a, b] h = .exc 1 [.str (dueD a b)] h) := by
  have hp : pureVs [a, b] = true := by simp [okA_pure ha, okA_pure hb]
  have i1 := fun h => is_integer_any ha h
  have bad : ∀ w : List Nat, dueD a b = w → w ≠ [] → f_Day_init [.ins 10 []] [.ref 0, a, b] = .exc 1 [.str w] [.ins 10 []] → (dueD a b = [] ∧ ∃ n l, a = .int n ∧ 1 ≤ n ∧ sqV b = some (eMs l) ∧ okMs n l = true ∧ makeQ TBf 10 f_Day_init [a, b] h = .ok (eDay n l) h) ∨ (dueD a b ≠ [] ∧ makeQ TBf 10 f_Day_init [a, b] h = .exc 1 [.str (dueD a b)] h) := by
    intro w e1 e2 e3
    exact .inr ⟨by rw [e1]; exact e2, by rw [e1]; exact makeQ_pureE (makeP_nilE e3) hp h⟩
  cases q1 : isInt a with
  | false =>
    have e : dueD a b = wLen := by cases a <;> simp_all [dueD, isInt]
    refine bad wLen e (by decide) ?_
    rw [f_Day_init]
    simp [i1, q1, wLen]
  | true =>
    obtain ⟨n, rfl⟩ : ∃ n, a = .int n := by cases a <;> simp [isInt] at q1; exact ⟨_, rfl⟩
    by_cases z1 : n < 1
    · refine bad wLen (by simp [dueD, z1]) (by decide) ?_
      rw [f_Day_init]
      simp [i1, q1, gI, z1, wLen]
    · have am := fun h => are_meetings_any n hb hl h
      cases q2 : meetsOk n b with
      | false =>
        refine bad wMeetings (by simp [dueD, z1, q2]) (by decide) ?_
        rw [f_Day_init]
        simp [i1, q1, gI, z1, am, q2, wMeetings]
      | true =>
        refine .inl ⟨by simp [dueD, z1, q2], ?_⟩
        have q3 := q2
        unfold meetsOk at q3
        cases e : sqV b with
        | none => rw [e] at q3; cases q3
        | some vs =>
          rw [e] at q3
          simp only [Bool.and_eq_true] at q3
          obtain ⟨l, rfl, hm, dl⟩ := meets_dec q3.1
          rw [dl] at q3
          have ho : okMs n l = true := by simp only [okMs, hm, q3.2, Bool.and_self]
          have hz := hl _ e
          simp at hz
          exact ⟨n, l, rfl, by omega, rfl, ho, makeQ_pure (day_init_ok n l (by omega) hz ho b (by cases b <;> cases e <;> first | exact .inl rfl | exact .inr rfl)) hp h⟩
end Law
namespace Law
open PySem Py
variable {n : Int} {l : List Mt}
theorem callP_nilEi {T : Nat → List Str} {f : Fx} {as : List Val} {c : Nat} {i : Int} {h' : Hh} (e : f [] as = .exc c [.int i] h') : callP T f as [] = .exc c [.int i] [] := by
  unfold callP
  have : frzTops T h' [.int i] = some [.int i] := by cases h' <;> rfl
  simp [e, this]
theorem at0D (n : Int) (l : List Mt) (h : Hh) : gAttr [(10, 0)] h (eDay n l) = some (.int n) := rfl
theorem at1D (n : Int) (l : List Mt) (h : Hh) : gAttr [(10, 1)] h (eDay n l) = some (.tup (eMs l)) := rfl
theorem lenT (l : List Mt) (h : Hh) : gLenX h [.tup (eMs l)] = some (.int (l.length : Nat), h) := by
  have : gLenX h [.tup (eMs l)] = some (.int ((eMs l).length : Nat), h) := rfl
  rw [this, len_eMs]
theorem need_okX (n : Int) (l : List Mt) (i : Int) (h0 : 0 ≤ i) (h1 : i < l.length) (h : Hh) : callQ TBf f_Day_need_indexX [eDay n l, .int i] h = .ok .non h := by
  refine callQ_pure (callP_nil (h' := []) (v := .non) ?_ rfl) (by simp) h
  rw [f_Day_need_indexX]
  simp [at1D, lenT, gI, h0, h1]
theorem need_badX (n : Int) (l : List Mt) (i : Int) (hb : i < 0 ∨ (l.length : Int) ≤ i) (h : Hh) : callQ TBf f_Day_need_indexX [eDay n l, .int i] h = .exc 9 [.int i] h := by
  refine callQ_pureE (callP_nilEi (h' := []) ?_) (by simp) h
  rw [f_Day_need_indexX]
  by_cases h0 : 0 ≤ i
  · have h1 : ¬ i < (l.length : Int) := by omega
    simp [at1D, lenT, gI, h0, h1]
  · simp [at1D, lenT, gI, h0]
theorem isD (n : Int) (l : List Mt) (h : Hh) : isA 10 h (eDay n l) = true := rfl
theorem cut_from {α : Type} (xs : List α) (k : Nat) (hk : k ≤ xs.length) : cutL xs (some (k : Int)) none = xs.drop k := by
  unfold cutL
  rw [HT.sIx_nat]
  simp only [HT.sIx]
  rw [Nat.min_eq_left hk, List.take_of_length_le (by simp)]
theorem cut_to {α : Type} (xs : List α) (k : Nat) (hk : k ≤ xs.length) : cutL xs none (some (k : Int)) = xs.take k := by
  unfold cutL
  rw [HT.sIx_nat]
  simp only [HT.sIx]
  rw [Nat.min_eq_left hk, List.drop_zero, Nat.sub_zero]
theorem withoutX {A B : List Mt} {m : Mt} (g : Good n (A ++ m :: B)) (h : Hh) : callQ TBf f_Day_withoutX [eDay n (A ++ m :: B), .int A.length] h = .ok (eDay n (A ++ B)) h := by
  have hl := g.len
  have gAB : Good n (A ++ B) := g.sub (List.Sublist.append_left (List.sublist_cons_self _ _) _)
  refine callQ_pure (callP_nil (h' := []) (v := eDay n (A ++ B)) ?_ rfl) (by simp) h
  have hni := need_okX n (A ++ m :: B) A.length (by omega) (by simp; omega) []
  have e1 : eMs (A ++ m :: B) = eMs A ++ eM m :: eMs B := by simp [eMs]
  have sl1 : slV [] (.tup (eMs (A ++ m :: B))) none (some (A.length : Int)) = some (.tup (eMs A)) := by
    show some (Val.tup (cutL (eMs (A ++ m :: B)) none (some (A.length : Int)))) = _
    rw [cut_to _ _ (by simp), e1]
    congr 2
    have : A.length = (eMs A).length := by simp
    rw [this, List.take_left]
  have sl2 : slV [] (.tup (eMs (A ++ m :: B))) (some ((A.length : Int) + 1)) none = some (.tup (eMs B)) := by
    show some (Val.tup (cutL (eMs (A ++ m :: B)) (some ((A.length : Int) + 1)) none)) = _
    have e0 : ((A.length : Int) + 1) = ((A.length + 1 : Nat) : Int) := by omega
    rw [e0, cut_from _ _ (by simp), e1]
    congr 2
    have e2 : A.length + 1 = (eMs A ++ [eM m]).length := by simp
    have e3 : eMs A ++ eM m :: eMs B = (eMs A ++ [eM m]) ++ eMs B := by simp
    rw [e2, e3, List.drop_left]
  have mk := make_day gAB (.tup (eMs (A ++ B))) (.inr rfl) []
  have e4 : eMs A ++ eMs B = eMs (A ++ B) := by simp [eMs]
  have hz2 : A.length + B.length ≤ 1000000 := by simp at hl; omega
  rw [f_Day_withoutX]
  simp [isD, hni, at0D, at1D, xStar, seqOf, xSlice, oSome, oNone, partOf, sl1, sl2, gPlus, hz2, e4, mk]
theorem without_badX (n : Int) (l : List Mt) (i : Int) (hb : i < 0 ∨ (l.length : Int) ≤ i) (h : Hh) : callQ TBf f_Day_withoutX [eDay n l, .int i] h = .exc 9 [.int i] h := by
  refine callQ_pureE (callP_nilEi (h' := []) ?_) (by simp) h
  rw [f_Day_withoutX]
  simp [isD, need_badX n l i hb]
theorem getX (n : Int) (l : List Mt) (i : Nat) (m : Mt) (hi : l[i]? = some m) (h : Hh) : callP TBf f_Dayw_getitemwX [eDay n l, .int i] h = .ok (eM m) h := by
  have hlt : i < l.length := (List.getElem?_eq_some_iff.mp hi).1
  have hni := need_okX n l i (by omega) (by omega) []
  have hix : gIxX [] (.tup (eMs l)) (.int i) = some (eM m) := by
    show atV (eMs l) i = _
    have e1 : (eMs l)[i]? = some (eM m) := by simp [eMs, hi]
    simp [atV, e1]
  refine callP_any (by simp) (callP_nil (h' := []) (v := eM m) ?_ rfl) h
  rw [f_Dayw_getitemwX]
  simp [isD, hni, at1D, hix]
theorem get_badX (n : Int) (l : List Mt) (i : Int) (hb : i < 0 ∨ (l.length : Int) ≤ i) (h : Hh) : callP TBf f_Dayw_getitemwX [eDay n l, .int i] h = .exc 9 [.int i] h := by
  refine callP_anyE (by simp) (callP_nilEi (h' := []) ?_) h
  rw [f_Dayw_getitemwX]
  simp [isD, need_badX n l i hb]
theorem having_no (n : Int) (l : List Mt) {v : Val} (ha : okA v = true) (hm : meetOk v = false) (h : Hh) : callQ TBf f_Day_having [eDay n l, v] h = .exc 1 [.str wMeetings] h := by
  refine callQ_pureE (callP_nilE (h' := []) ?_) (by simp [okA_pure ha]) h
  rw [f_Day_having]
  simp [is_meeting_any ha, hm, wMeetings]
def aheadOf (m : Mt) (l : List Mt) : List Mt := l.filter fun x => decide (x.1 < m.1)
def behindOf (m : Mt) (l : List Mt) : List Mt := l.drop (aheadOf m l).length
theorem ahead_len (m : Mt) (l : List Mt) : (aheadOf m l).length ≤ l.length := List.length_filter_le _ _
theorem behind_len (m : Mt) (l : List Mt) : (aheadOf m l).length + (behindOf m l).length = l.length := by
  have := ahead_len m l
  simp [behindOf]; omega
theorem okMs_in {m : Mt} {A B : List Mt} (hA : ∀ x ∈ A, okM x = true) (hB : ∀ x ∈ B, okM x = true) (om : okM m = true) : okMs n (A ++ m :: B) = okF n 0 (A ++ m :: B) := by
  have : (A ++ m :: B).all okM = true := List.all_eq_true.mpr fun x hx => by
    rcases List.mem_append.mp hx with q | q
    · exact hA x q
    · rcases List.mem_cons.mp q with rfl | q
      · exact om
      · exact hB x q
  simp only [okMs, this, Bool.true_and]
theorem having_any2 (g : Good n l) {m : Mt} (om : okM m = true) (h : Hh) :
    callQ TBf f_Day_having [eDay n l, eM m] h = if okF n 0 (aheadOf m l ++ m :: behindOf m l) = true then .ok (eDay n (aheadOf m l ++ m :: behindOf m l)) h else .exc 1 [.str wMeetings] h := by
  have hl := g.len
  have hab := behind_len m l
  have hz : l.length ≤ 1000000 := by omega
  have i0 : ∀ (x : Mt) (h : Hh), gIxX h (eM x) (.int 0) = some (.int x.1) := fun _ _ => rfl
  have hcm : compItems (gN 3) (xOp gLt (xOp gIxX (xVar 3) (xC (.int 0))) (xOp gIxX (xVar 1) (xC (.int 0)))) (xVar 3) [some (eDay n l), some (eM m), none, none] (eMs l) [] [] = .ok (eMs (aheadOf m l)) [] := by
    have := comp_filter (enc := eM) (fun x => decide (x.1 < m.1)) eM (g := gN 3) (t := xOp gLt (xOp gIxX (xVar 3) (xC (.int 0))) (xOp gIxX (xVar 1) (xC (.int 0)))) (e := xVar 3) (sg := [some (eDay n l), some (eM m), none, none]) (h := []) l [] (fun x hx => ⟨_, rfl, by simp [i0, gI], fun _ => rfl⟩)
    simpa [eMs, aheadOf] using this
  have sl : slV [] (.tup (eMs l)) (some ((aheadOf m l).length : Int)) none = some (.tup (eMs (behindOf m l))) := by
    show some (Val.tup (cutL (eMs l) (some ((aheadOf m l).length : Int)) none)) = _
    rw [cut_from _ _ (by simpa using ahead_len m l)]
    simp [eMs, behindOf]
  have ln : gLenX [] [.lst (eMs (aheadOf m l))] = some (.int (aheadOf m l).length, []) := by simp [gLenX, dctOf, gLen, lstOf]
  have hA : ∀ x ∈ aheadOf m l, okM x = true := fun x hx => (g.all x (List.mem_filter.mp hx).1).1
  have hB : ∀ x ∈ behindOf m l, okM x = true := fun x hx => (g.all x (List.mem_of_mem_drop hx)).1
  have e3 : eMs (aheadOf m l) ++ eM m :: eMs (behindOf m l) = eMs (aheadOf m l ++ m :: behindOf m l) := by simp [eMs]
  have hz2 : (aheadOf m l).length + ((behindOf m l).length + 1) ≤ 1000000 := by omega
  have lo := g.lo
  have okv : okA (.tup (eMs (aheadOf m l ++ m :: behindOf m l))) = true := by
    rw [okA_tup]
    exact okAs_of fun v hv => by obtain ⟨m, _, rfl⟩ := List.mem_map.mp hv; rfl
  have di := day_init_any (a := .int n) (b := .tup (eMs (aheadOf m l ++ m :: behindOf m l))) rfl okv (fun vs e => by cases e; simp; omega) []
  have dd : ∀ L : List Mt, L.all okM = true → meetsOk n (.tup (eMs L)) = okMs n L := fun L hL => by
    have e1 : (eMs L).all meetOk = true := by simp only [eMs, List.all_map]; exact hL
    have e2 : (eMs L).filterMap decM = L := by simp [eMs, List.filterMap_map, Function.comp_def, decM, eM]
    simp only [meetsOk, sqV, e1, e2, okMs, hL]
  have all : (aheadOf m l ++ m :: behindOf m l).all okM = true := List.all_eq_true.mpr fun x hx => by
    rcases List.mem_append.mp hx with q | q
    · exact hA x q
    · rcases List.mem_cons.mp q with rfl | q
      · exact om
      · exact hB x q
  have due : dueD (.int n) (.tup (eMs (aheadOf m l ++ m :: behindOf m l))) = if okF n 0 (aheadOf m l ++ m :: behindOf m l) = true then [] else wMeetings := by
    have : ¬ n < 1 := by omega
    simp only [dueD, this, if_false, dd _ all, okMs_in hA hB om]
  rw [due] at di
  by_cases hf : okF n 0 (aheadOf m l ++ m :: behindOf m l) = true
  · rw [if_pos hf] at di ⊢
    obtain ⟨_, n', l', en, _, el, _, mk⟩ := di.resolve_right fun q => q.1 rfl
    cases en
    have el' : l' = aheadOf m l ++ m :: behindOf m l := by
      have q : eMs (aheadOf m l ++ m :: behindOf m l) = eMs l' := Option.some.inj el
      have inj : ∀ a b : List Mt, eMs a = eMs b → a = b := fun a b e => by
        have := congrArg (List.filterMap decM) e
        simpa [eMs, List.filterMap_map, Function.comp_def, decM, eM] using this
      exact (inj _ _ q).symm
    subst el'
    refine callQ_pure (callP_nil (h' := []) (v := eDay n (aheadOf m l ++ m :: behindOf m l)) ?_ rfl) (by simp) h
    rw [f_Day_having]
    simp [is_meeting_eM, om, at0D, at1D, hz, wipeG, hcm, xStar, seqOf, lstOf, xSlice, oSome, oNone, ln, partOf, sl, hz2, e3, mk]
  · rw [if_neg hf] at di ⊢
    have mk := (di.resolve_left fun q => by have := q.1; simp [wMeetings] at this).2
    refine callQ_pureE (callP_nilE (h' := []) ?_) (by simp) h
    rw [f_Day_having]
    simp [is_meeting_eM, om, at0D, at1D, hz, wipeG, hcm, xStar, seqOf, lstOf, xSlice, oSome, oNone, ln, partOf, sl, hz2, e3, mk]
def overB (m x : Mt) : Bool := decide (x.1 < m.2.1) && decide (m.1 < x.2.1)
theorem ahead_split (m : Mt) : ∀ l : List Mt, l.Pairwise (fun x y => x.1 < y.1) → l = aheadOf m l ++ behindOf m l ∧ ∀ x ∈ behindOf m l, m.1 ≤ x.1
  | [], _ => ⟨rfl, fun x hx => by simp [behindOf] at hx⟩
  | x :: r, p => by
    rw [List.pairwise_cons] at p
    obtain ⟨e, q⟩ := ahead_split m r p.2
    by_cases hx : x.1 < m.1
    · have ea : aheadOf m (x :: r) = x :: aheadOf m r := by simp [aheadOf, hx]
      have eb : behindOf m (x :: r) = behindOf m r := by simp [behindOf, ea]
      rw [ea, eb]
      exact ⟨by rw [List.cons_append, ← e], q⟩
    · have ea : aheadOf m (x :: r) = [] := by
        unfold aheadOf
        refine List.filter_eq_nil_iff.mpr fun y hy => ?_
        rcases List.mem_cons.mp hy with rfl | hy
        · simp [hx]
        · have := p.1 y hy
          simp; omega
      have eb : behindOf m (x :: r) = x :: r := by simp [behindOf, ea]
      rw [ea, eb]
      refine ⟨rfl, fun y hy => ?_⟩
      rcases List.mem_cons.mp hy with rfl | hy
      · omega
      · have := p.1 y hy; omega
theorem stands_iff (g : Good n l) {m : Mt} (om : okM m = true) : okF n 0 (aheadOf m l ++ m :: behindOf m l) = true ↔ l.filter (overB m) = [] ∧ m.2.1 ≤ n := by
  simp only [okM, Bool.and_eq_true, decide_eq_true_eq] at om
  obtain ⟨om0, _, om1⟩ := om
  obtain ⟨h1, h2⟩ := okF_iff.mp g.ok
  have lt : l.Pairwise fun x y => x.1 < y.1 := h2.imp_of_mem fun {x y} hx hy q => by have := h1 x hx; omega
  obtain ⟨e, hb⟩ := ahead_split m l lt
  have ha : ∀ x ∈ aheadOf m l, x.1 < m.1 := fun x hx => by simpa using (List.mem_filter.mp hx).2
  have inA : ∀ x ∈ aheadOf m l, x ∈ l := fun x hx => (List.mem_filter.mp hx).1
  have inB : ∀ x ∈ behindOf m l, x ∈ l := fun x hx => List.mem_of_mem_drop hx
  have h3 : (aheadOf m l ++ behindOf m l).Pairwise fun x y => x.2.1 ≤ y.1 := e ▸ h2
  rw [List.pairwise_append] at h3
  constructor
  · intro q
    obtain ⟨q1, q2⟩ := okF_iff.mp q
    rw [List.pairwise_append] at q2
    obtain ⟨_, q3, q4⟩ := q2
    rw [List.pairwise_cons] at q3
    refine ⟨List.filter_eq_nil_iff.mpr fun x hx => ?_, (q1 m (by simp)).2.2⟩
    rw [e] at hx
    rcases List.mem_append.mp hx with z | z
    · have := q4 x z m (by simp)
      simp [overB]; omega
    · have := q3.1 x z
      simp [overB]; omega
  · rintro ⟨q1, q2⟩
    have no : ∀ x ∈ l, ¬ (x.1 < m.2.1 ∧ m.1 < x.2.1) := fun x hx => by
      have := List.filter_eq_nil_iff.mp q1 x hx
      simpa [overB] using this
    refine okF_iff.mpr ⟨fun x hx => ?_, ?_⟩
    · rcases List.mem_append.mp hx with z | z
      · exact h1 x (inA x z)
      · rcases List.mem_cons.mp z with rfl | z
        · exact ⟨om0, om1, q2⟩
        · exact h1 x (inB x z)
    · rw [List.pairwise_append]
      refine ⟨h3.1, ?_, fun x hx y hy => ?_⟩
      · rw [List.pairwise_cons]
        refine ⟨fun x hx => ?_, h3.2.1⟩
        have := no x (inB x hx)
        have := hb x hx
        have := h1 x (inB x hx)
        omega
      · rcases List.mem_cons.mp hy with rfl | hy
        · have := no x (inA x hx)
          have := ha x hx
          omega
        · exact h3.2.2 x hx y hy
abbrev strD : STab := [(10, f_Dayw_strw)]
abbrev hear (fb : Ex) : Ex := xLamH [1, 4, 9] h_Lheard (gStrT TBf strD) fb
theorem hear_none {fb : Ex} {sg : Sg} {h h' : Hh} {i : Int} (e : fb sg h = .exc 9 [.int i] h') : hear fb sg h = .ok (.tup [.str [110, 111, 110, 101], .int i]) h' := by
  unfold hear xLamH heardRun
  dsimp only
  rw [e]
  rfl
theorem hear_word {fb : Ex} {sg : Sg} {h h' : Hh} (e : fb sg h = .exc 1 [.str wMeetings] h') : hear fb sg h = .ok (.str (33 :: wMeetings)) h' := by
  unfold hear xLamH heardRun
  dsimp only
  rw [e]
  rfl
theorem hear_day {fb : Ex} {sg : Sg} {h h' : Hh} (g : Good n l) (e : fb sg h = .ok (eDay n l) h') : hear fb sg h = .ok (.str (dayT n l)) h' := by
  unfold hear xLamH heardRun
  dsimp only
  rw [e]
  dsimp only
  rw [day_strT g]
  rfl
theorem ne_none (i : Int) (h : Hh) : gNe h (.tup [.str [110, 111, 110, 101], .int i]) (.tup [.str [110, 111, 110, 101], .int i]) = some (.bl false) := by
  simp [gNe, eqD, dat, okStr, PyData.eqv, PyData.eqvAll]
theorem plusA_lst (xs ys : List Val) (hz : xs.length + ys.length ≤ 1000000) (h : Hh) : gPlusA h (.lst xs) (.lst ys) = some (.lst (xs ++ ys)) := by
  unfold gPlusA
  have e1 : lstOf h (.lst xs) = some xs := rfl
  have e2 : lstOf h (.lst ys) = some ys := rfl
  rw [e1, e2]
  dsimp only
  rw [if_pos hz]
theorem eqE_lst (xs : List Val) (h : Hh) : gEqE h (.lst xs) (.lst []) = some (.bl xs.isEmpty) := by cases xs <;> rfl
end Law
namespace Law
open PySem Py
def S1 : Sx := (xAsg (xCallB TBf f_Lday [] (xCons (xVar 2) (xCons (xC (.int 30)) (xCons (xC (.bl true)) xNil)))) (gTu 2 (gsCons (gN 4) (gsCons (gN 5) gsNil))))
def S2 : Sx := (xSet 6 (xMakeP TBf 10 f_Day_init [] (xCons (xVar 4) (xCons (xVar 5) xNil))))
def S3b : Sx := (xSeq (xSet 8 (xMethP TBf 10 f_Day_withoutX [] (xVar 6) (xCons (xVar 7) xNil)))
 (xSeq (xIfS (xOr (xOp (gNeT TBf [(10, f_Dayw_eqw)]) (xVar 8) (xMakeP TBf 10 f_Day_init [] (xCons (xVar 4) (xCons (xOp gPlusA (xSlice (xVar 5) oNone (oSome (xVar 7))) (xSlice (xVar 5) (oSome (xOp gPlus (xVar 7) (xC (.int 1)))) oNone)) xNil)))) (xOp gNe (xIxO TBf 10 f_Dayw_getitemwX (xVar 6) (xVar 7)) (xOp gIxX (xVar 5) (xVar 7))))
 (xRet (xC (.bl false)))
 xSkip)
 (xIfS (xOp (gNeT TBf [(10, f_Dayw_eqw)]) (xMethP TBf 10 f_Day_having [] (xVar 8) (xCons (xOp gIxX (xVar 5) (xVar 7)) xNil)) (xVar 6))
 (xRet (xC (.bl false)))
 xSkip)))
def S3 : Sx := (xFor (xIRng1 (xCons (xCB gLenX (xCons (xVar 5) xNil)) xNil)) (gN 7) S3b)
def S4b : Sx := (xSeq (xIfS (xOp gNe (xLamH [1, 4, 9] h_Lheard (gStrT TBf [(10, f_Dayw_strw)]) (xMethP TBf 10 f_Day_withoutX [] (xVar 6) (xCons (xVar 7) xNil))) (xTup (xCons (xC (.str [110, 111, 110, 101])) (xCons (xVar 7) xNil))))
 (xRet (xC (.bl false)))
 xSkip)
 (xIfS (xOp gNe (xLamH [1, 4, 9] h_Lheard (gStrT TBf [(10, f_Dayw_strw)]) (xIxOT TBf 10 f_Dayw_getitemwX (xVar 6) (xVar 7))) (xTup (xCons (xC (.str [110, 111, 110, 101])) (xCons (xVar 7) xNil))))
 (xRet (xC (.bl false)))
 xSkip))
def S4 : Sx := (xFor (xISX (xTup (xCons (xOp gSub (xC (.int 0)) (xC (.int 1))) (xCons (xCB gLenX (xCons (xVar 5) xNil)) (xCons (xOp gPlus (xCB gLenX (xCons (xVar 5) xNil)) (xC (.int 9))) (xCons (xOp gPow (xC (.int 10)) (xC (.int 9))) xNil)))))) (gN 7) S4b)
def S5 : Sx := (xSet 9 (xCallB TBf f_Lchoose [] (xCons (xVar 2) (xCons (xOp gPlus (xVar 4) (xC (.int 2))) xNil))))
def S6 : Sx := (xSet 10 (xTup (xCons (xVar 9) (xCons (xOp gPlus (xOp gPlus (xVar 9) (xC (.int 1))) (xCallB TBf f_Lchoose [] (xCons (xVar 2) (xCons (xC (.int 4)) xNil)))) (xCons (xOp gEq (xCallB TBf f_Lchoose [] (xCons (xVar 2) (xCons (xC (.int 2)) xNil))) (xC (.int 0))) xNil)))))
def S7 : Sx := (xSet 11 (xCompF [15] (xISX (xVar 5)) (gN 15) (xAnd (xOp gLt (xOp gIxX (xVar 15) (xC (.int 0))) (xOp gIxX (xVar 10) (xC (.int 1)))) (xOp gLt (xOp gIxX (xVar 10) (xC (.int 0))) (xOp gIxX (xVar 15) (xC (.int 1))))) (xVar 15)))
def S8 : Sx := (xSet 12 (xC (.str [33, 109, 101, 101, 116, 105, 110, 103, 115])))
def S9 : Sx := (xIfS (xAnd (xOp gEqE (xVar 11) (xLstF xNil)) (xOp gLe (xOp gIxX (xVar 10) (xC (.int 1))) (xVar 4)))
 (xSeq (xSet 13 (xCompF [15] (xISX (xVar 5)) (gN 15) (xOp gLt (xOp gIxX (xVar 15) (xC (.int 0))) (xVar 9)) (xVar 15)))
 (xSet 12 (xCallP TBf f_Lday_text [] (xCons (xTup (xCons (xVar 4) (xCons (xOp gPlusA (xOp gPlusA (xVar 13) (xLstF (xCons (xVar 10) xNil))) (xSlice (xVar 5) (oSome (xCB gLenX (xCons (xVar 13) xNil))) oNone)) xNil))) xNil))))
 xSkip)
def S10 : Sx := (xIfS (xOp gNe (xLamH [1, 4, 9] h_Lheard (gStrT TBf [(10, f_Dayw_strw)]) (xMethP TBf 10 f_Day_having [] (xVar 6) (xCons (xVar 10) xNil))) (xVar 12))
 (xRet (xC (.bl false)))
 xSkip)
def S11 : Sx := (xSet 14 (xCallB TBf f_Lone_of [] (xCons (xVar 2) (xCons (xLstF (xCons (xC .non) (xCons (xC (.str [50, 45, 53])) (xCons (xTup (xCons (xC (.int 1)) (xCons (xC (.int 2)) xNil))) (xCons (xLstF (xCons (xC (.int 0)) (xCons (xC (.int 1)) (xCons (xC (.bl false)) xNil)))) (xCons (xTup (xCons (xC (.int 2)) (xCons (xC (.int 1)) (xCons (xC (.bl true)) xNil)))) (xCons (xTup (xCons (xC (.int 0)) (xCons (xC (.int 1)) (xCons (xC (.int 1)) xNil)))) (xCons (xC (.int 3)) (xCons (xTup xNil) (xCons (xVar 6) xNil)))))))))) xNil))))
def S12 : Sx := (xIfS (xOr (xOp gNe (xLamH [1, 4, 9] h_Lheard (gStrT TBf [(10, f_Dayw_strw)]) (xMethP TBf 10 f_Day_having [] (xVar 6) (xCons (xVar 14) xNil))) (xC (.str [33, 109, 101, 101, 116, 105, 110, 103, 115]))) (xOp gNe (xCB (gStrT TBf [(10, f_Dayw_strw)]) (xCons (xVar 6) xNil)) (xCallP TBf f_Lday_text [] (xCons (xTup (xCons (xVar 4) (xCons (xVar 5) xNil))) xNil))))
 (xRet (xC (.bl false)))
 xSkip)
def inner : Sx := (xSeq S1 (xSeq S2 (xSeq S3 (xSeq S4 (xSeq S5 (xSeq S6 (xSeq S7 (xSeq S8 (xSeq S9 (xSeq S10 (xSeq S11 S12)))))))))))
def outer0 : Sx := (xSet 2 (xCallO TBf f_Lseed [] (xCons (xVar 0) (xCons (xVar 1) xNil))))
def outer : Sx := xSeq outer0 (xFor (xIRng1 (xCons (xC (.int 4)) xNil)) (gN 3) inner)
def after1 : Sx := (xRet (xC (.bl true)))
def cnt : Lx := (xCons (xCB gMax2 (xCons (xC (.int 2)) (xCons (xCB gMin2 (xCons (xC (.int 5)) (xCons (xCB gLenX (xCons (xVar 0) xNil)) xNil))) xNil))) xNil)
theorem law_is : f_law = fnOf 1 16 (xSeq (xFor (xIRng1 cnt) (gN 1) outer) after1) := rfl
theorem seed_is : f_Lseed = seedF 40093 := rfl
theorem choose_is : f_Lchoose = chooseF := rfl
theorem one_is : f_Lone_of = oneX TBf := rfl
theorem day_is : f_Lday = dayF TBf := rfl
theorem neM (x : Mt) (h : Hh) : gNe h (eM x) (eM x) = some (.bl false) := by
  obtain ⟨a, b, c⟩ := x
  unfold gNe eqD
  rw [dat_eM _ 28 h]
  simp [dM, PyData.eqv, PyData.eqvAll]
section
variable {n n' : Int} {l l' : List Mt}
theorem join_txt (sep : List Nat) (ts : List (List Nat)) (hz : (ts.map List.length).sum + ts.length * sep.length ≤ 100000) : gJoin [] (.str sep) [.lst (ts.map Val.str)] = some (.str (joinL sep ts), []) := by
  unfold gJoin
  simp only [sqOf, lstOf]
  rw [txts_map]
  dsimp only
  rw [if_pos ?_, join_eq]
  have e2 : (ts.map fun s => (⟨s.toArray⟩ : Str)).map (fun x => x.length) = ts.map List.length := by simp [Function.comp_def, Str.length]
  rw [e2]
  simp
  omega
theorem neE (us : List Val) (h : Hh) : gNeE h (.lst us) (.lst []) = some (.bl (!us.isEmpty)) := by cases us <;> rfl
theorem txt_fn (g : Good n l) : f_Lday_text [] [.tup [.int n, .lst (eMs l)]] = .ok (.str (dayT n l)) [] := by
  have hg := g.all
  have hl := g.len
  have hz : l.length ≤ 1000000 := by omega
  have hn := dec_len (i := n) (by have := g.lo; omega) g.hi
  have okn : okDec n = true := by have := g.lo; have := g.hi; simp [okDec]; omega
  have hcm : compItems (gTu 3 (gsCons (gN 2) (gsCons (gN 3) (gsCons (gN 4) gsNil)))) (xC (.bl true)) (xOp gPlus (xOp gPlus (xOp gPlus (xCB (gStrT TBf []) (xCons (xVar 2) xNil)) (xC (.str [45]))) (xCB (gStrT TBf []) (xCons (xVar 3) xNil))) (xIf (xVar 4) (xC (.str [32, 112, 114, 105, 118, 97, 116, 101])) (xC (.str [])))) [some (.tup [.int n, .lst (eMs l)]), none, none, none, none] (eMs l) [] [] = .ok (l.map fun m => .str (txtM m)) [] := by
    have := comp_map (enc := eM) (fun m => .str (txtM m)) (g := gTu 3 (gsCons (gN 2) (gsCons (gN 3) (gsCons (gN 4) gsNil)))) (t := xC (.bl true)) (e := xOp gPlus (xOp gPlus (xOp gPlus (xCB (gStrT TBf []) (xCons (xVar 2) xNil)) (xC (.str [45]))) (xCB (gStrT TBf []) (xCons (xVar 3) xNil))) (xIf (xVar 4) (xC (.str [32, 112, 114, 105, 118, 97, 116, 101])) (xC (.str [])))) (sg := [some (.tup [.int n, .lst (eMs l)]), none, none, none, none]) (h := []) l [] (fun m hm => by
      obtain ⟨a, b, c⟩ := m
      obtain ⟨_, h1, h2, h3, h4, _⟩ := hg _ hm
      have d1 := dec_len h1 h2
      have d2 := dec_len h3 h4
      have o1 : okDec a = true := by simp at h1 h2; simp [okDec]; omega
      have o2 : okDec b = true := by simp at h3 h4; simp [okDec]; omega
      simp only at d1 d2
      refine ⟨_, rfl, rfl, ?_⟩
      have z1 : (dec a).length ≤ 999999 := by omega
      have z2 : (dec a).length + (1 + (dec b).length) ≤ 1000000 := by omega
      have z3 : (dec a).length + (1 + (dec b).length) + 8 ≤ 1000000 := by omega
      have z4 : (dec a).length + (1 + ((dec b).length + 8)) ≤ 1000000 := by omega
      have z5 : (dec a).length + 1 + (dec b).length ≤ 1000000 := by omega
      have z6 : (dec a).length + 1 + (dec b).length + 8 ≤ 1000000 := by omega
      have z7 : (dec a).length + ((dec b).length + 1) ≤ 1000000 := by omega
      have z8 : (dec a).length + ((dec b).length + 1) + 8 ≤ 1000000 := by omega
      cases c <;> simp [gStrT, strG, o1, o2, gPlus, z1, z2, z3, z4, z5, z6, z7, z8, txtM])
    simpa [eMs] using this
  have hjoin : gJoin [] (.str [44, 32]) [.lst (l.map fun m => Val.str (txtM m))] = some (.str (joinL [44, 32] (l.map txtM)), []) := by
    have e1 : (l.map fun m => Val.str (txtM m)) = (l.map txtM).map Val.str := by simp [Function.comp_def]
    have b := sum_le (fun m => (txtM m).length) 13 l (fun m hm => by obtain ⟨_, h1, h2, h3, h4, _⟩ := hg m hm; exact txtM_len h1 h2 h3 h4)
    rw [e1]
    refine join_txt _ _ ?_
    simp [Function.comp_def]
    omega
  have hjl : (joinL [44, 32] (l.map txtM)).length ≤ 2000 := by
    have b := sum_le (fun m => (txtM m).length) 13 l (fun m hm => by obtain ⟨_, h1, h2, h3, h4, _⟩ := hg m hm; exact txtM_len h1 h2 h3 h4)
    have c := joinL_len [44, 32] (l.map txtM)
    simp [Function.comp_def] at c
    omega
  have ix1 : gIxX [] (.tup [.int n, .lst (eMs l)]) (.int 1) = some (.lst (eMs l)) := rfl
  have ix0 : gIxX [] (.tup [.int n, .lst (eMs l)]) (.int 0) = some (.int n) := rfl
  have hne := neE (l.map fun m => Val.str (txtM m)) []
  have ie : (l.map fun m => Val.str (txtM m)).isEmpty = decide (l = []) := by cases l <;> simp
  rw [ie] at hne
  rw [f_Lday_text]
  by_cases e : l = []
  · have er : restT l = [45] := by simp [restT, e]
    have e0 : decide (l = []) = true := by simp [e]
    rw [e0] at hne
    have z1 : (dec n).length ≤ 999998 := by omega
    have z2 : (dec n).length + 2 + 1 ≤ 1000000 := by omega
    have z3 : (dec n).length + 3 ≤ 1000000 := by omega
    have z4 : (dec n).length ≤ 999997 := by omega
    simp [ix1, ix0, wipeG, hcm, hz, hne, gStrT, strG, okn, gPlus, dayT, er, z1, z2, z3, z4]
  · have er : restT l = joinL [44, 32] (l.map txtM) := by simp [restT, e]
    have e0 : decide (l = []) = false := by simp [e]
    rw [e0] at hne
    have z1 : (dec n).length ≤ 999998 := by omega
    have z2 : (dec n).length + 2 + (joinL [44, 32] (l.map txtM)).length ≤ 1000000 := by omega
    have z3 : (dec n).length + (2 + (joinL [44, 32] (l.map txtM)).length) ≤ 1000000 := by omega
    have z4 : (dec n).length + ((joinL [44, 32] (l.map txtM)).length + 2) ≤ 1000000 := by omega
    simp [ix1, ix0, wipeG, hcm, hz, hne, isTy, hjoin, gStrT, strG, okn, gPlus, dayT, er, z1, z2, z3, z4]
theorem txt_ok (g : Good n l) (h : Hh) : callQ TBf f_Lday_text [.tup [.int n, .lst (eMs l)]] h = .ok (.str (dayT n l)) h := callQ_pure (callP_nil (txt_fn g) rfl) (by simp) h
end
theorem each_step {n : Int} {A B : List Mt} {m : Mt} (g : Good n (A ++ m :: B)) (s0 s1 s2 s3 x7 x8 s9 s10 s11 s12 s13 s14 s15 : Option Val) (h : Hh) :
    bodyOf (gN 7) S3b (.int A.length) [s0, s1, s2, s3, some (.int n), some (.lst (eMs (A ++ m :: B))), some (eDay n (A ++ m :: B)), x7, x8, s9, s10, s11, s12, s13, s14, s15] h = .next [s0, s1, s2, s3, some (.int n), some (.lst (eMs (A ++ m :: B))), some (eDay n (A ++ m :: B)), some (.int A.length), some (eDay n (A ++ B)), s9, s10, s11, s12, s13, s14, s15] h := by
  have hl := g.len
  have gAB : Good n (A ++ B) := g.sub (List.Sublist.append_left (List.sublist_cons_self _ _) _)
  have wo := withoutX g h
  have e1 : eMs (A ++ m :: B) = eMs A ++ eM m :: eMs B := by simp [eMs]
  have sl1 : slV h (.lst (eMs (A ++ m :: B))) none (some (A.length : Int)) = some (.lst (eMs A)) := by
    show some (Val.lst (cutL (eMs (A ++ m :: B)) none (some (A.length : Int)))) = _
    rw [cut_to _ _ (by simp), e1]
    congr 2
    have : A.length = (eMs A).length := by simp
    rw [this, List.take_left]
  have sl2 : slV h (.lst (eMs (A ++ m :: B))) (some ((A.length : Int) + 1)) none = some (.lst (eMs B)) := by
    show some (Val.lst (cutL (eMs (A ++ m :: B)) (some ((A.length : Int) + 1)) none)) = _
    have e0 : ((A.length : Int) + 1) = ((A.length + 1 : Nat) : Int) := by omega
    rw [e0, cut_from _ _ (by simp), e1]
    congr 2
    have e2 : A.length + 1 = (eMs A ++ [eM m]).length := by simp
    have e3 : eMs A ++ eM m :: eMs B = (eMs A ++ [eM m]) ++ eMs B := by simp
    rw [e2, e3, List.drop_left]
  have mk := make_day gAB (.lst (eMs A ++ eMs B)) (.inl (by simp [eMs])) h
  have pl := plusA_lst (eMs A) (eMs B) (by simp at hl ⊢; omega) h
  have p1 : gPlus h (.int A.length) (.int 1) = some (.int ((A.length : Int) + 1)) := rfl
  have ne1 := day_neT gAB gAB h
  have ne2 := day_neT g g h
  have gx := getX n (A ++ m :: B) A.length m (by simp) h
  have hv := having_ok g h
  have at_ : gIxX h (.lst (eMs (A ++ m :: B))) (.int A.length) = some (eM m) := by
    show atV (eMs (A ++ m :: B)) A.length = _
    unfold atV
    rw [if_pos (by omega)]
    simp [eMs]
  have ge : xIxO TBf 10 f_Dayw_getitemwX (xVar 6) (xVar 7) [s0, s1, s2, s3, some (.int n), some (.lst (eMs (A ++ m :: B))), some (eDay n (A ++ m :: B)), some (.int A.length), some (eDay n (A ++ B)), s9, s10, s11, s12, s13, s14, s15] h = .ok (eM m) h := by
    unfold xIxO
    simp only [var_ap, List.getElem?_cons_succ, List.getElem?_cons_zero, getS_some, rb_ok, eDay, if_true] at gx ⊢
    rw [gx]; rfl
  have wl := withoutX g h
  unfold S3b
  simp only [decide_true, Bool.not_true] at ne1 ne2
  simp [isD, wo, xSlice, oSome, oNone, partOf, sl1, sl2, p1, pl, mk, ne1, ge, at_, neM, hv, ne2]
theorem each_rounds {n : Int} {l : List Mt} (g : Good n l) (s0 s1 s2 s3 s9 s10 s11 s12 s13 s14 s15 : Option Val) (h : Hh) : ∀ (B A : List Mt) (x7 x8 : Option Val), l = A ++ B →
    ∃ (y7 y8 : Option Val), forItems (bodyOf (gN 7) S3b) (rng A.length B.length) [s0, s1, s2, s3, some (.int n), some (.lst (eMs l)), some (eDay n l), x7, x8, s9, s10, s11, s12, s13, s14, s15] h = .next [s0, s1, s2, s3, some (.int n), some (.lst (eMs l)), some (eDay n l), y7, y8, s9, s10, s11, s12, s13, s14, s15] h
  | [], A, x7, x8, _ => ⟨x7, x8, rfl⟩
  | m :: B, A, x7, x8, e => by
    subst e
    obtain ⟨y7, y8, e2⟩ := each_rounds g s0 s1 s2 s3 s9 s10 s11 s12 s13 s14 s15 h B (A ++ [m]) (some (.int A.length)) (some (eDay n (A ++ B))) (by simp)
    refine ⟨y7, y8, ?_⟩
    have er : rng (A.length : Int) (m :: B).length = .int A.length :: rng ((A ++ [m]).length : Nat) B.length := by
      simp only [List.length_cons, List.length_append, List.length_nil]
      rfl
    rw [er]
    unfold forItems
    rw [each_step g]
    exact e2
theorem bad_step {n : Int} {l : List Mt} (i : Int) (hb : i < 0 ∨ (l.length : Int) ≤ i) (s0 s1 s2 s3 s4 s5 x7 s8 s9 s10 s11 s12 s13 s14 s15 : Option Val) (h : Hh) :
    bodyOf (gN 7) S4b (.int i) [s0, s1, s2, s3, s4, s5, some (eDay n l), x7, s8, s9, s10, s11, s12, s13, s14, s15] h = .next [s0, s1, s2, s3, s4, s5, some (eDay n l), some (.int i), s8, s9, s10, s11, s12, s13, s14, s15] h := by
  have e1 : hear (xMethP TBf 10 f_Day_withoutX [] (xVar 6) (xCons (xVar 7) xNil)) [s0, s1, s2, s3, s4, s5, some (eDay n l), some (.int i), s8, s9, s10, s11, s12, s13, s14, s15] h = .ok (.tup [.str [110, 111, 110, 101], .int i]) h := hear_none (by simp [isD, without_badX n l i hb])
  have e2 : hear (xIxOT TBf 10 f_Dayw_getitemwX (xVar 6) (xVar 7)) [s0, s1, s2, s3, s4, s5, some (eDay n l), some (.int i), s8, s9, s10, s11, s12, s13, s14, s15] h = .ok (.tup [.str [110, 111, 110, 101], .int i]) h := hear_none (by
    have gx := get_badX n l i hb h
    unfold xIxOT
    simp only [var_ap, List.getElem?_cons_succ, List.getElem?_cons_zero, getS_some, rb_ok, eDay, if_true] at gx ⊢
    exact gx)
  unfold S4b
  simp [e1, e2, ne_none]
theorem bad_rounds {n : Int} {l : List Mt} (s0 s1 s2 s3 s4 s5 s8 s9 s10 s11 s12 s13 s14 s15 : Option Val) (h : Hh) : ∀ (is : List Int) (x7 : Option Val), (∀ i ∈ is, i < 0 ∨ (l.length : Int) ≤ i) →
    ∃ y7, forItems (bodyOf (gN 7) S4b) (is.map Val.int) [s0, s1, s2, s3, s4, s5, some (eDay n l), x7, s8, s9, s10, s11, s12, s13, s14, s15] h = .next [s0, s1, s2, s3, s4, s5, some (eDay n l), y7, s8, s9, s10, s11, s12, s13, s14, s15] h
  | [], x7, _ => ⟨x7, rfl⟩
  | i :: is, x7, hb => by
    obtain ⟨y7, e⟩ := bad_rounds s0 s1 s2 s3 s4 s5 s8 s9 s10 s11 s12 s13 s14 s15 h is (some (.int i)) fun j hj => hb j (by simp [hj])
    refine ⟨y7, ?_⟩
    show forItems _ (Val.int i :: is.map Val.int) _ _ = _
    unfold forItems
    rw [bad_step i (hb i (by simp))]
    exact e
def dueT (n : Int) (l : List Mt) (m : Mt) : List Nat := if okF n 0 (aheadOf m l ++ m :: behindOf m l) = true then dayT n (aheadOf m l ++ m :: behindOf m l) else 33 :: wMeetings
theorem turn (scr kv : Val) (h : Hh) (kb : Nat) (a b : Int) (hk : h[kb]? = some (box a b)) (x3 x4 x5 x6 x7 x8 x9 x10 x11 x12 x13 x14 x15 : Option Val) :
    ∃ (h' : Hh) (a' b' : Int) (r : Sg), h'[kb]? = some (box a' b') ∧ r.length = 12 ∧
      inner [some scr, some kv, some (.ref kb), x3, x4, x5, x6, x7, x8, x9, x10, x11, x12, x13, x14, x15] h = .next (some scr :: some kv :: some (.ref kb) :: x3 :: r) h' := by
  obtain ⟨n, l, a1, b1, q1, q2, q3, q4, e1⟩ := draw_day TBf 30 true (by decide) (by decide) hk
  have g : Good n l := ⟨q1, by omega, q4⟩
  have E1 : S1 [some scr, some kv, some (.ref kb), x3, x4, x5, x6, x7, x8, x9, x10, x11, x12, x13, x14, x15] h = .next [some scr, some kv, some (.ref kb), x3, some (.int n), some (.lst (eMs l)), x6, x7, x8, x9, x10, x11, x12, x13, x14, x15] (h.set kb (box a1 b1)) := by
    unfold S1
    rw [day_is]
    simp [e1]
  have k1 : (h.set kb (box a1 b1))[kb]? = some (box a1 b1) := get_set hk
  generalize hh1 : h.set kb (box a1 b1) = h1 at *
  have mk1 := make_day g (.lst (eMs l)) (.inl rfl) h1
  have E2 : S2 [some scr, some kv, some (.ref kb), x3, some (.int n), some (.lst (eMs l)), x6, x7, x8, x9, x10, x11, x12, x13, x14, x15] h1 = .next [some scr, some kv, some (.ref kb), x3, some (.int n), some (.lst (eMs l)), some (eDay n l), x7, x8, x9, x10, x11, x12, x13, x14, x15] h1 := by
    unfold S2
    simp [mk1]
  obtain ⟨y7, y8, e3⟩ := each_rounds g (some scr) (some kv) (some (.ref kb)) x3 x9 x10 x11 x12 x13 x14 x15 h1 l [] x7 x8 rfl
  have lnL : ∀ h : Hh, gLenX h [.lst (eMs l)] = some (.int (l.length : Nat), h) := fun h => by
    have : gLenX h [.lst (eMs l)] = some (.int ((eMs l).length : Nat), h) := rfl
    rw [this, len_eMs]
  have s62 : small62 (l.length : Nat) = true := by simp only [small62, Bool.and_eq_true, decide_eq_true_eq]; omega
  have E3 : S3 [some scr, some kv, some (.ref kb), x3, some (.int n), some (.lst (eMs l)), some (eDay n l), x7, x8, x9, x10, x11, x12, x13, x14, x15] h1 = .next [some scr, some kv, some (.ref kb), x3, some (.int n), some (.lst (eMs l)), some (eDay n l), y7, y8, x9, x10, x11, x12, x13, x14, x15] h1 := by
    unfold S3
    simp only [for_ap, rng1_ap, cons_ap, cb_ap, var_ap, nil_ap, List.getElem?_cons_succ, List.getElem?_cons_zero, getS_some, rl_ok, ll_ok, lb_ok, lnL, op_some, s62, if_true, Int.toNat_natCast, loop_items]
    exact e3
  obtain ⟨z7, e4⟩ := bad_rounds (n := n) (l := l) (some scr) (some kv) (some (.ref kb)) x3 (some (.int n)) (some (.lst (eMs l))) y8 x9 x10 x11 x12 x13 x14 x15 h1 [-1, l.length, l.length + 9, 1000000000] y7 (fun i hi => by
    simp only [List.mem_cons, List.not_mem_nil, or_false] at hi
    omega)
  have E4 : S4 [some scr, some kv, some (.ref kb), x3, some (.int n), some (.lst (eMs l)), some (eDay n l), y7, y8, x9, x10, x11, x12, x13, x14, x15] h1 = .next [some scr, some kv, some (.ref kb), x3, some (.int n), some (.lst (eMs l)), some (eDay n l), z7, y8, x9, x10, x11, x12, x13, x14, x15] h1 := by
    have sb : gSub h1 (.int 0) (.int 1) = some (.int (-1)) := rfl
    have pl : gPlus h1 (.int (l.length : Nat)) (.int 9) = some (.int ((l.length : Int) + 9)) := rfl
    have pw : gPow h1 (.int 10) (.int 9) = some (.int 1000000000) := rfl
    unfold S4
    simp only [for_ap, isx_ap, tup_ap, cons_ap, op_ap, cb_ap, c_ap, var_ap, nil_ap, List.getElem?_cons_succ, List.getElem?_cons_zero, getS_some, rb_ok, rl_ok, ll_ok, lb_ok, lnL, op_some, of_some, sb, pl, pw, List.length_cons, List.length_nil, isx_tup, loop_items]
    exact e4
  obtain ⟨d, a2, b2, d0, d1, e5⟩ := draw TBf (n + 2) (by omega) (by omega) k1
  have k2 : (h1.set kb (box a2 b2))[kb]? = some (box a2 b2) := get_set k1
  have E5 : S5 [some scr, some kv, some (.ref kb), x3, some (.int n), some (.lst (eMs l)), some (eDay n l), z7, y8, x9, x10, x11, x12, x13, x14, x15] h1 = .next [some scr, some kv, some (.ref kb), x3, some (.int n), some (.lst (eMs l)), some (eDay n l), z7, y8, some (.int d), x10, x11, x12, x13, x14, x15] (h1.set kb (box a2 b2)) := by
    have pl : gPlus h1 (.int n) (.int 2) = some (.int (n + 2)) := rfl
    unfold S5
    rw [choose_is]
    simp [pl, e5]
  generalize hh2 : h1.set kb (box a2 b2) = h2 at *
  obtain ⟨c, a3, b3, c0, c1, e6⟩ := draw TBf 4 (by decide) (by decide) k2
  have k3 : (h2.set kb (box a3 b3))[kb]? = some (box a3 b3) := get_set k2
  generalize hh3 : h2.set kb (box a3 b3) = h3 at *
  obtain ⟨p, a4, b4, p0, p1, e7⟩ := draw TBf 2 (by decide) (by decide) k3
  have k4 : (h3.set kb (box a4 b4))[kb]? = some (box a4 b4) := get_set k3
  generalize hh4 : h3.set kb (box a4 b4) = h4 at *
  let m : Mt := (d, d + 1 + c, decide (p = 0))
  have E6 : S6 [some scr, some kv, some (.ref kb), x3, some (.int n), some (.lst (eMs l)), some (eDay n l), z7, y8, some (.int d), x10, x11, x12, x13, x14, x15] h2 = .next [some scr, some kv, some (.ref kb), x3, some (.int n), some (.lst (eMs l)), some (eDay n l), z7, y8, some (.int d), some (eM m), x11, x12, x13, x14, x15] h4 := by
    have pl : ∀ h, gPlus h (.int d) (.int 1) = some (.int (d + 1)) := fun _ => rfl
    have pl2 : ∀ h, gPlus h (.int (d + 1)) (.int c) = some (.int (d + 1 + c)) := fun _ => rfl
    have eq0 : ∀ h, gEq h (.int p) (.int 0) = some (.bl (decide (p = 0))) := fun h => by
      simp [gEq, eqD, dat, PyData.eqv]
      rfl
    unfold S6
    rw [choose_is]
    simp [pl, pl2, e6, e7, eq0, eM, m]
  have om : okM m = true := by simp [okM, m]; omega
  have hl := g.len
  have hz : l.length ≤ 1000000 := by omega
  have i0 : ∀ (x : Mt) (h : Hh), gIxX h (eM x) (.int 0) = some (.int x.1) := fun _ _ => rfl
  have i1 : ∀ (x : Mt) (h : Hh), gIxX h (eM x) (.int 1) = some (.int x.2.1) := fun _ _ => rfl
  have E7 : S7 [some scr, some kv, some (.ref kb), x3, some (.int n), some (.lst (eMs l)), some (eDay n l), z7, y8, some (.int d), some (eM m), x11, x12, x13, x14, x15] h4 = .next [some scr, some kv, some (.ref kb), x3, some (.int n), some (.lst (eMs l)), some (eDay n l), z7, y8, some (.int d), some (eM m), some (.lst (eMs (l.filter (overB m)))), x12, x13, x14, x15] h4 := by
    have cm := comp_filter (enc := eM) (overB m) eM (g := gN 15) (t := xAnd (xOp gLt (xOp gIxX (xVar 15) (xC (.int 0))) (xOp gIxX (xVar 10) (xC (.int 1)))) (xOp gLt (xOp gIxX (xVar 10) (xC (.int 0))) (xOp gIxX (xVar 15) (xC (.int 1))))) (e := xVar 15) (sg := [some scr, some kv, some (.ref kb), x3, some (.int n), some (.lst (eMs l)), some (eDay n l), z7, y8, some (.int d), some (eM m), x11, x12, x13, x14, none]) (h := h4) l [] (fun x hx => ⟨_, rfl, by
      by_cases t1 : x.1 < m.2.1 <;> by_cases t2 : m.1 < x.2.1 <;> simp [i0, i1, gI, overB, t1, t2], fun _ => rfl⟩)
    have cm2 : compItems (gN 15) (xAnd (xOp gLt (xOp gIxX (xVar 15) (xC (.int 0))) (xOp gIxX (xVar 10) (xC (.int 1)))) (xOp gLt (xOp gIxX (xVar 10) (xC (.int 0))) (xOp gIxX (xVar 15) (xC (.int 1))))) (xVar 15) [some scr, some kv, some (.ref kb), x3, some (.int n), some (.lst (eMs l)), some (eDay n l), z7, y8, some (.int d), some (eM m), x11, x12, x13, x14, none] (eMs l) [] h4 = .ok (eMs (l.filter (overB m))) h4 := by simpa [eMs] using cm
    unfold S7
    simp [hz, wipeG, cm2]
  have E8 : S8 [some scr, some kv, some (.ref kb), x3, some (.int n), some (.lst (eMs l)), some (eDay n l), z7, y8, some (.int d), some (eM m), some (.lst (eMs (l.filter (overB m)))), x12, x13, x14, x15] h4 = .next [some scr, some kv, some (.ref kb), x3, some (.int n), some (.lst (eMs l)), some (eDay n l), z7, y8, some (.int d), some (eM m), some (.lst (eMs (l.filter (overB m)))), some (.str (33 :: wMeetings)), x13, x14, x15] h4 := by
    unfold S8
    simp [wMeetings]
  have si := stands_iff g om
  have okw : okStr (33 :: wMeetings) = true := by decide
  have E9 : ∃ (y13 : Option Val), S9 [some scr, some kv, some (.ref kb), x3, some (.int n), some (.lst (eMs l)), some (eDay n l), z7, y8, some (.int d), some (eM m), some (.lst (eMs (l.filter (overB m)))), some (.str (33 :: wMeetings)), x13, x14, x15] h4 = .next [some scr, some kv, some (.ref kb), x3, some (.int n), some (.lst (eMs l)), some (eDay n l), z7, y8, some (.int d), some (eM m), some (.lst (eMs (l.filter (overB m)))), some (.str (dueT n l m)), y13, x14, x15] h4 := by
    have eE := eqE_lst (eMs (l.filter (overB m))) h4
    have ie : (eMs (l.filter (overB m))).isEmpty = decide (l.filter (overB m) = []) := by cases l.filter (overB m) <;> simp [eMs]
    rw [ie] at eE
    have eE1 : gEqE h4 (.lst (eMs [])) (.lst []) = some (.bl true) := rfl
    have le : gLe h4 (.int m.2.1) (.int n) = some (.bl (decide (m.2.1 ≤ n))) := rfl
    by_cases hf : okF n 0 (aheadOf m l ++ m :: behindOf m l) = true
    · obtain ⟨t1, t2⟩ := si.mp hf
      have gf : Good n (aheadOf m l ++ m :: behindOf m l) := ⟨g.lo, g.hi, hf⟩
      have cm := comp_filter (enc := eM) (fun x : Mt => decide (x.1 < m.1)) eM (g := gN 15) (t := xOp gLt (xOp gIxX (xVar 15) (xC (.int 0))) (xVar 9)) (e := xVar 15) (sg := [some scr, some kv, some (.ref kb), x3, some (.int n), some (.lst (eMs l)), some (eDay n l), z7, y8, some (.int d), some (eM m), some (.lst (eMs (l.filter (overB m)))), some (.str (33 :: wMeetings)), x13, x14, none]) (h := h4) l [] (fun x hx => ⟨_, rfl, by simp [i0, gI, m], fun _ => rfl⟩)
      have cm2 : compItems (gN 15) (xOp gLt (xOp gIxX (xVar 15) (xC (.int 0))) (xVar 9)) (xVar 15) [some scr, some kv, some (.ref kb), x3, some (.int n), some (.lst (eMs l)), some (eDay n l), z7, y8, some (.int d), some (eM m), some (.lst (eMs (l.filter (overB m)))), some (.str (33 :: wMeetings)), x13, x14, none] (eMs l) [] h4 = .ok (eMs (aheadOf m l)) h4 := by simpa [eMs, aheadOf] using cm
      have hab := behind_len m l
      have p1 := plusA_lst (eMs (aheadOf m l)) [eM m] (by simp; omega) h4
      have p2 := plusA_lst (eMs (aheadOf m l) ++ [eM m]) (eMs (behindOf m l)) (by simp; omega) h4
      have ln : gLenX h4 [.lst (eMs (aheadOf m l))] = some (.int (aheadOf m l).length, h4) := by simp [gLenX, dctOf, gLen, lstOf]
      have sl : slV h4 (.lst (eMs l)) (some ((aheadOf m l).length : Int)) none = some (.lst (eMs (behindOf m l))) := by
        show some (Val.lst (cutL (eMs l) (some ((aheadOf m l).length : Int)) none)) = _
        rw [cut_from _ _ (by simpa using ahead_len m l)]
        simp [eMs, behindOf]
      have e3 : eMs (aheadOf m l) ++ eM m :: eMs (behindOf m l) = eMs (aheadOf m l ++ m :: behindOf m l) := by simp [eMs]
      have tx := txt_ok gf h4
      refine ⟨some (.lst (eMs (aheadOf m l))), ?_⟩
      unfold S9 dueT
      rw [if_pos hf]
      rw [t1] at cm2 ⊢
      simp [eE1, i1, le, t2, hz, wipeG, cm2, p1, ln, partOf, xSlice, oSome, oNone, sl, p2, e3, tx]
    · refine ⟨x13, ?_⟩
      unfold S9 dueT
      rw [if_neg hf]
      by_cases t1 : l.filter (overB m) = []
      · have t2 : ¬ m.2.1 ≤ n := fun q => hf (si.mpr ⟨t1, q⟩)
        simp [eE1, t1, i1, le, t2]
      · simp [eE, t1]
  obtain ⟨y13, E9⟩ := E9
  have okd : okStr (dueT n l m) = true := by
    unfold dueT
    split
    · rename_i hf
      exact okStr_of (dayT_sign (show Good n (aheadOf m l ++ m :: behindOf m l) from ⟨g.lo, g.hi, hf⟩))
    · exact okw
  have hv := having_any2 g om h4
  have he : hear (xMethP TBf 10 f_Day_having [] (xVar 6) (xCons (xVar 10) xNil)) [some scr, some kv, some (.ref kb), x3, some (.int n), some (.lst (eMs l)), some (eDay n l), z7, y8, some (.int d), some (eM m), some (.lst (eMs (l.filter (overB m)))), some (.str (dueT n l m)), y13, x14, x15] h4 = .ok (.str (dueT n l m)) h4 := by
    unfold dueT
    by_cases hf : okF n 0 (aheadOf m l ++ m :: behindOf m l) = true
    · rw [if_pos hf] at hv ⊢
      exact hear_day (show Good n (aheadOf m l ++ m :: behindOf m l) from ⟨g.lo, g.hi, hf⟩) (by simp [isD, hv])
    · rw [if_neg hf] at hv ⊢
      exact hear_word (by simp [isD, hv])
  have E10 : S10 [some scr, some kv, some (.ref kb), x3, some (.int n), some (.lst (eMs l)), some (eDay n l), z7, y8, some (.int d), some (eM m), some (.lst (eMs (l.filter (overB m)))), some (.str (dueT n l m)), y13, x14, x15] h4 = .next [some scr, some kv, some (.ref kb), x3, some (.int n), some (.lst (eMs l)), some (eDay n l), z7, y8, some (.int d), some (eM m), some (.lst (eMs (l.filter (overB m)))), some (.str (dueT n l m)), y13, x14, x15] h4 := by
    unfold S10
    simp [he, gNe_str okd]
  obtain ⟨v, a5, b5, hv5, e11⟩ := drawOne TBf [.non, .str [50, 45, 53], .tup [.int 1, .int 2], .lst [.int 0, .int 1, .bl false], .tup [.int 2, .int 1, .bl true], .tup [.int 0, .int 1, .int 1], .int 3, .tup [], eDay n l] (by simp [eDay]) (by simp) (by simp) k4
  have k5 : (h4.set kb (box a5 b5))[kb]? = some (box a5 b5) := get_set k4
  have E11 : S11 [some scr, some kv, some (.ref kb), x3, some (.int n), some (.lst (eMs l)), some (eDay n l), z7, y8, some (.int d), some (eM m), some (.lst (eMs (l.filter (overB m)))), some (.str (dueT n l m)), y13, x14, x15] h4 = .next [some scr, some kv, some (.ref kb), x3, some (.int n), some (.lst (eMs l)), some (eDay n l), z7, y8, some (.int d), some (eM m), some (.lst (eMs (l.filter (overB m)))), some (.str (dueT n l m)), y13, some v, x15] (h4.set kb (box a5 b5)) := by
    unfold S11
    rw [one_is]
    simp [e11]
  generalize hh5 : h4.set kb (box a5 b5) = h5 at *
  have vno : okA v = true ∧ meetOk v = false := by
    simp only [List.mem_cons, List.not_mem_nil, or_false] at hv5
    rcases hv5 with rfl | rfl | rfl | rfl | rfl | rfl | rfl | rfl | rfl
    all_goals first
      | exact ⟨by decide, by decide⟩
      | exact ⟨by simp [eDay], rfl⟩
  have hw : hear (xMethP TBf 10 f_Day_having [] (xVar 6) (xCons (xVar 14) xNil)) [some scr, some kv, some (.ref kb), x3, some (.int n), some (.lst (eMs l)), some (eDay n l), z7, y8, some (.int d), some (eM m), some (.lst (eMs (l.filter (overB m)))), some (.str (dueT n l m)), y13, some v, x15] h5 = .ok (.str (33 :: wMeetings)) h5 := hear_word (by simp [isD, having_no n l vno.1 vno.2])
  have nw : gNe h5 (.str (33 :: wMeetings)) (.str [33, 109, 101, 101, 116, 105, 110, 103, 115]) = some (.bl false) := gNe_str okw h5
  have E12 : S12 [some scr, some kv, some (.ref kb), x3, some (.int n), some (.lst (eMs l)), some (eDay n l), z7, y8, some (.int d), some (eM m), some (.lst (eMs (l.filter (overB m)))), some (.str (dueT n l m)), y13, some v, x15] h5 = .next [some scr, some kv, some (.ref kb), x3, some (.int n), some (.lst (eMs l)), some (eDay n l), z7, y8, some (.int d), some (eM m), some (.lst (eMs (l.filter (overB m)))), some (.str (dueT n l m)), y13, some v, x15] h5 := by
    unfold S12
    simp [hw, nw, day_strT g, txt_ok g, gNe_str (okStr_of (dayT_sign g))]
  refine ⟨h5, a5, b5, [some (.int n), some (.lst (eMs l)), some (eDay n l), z7, y8, some (.int d), some (eM m), some (.lst (eMs (l.filter (overB m)))), some (.str (dueT n l m)), y13, some v, x15], k5, rfl, ?_⟩
  unfold inner
  rw [xSeq_n E1, xSeq_n E2, xSeq_n E3, xSeq_n E4, xSeq_n E5, xSeq_n E6, xSeq_n E7, xSeq_n E8, xSeq_n E9, xSeq_n E10, xSeq_n E11, E12]
theorem turns (scr kv : Val) (kb : Nat) : ∀ (vs : List Val) (h : Hh) (a b : Int) (r : Sg), h[kb]? = some (box a b) → r.length = 13 →
    ∃ (h' : Hh) (a' b' : Int) (r' : Sg), h'[kb]? = some (box a' b') ∧ r'.length = 13 ∧ forItems (bodyOf (gN 3) inner) vs (some scr :: some kv :: some (.ref kb) :: r) h = .next (some scr :: some kv :: some (.ref kb) :: r') h'
  | [], h, a, b, r, hk, hr => ⟨h, a, b, r, hk, hr, rfl⟩
  | v :: vs, h, a, b, r, hk, hr => by
    match r, hr with
    | [x3, x4, x5, x6, x7, x8, x9, x10, x11, x12, x13, x14, x15], _ =>
      obtain ⟨h1, a1, b1, r1, k1, hr1, e1⟩ := turn scr kv h kb a b hk (some v) x4 x5 x6 x7 x8 x9 x10 x11 x12 x13 x14 x15
      obtain ⟨h2, a2, b2, r2, k2, hr2, e2⟩ := turns scr kv kb vs h1 a1 b1 (some v :: r1) k1 (by simp [hr1])
      refine ⟨h2, a2, b2, r2, k2, hr2, ?_⟩
      unfold forItems
      have : bodyOf (gN 3) inner v (some scr :: some kv :: some (.ref kb) :: [x3, x4, x5, x6, x7, x8, x9, x10, x11, x12, x13, x14, x15]) h = inner [some scr, some kv, some (.ref kb), some v, x4, x5, x6, x7, x8, x9, x10, x11, x12, x13, x14, x15] h := rfl
      rw [this, e1]
      exact e2
theorem law_says (ns : List Int) : ∃ h', f_law [] [.lst (ns.map Val.int)] = .ok (.bl true) h' := by
  rw [law_is]
  refine law_loop3 (m := 14) (fun sg => ?_) (fun k r h hr => ?_) (fun x r o t hr => ?_)
  · refine ⟨(if (2 : Int) < if (ns.length : Int) < 5 then (ns.length : Int) else 5 then if (ns.length : Int) < 5 then (ns.length : Int) else 5 else 2), ?_, ?_, ?_⟩
    · unfold cnt
      simp [gMax2, gMin2, gLenX, dctOf, gLen, lstOf]
    · unfold small62; split <;> split <;> simp <;> omega
    · split <;> split <;> omega
  · match r, hr with
    | x2 :: r, hr =>
      obtain ⟨a, b, e⟩ := callO_seed TBf 40093 (by decide) ns k h
      have hr : r.length = 13 := by simpa using hr
      have E0 : outer0 (some (.lst (ns.map Val.int)) :: some (.int k) :: x2 :: r) h = .next (some (.lst (ns.map Val.int)) :: some (.int k) :: some (.ref h.length) :: r) (h ++ [box a b]) := by
        unfold outer0
        rw [seed_is]
        simp [e]
      obtain ⟨h2, a2, b2, r2, k2, hr2, e2⟩ := turns (.lst (ns.map Val.int)) (.int k) h.length (rng 0 4) (h ++ [box a b]) a b r (get_end _ _) hr
      cases h2 with
      | nil => simp at k2
      | cons o t =>
        refine ⟨some (.ref h.length) :: r2, o, t, ?_, by simp [hr2]⟩
        unfold outer
        rw [xSeq_n E0]
        simp [small62]
        exact e2
  · exact ⟨o :: t, rfl⟩
end Law
theorem PySem.Challenge.cw_dimdays_k05_days_with_one_meeting_more_o_holds : PySem.Challenge.rw_dimdays_k05_days_with_one_meeting_more_o.Holds := by
  exact Law.ends fun ns _ _ => Law.law_says ns
