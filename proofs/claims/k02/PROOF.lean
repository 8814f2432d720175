import PyProof.Rows.All
import Wide.All
import OpenK.AllK
import Wide.FinOn
import HandS.ForMost
import HandS.ForExc
import HandS.CallSlots
import HandS.HeadHook4
import HandS.HeadEnd
import HandS.TupAny
import HandS.TupMul
import HandS.NoneIn
import HandS.Style
import HandS.SetFor
import HandS.Deep
import HandS.Defaults
import HandS.Property
import HandS.IsInst
import PyProof.ReprRoads
import HandS.RaiseMore
import KE.GoesEnum
import KE.GoesMore
import HandS.Flow
import HandS.Conv
import KE.KStateDown
import HandS.Head0
import HandS.Head1
import HandS.Head2
import KE.KTupSum
import HandS.ExcInit
import HandS.TryOnly
import KE.KTryMore
import KE.KExcInit
import HandS.ExcField
import HandS.ExcIs
import KE.KExcIs
import HandS.FStr
import KE.KCallOwn
import KE.GoesZip
import KE.GoesEnumKw
import PySem.Challenge.RW_staycounts_k02_counts_refused
set_option Elab.async false
set_option linter.all false
set_option maxRecDepth 100000
set_option maxHeartbeats 4000000
/-! a machine of plain values over HandS: heap by index, deterministic -/
namespace Mc
open PySem PySem.Spec PyProof.Rows L2
abbrev Frag := PySem.W.Frag

inductive W where
  | non | bl (b : Bool) | int (i : Int) | str (x : Str) | ref (i : Nat) | ty (n : String) | glo (x : Str)
  deriving DecidableEq
inductive MO where
  | lst (xs : List W) | tup (xs : List W) | frl (xs : List W) | ktp (xs : List W)
  | dK (kvs : List (Key × W)) | ins (C : Str) (dx : Nat) (fs : List (Str × W)) | own (x : Nat) | xd (fs : List (Str × W)) | exc (C : Str) (d : Option Nat)
  deriving DecidableEq
abbrev Mh := List MO
abbrev MSt := List (Option W)
structure Exn where
  cls : Str
  d : Option Nat
inductive R (α : Type) where
  | ok (a : α) (h : Mh) | ex (x : Exn) (h : Mh) | no
def R.bind {α β : Type} (r : R α) (k : α → Mh → R β) : R β := match r with
  | .ok a h => k a h
  | .ex x h => .ex x h
  | .no => .no

def cV (K : Frag) (ρ : List Addr) : W → V
  | .non => .non
  | .bl b => .bl b
  | .int i => .int i
  | .str x => .str x
  | .ref i => .ref (ρ.getD i 0)
  | .ty n => .ty n
  | .glo x => .ref (He.ga K x)
def wfV (n : Nat) : W → Prop
  | .ref i => i < n
  | _ => True
abbrev WfL (n : Nat) (xs : List W) : Prop := ∀ x ∈ xs, wfV n x
def WfO (n : Nat) : MO → Prop
  | .lst xs => WfL n xs
  | .tup xs => WfL n xs
  | .frl xs => WfL n xs
  | .ktp xs => WfL n xs
  | .dK kvs => ∀ p ∈ kvs, wfV n p.2
  | .ins _ dx fs => dx < n ∧ ∀ p ∈ fs, wfV n p.2
  | .own x => x < n
  | .xd fs => ∀ p ∈ fs, wfV n p.2
  | .exc _ d => ∀ i, d = some i → i < n
/-- a caught exception -/
def exq (e C : Addr) (d : Option Addr) : HO := .ext fun h => ∃ (o : Obj) (vs : Array Value), h.get? e = some o ∧ Zc (.ref C) d o ∧ o.data = .fields vs
def MO.trk : MO → Bool
  | .frl _ => false
  | .ktp _ => false
  | .exc _ _ => false
  | _ => true
abbrev cL (K : Frag) (ρ : List Addr) (xs : List W) : List V := xs.map (cV K ρ)
def cO (K : Frag) (ρ : List Addr) : MO → HO
  | .lst xs => .lst (cL K ρ xs)
  | .tup xs => .tup (cL K ρ xs)
  | .frl xs => .lst (cL K ρ xs)
  | .ktp xs => .tup (cL K ρ xs)
  | .dK kvs => .dK (kvs.map fun p => (p.1, cV K ρ p.2))
  | .ins C dx fs => .ins (He.ga K C) (ρ.getD dx 0) (fs.map fun p => (p.1, cV K ρ p.2))
  | .own x => .own (ρ.getD x 0)
  | .xd fs => .xd (fs.map fun p => (p.1, cV K ρ p.2))
  | .exc _ _ => .tup []
abbrev cS (K : Frag) (ρ : List Addr) (σ : MSt) : L2.St := σ.map (Option.map (cV K ρ))
def WfS (n : Nat) (σ : MSt) : Prop := ∀ v, some v ∈ σ → wfV n v
def RepO (K : Frag) (ρ : List Addr) (H : Hp) (a : Addr) : MO → Prop
  | .frl xs => (∃ ob, H a = some (.frz ob (.lst (cL K ρ xs)))) ∨ ∀ H', SqL K H' a (cL K ρ xs)
  | .ktp xs => ∀ H', SqT K H' a (cL K ρ xs)
  | .exc C d => H a = some (exq a (He.ga K C) (d.map fun i => ρ.getD i 0))
  | o => H a = some (cO K ρ o)
structure Rep (K : Frag) (ρ : List Addr) (h : Mh) (H : Hp) : Prop where
  len : ρ.length = h.length
  wf : ∀ o ∈ h, WfO h.length o
  obj : ∀ i o, h[i]? = some o → RepO K ρ H (ρ.getD i 0) o
  inj : ∀ i j oi oj, h[i]? = some oi → h[j]? = some oj → oi.trk = true → oj.trk = true → ρ.getD i 0 = ρ.getD j 0 → i = j

section
variable {K : Frag} {ρ ρ' ρ'' : List Addr} {h h' : Mh} {H H' : Hp} {n m i j : Nat} {w x : W} {xs ys : List W} {σ : MSt} {o o' : MO} {p : Addr}
theorem wfV.mono (a : wfV n w) (l : n ≤ m) : wfV m w := by
  cases w <;> first | trivial | exact Nat.lt_of_lt_of_le a l
theorem WfS.mono (a : WfS n σ) (l : n ≤ m) : WfS m σ := fun v hv => (a v hv).mono l
theorem WfL.mono (a : WfL n xs) (l : n ≤ m) : WfL m xs := fun v hv => (a v hv).mono l
theorem WfO.mono (a : WfO n o) (l : n ≤ m) : WfO m o := by
  cases o with
  | lst xs => exact WfL.mono a l
  | tup xs => exact WfL.mono a l
  | frl xs => exact WfL.mono a l
  | ktp xs => exact WfL.mono a l
  | dK kvs => exact fun q hq => (a q hq).mono l
  | ins C dx fs => exact ⟨Nat.lt_of_lt_of_le a.1 l, fun q hq => (a.2 q hq).mono l⟩
  | own x => exact Nat.lt_of_lt_of_le a l
  | xd fs => exact fun q hq => (a q hq).mono l
  | exc C d => exact fun i hi => Nat.lt_of_lt_of_le (a i hi) l
theorem getD_pre (l : ρ <+: ρ') (hi : i < ρ.length) : ρ'.getD i 0 = ρ.getD i 0 := by
  obtain ⟨t, rfl⟩ := l
  rw [List.getD_eq_getElem?_getD, List.getD_eq_getElem?_getD, List.getElem?_append_left hi]
theorem cV_pre (l : ρ <+: ρ') (a : wfV ρ.length w) : cV K ρ' w = cV K ρ w := by
  cases w <;> first | rfl | exact congrArg V.ref (getD_pre l a)
theorem cL_pre (l : ρ <+: ρ') (a : WfL ρ.length xs) : cL K ρ' xs = cL K ρ xs := List.map_congr_left fun x hx => cV_pre l (a x hx)
theorem cS_pre (l : ρ <+: ρ') (a : WfS ρ.length σ) : cS K ρ' σ = cS K ρ σ := List.map_congr_left fun x hx => by
  cases x with
  | none => rfl
  | some v => exact congrArg some (cV_pre l (a v hx))
theorem cO_pre (l : ρ <+: ρ') (a : WfO ρ.length o) : cO K ρ' o = cO K ρ o := by
  cases o with
  | lst xs => exact congrArg HO.lst (cL_pre l a)
  | tup xs => exact congrArg HO.tup (cL_pre l a)
  | frl xs => exact congrArg HO.lst (cL_pre l a)
  | ktp xs => exact congrArg HO.tup (cL_pre l a)
  | dK kvs => exact congrArg HO.dK (List.map_congr_left fun q hq => by rw [cV_pre l (a q hq)])
  | ins C dx fs =>
    show HO.ins _ _ _ = HO.ins _ _ _
    rw [getD_pre l a.1, List.map_congr_left fun q hq => by rw [cV_pre l (a.2 q hq)]]
  | own x => exact congrArg HO.own (getD_pre l a)
  | xd fs => exact congrArg HO.xd (List.map_congr_left fun q hq => by rw [cV_pre l (a q hq)])
  | exc C d => rfl
theorem RepO.pre (l : ρ <+: ρ') (a : WfO ρ.length o) {q : Addr} (r : RepO K ρ H q o) : RepO K ρ' H q o := by
  cases o with
  | frl xs =>
    show (∃ ob, H q = some (.frz ob (.lst (cL K ρ' xs)))) ∨ ∀ H', SqL K H' q (cL K ρ' xs)
    rw [cL_pre l a]; exact r
  | ktp xs =>
    show ∀ H', SqT K H' q (cL K ρ' xs)
    rw [cL_pre l a]; exact r
  | exc C d =>
    have e : (d.map fun i => ρ'.getD i 0) = d.map fun i => ρ.getD i 0 := by
      cases d with
      | none => rfl
      | some i => exact congrArg some (getD_pre l (a i rfl))
    show H q = some (exq q (He.ga K C) (d.map fun i => ρ'.getD i 0))
    rw [e]; exact r
  | _ => (show H q = some (cO K ρ' _)); rw [cO_pre l a]; exact r
theorem RepO.trk_eq (t : o.trk = true) {q : Addr} (r : RepO K ρ H q o) : H q = some (cO K ρ o) := by
  cases o <;> first | exact r | cases t
theorem RepO.of_eq (t : o.trk = true) {q : Addr} (r : H q = some (cO K ρ o)) : RepO K ρ H q o := by
  cases o <;> first | exact r | cases t
theorem cO_nexq {e C : Addr} {d : Option Addr} : cO K ρ o ≠ exq e C d := by cases o <;> intro z <;> (unfold exq at z; cases z)
theorem cO_nfrz (ob : Obj) (u : HO) : cO K ρ o ≠ .frz ob u := by cases o <;> intro z <;> cases z
/-- an object that is kept -/
theorem RepO.keep {q : Addr} (r : RepO K ρ H q o) (k : ∀ u, H q = some u → H' q = some u) : RepO K ρ H' q o := by
  cases o with
  | frl xs =>
    rcases r with ⟨ob, e⟩ | r
    · exact .inl ⟨ob, k _ e⟩
    · exact .inr r
  | ktp xs => exact r
  | _ => exact k _ r
theorem Rep.wfO (r : Rep K ρ h H) (e : h[i]? = some o) : WfO ρ.length o := by rw [r.len]; exact r.wf o (List.mem_of_getElem? e)
theorem Rep.lt (r : Rep K ρ h H) (e : h[i]? = some o) : i < ρ.length := by rw [r.len]; exact (List.getElem?_eq_some_iff.mp e).1
theorem getD_last : (ρ ++ [p]).getD ρ.length 0 = p := by
  rw [List.getD_eq_getElem?_getD, List.getElem?_append_right (Nat.le_refl _), Nat.sub_self] <;> rfl
/-- the represented addresses are held -/
theorem Rep.ne (r : Rep K ρ h H) (hp : H p = none) (e : h[i]? = some o) (t : o.trk = true) : ρ.getD i 0 ≠ p := fun z => by
  have q := (r.obj i o e).trk_eq t
  rw [z, hp] at q
  cases q
/-- the heap may grow where nothing stood -/
theorem Rep.grow (r : Rep K ρ h H) (k : ∀ a u, H a = some u → H' a = some u) : Rep K ρ h H' := ⟨r.len, r.wf, fun i o e => (r.obj i o e).keep fun u => k _ u, r.inj⟩
/-- a new object -/
theorem Rep.alloc (r : Rep K ρ h H) (hp : H p = none) (t : o.trk = true) (wf : WfO h.length o) : Rep K (ρ ++ [p]) (h ++ [o]) (upd H p (cO K ρ o)) := by
  have pre : ρ <+: ρ ++ [p] := ⟨_, rfl⟩
  have wfo : WfO ρ.length o := by rw [r.len]; exact wf
  refine ⟨by simp [r.len], fun o' ho' => ?_, fun i o' e => ?_, fun i j oi oj ei ej ti tj z => ?_⟩
  · rw [List.length_append]
    rcases List.mem_append.mp ho' with q | q
    · exact (r.wf o' q).mono (Nat.le_add_right _ _)
    · rw [List.mem_singleton.mp q]; exact wf.mono (Nat.le_add_right _ _)
  · by_cases hi : i < h.length
    · rw [List.getElem?_append_left hi] at e
      rw [getD_pre pre (by rw [r.len]; exact hi)]
      refine ((r.obj i o' e).pre pre (r.wfO e)).keep fun u q => ?_
      rw [upd_ne (ne_of_none q hp)]; exact q
    · have hl := (List.getElem?_eq_some_iff.mp e).1
      rw [List.length_append, List.length_singleton] at hl
      have hi2 : i = ρ.length := by rw [r.len]; omega
      subst hi2
      rw [r.len, List.getElem?_append_right (Nat.le_refl _), Nat.sub_self] at e
      have e : o = o' := by simpa using e
      subst e
      refine RepO.of_eq t ?_
      rw [getD_last, upd_same, cO_pre pre wfo]
  · by_cases hi : i < h.length
    · rw [List.getElem?_append_left hi] at ei
      rw [getD_pre pre (by rw [r.len]; exact hi)] at z
      by_cases hj : j < h.length
      · rw [List.getElem?_append_left hj] at ej
        rw [getD_pre pre (by rw [r.len]; exact hj)] at z
        exact r.inj i j oi oj ei ej ti tj z
      · have hl := (List.getElem?_eq_some_iff.mp ej).1
        rw [List.length_append, List.length_singleton] at hl
        have hj2 : j = ρ.length := by rw [r.len]; omega
        rw [hj2, getD_last] at z
        exact absurd z (r.ne hp ei ti)
    · have hl := (List.getElem?_eq_some_iff.mp ei).1
      rw [List.length_append, List.length_singleton] at hl
      have hi2 : i = ρ.length := by rw [r.len]; omega
      by_cases hj : j < h.length
      · rw [List.getElem?_append_left hj] at ej
        rw [hi2, getD_last, getD_pre pre (by rw [r.len]; exact hj)] at z
        exact absurd z.symm (r.ne hp ej tj)
      · have hl2 := (List.getElem?_eq_some_iff.mp ej).1
        rw [List.length_append, List.length_singleton] at hl2
        omega
/-- an object is changed -/
theorem Rep.set (r : Rep K ρ h H) (e : h[i]? = some o) (t : o.trk = true) (t' : o'.trk = true) (wf : WfO h.length o') : Rep K ρ (h.set i o') (upd H (ρ.getD i 0) (cO K ρ o')) := by
  have hlt := (List.getElem?_eq_some_iff.mp e).1
  have trks : ∀ (j : Nat) (oj : MO), (h.set i o')[j]? = some oj → oj.trk = true → ∃ ok : MO, h[j]? = some ok ∧ ok.trk = true := fun j oj ej tj => by
    by_cases hj : i = j
    · subst hj; exact ⟨o, e, t⟩
    · rw [List.getElem?_set_ne hj] at ej; exact ⟨oj, ej, tj⟩
  refine ⟨by rw [List.length_set]; exact r.len, fun q hq => ?_, fun j q ej => ?_, fun j k oj ok ej ek tj tk z => ?_⟩
  · rw [List.length_set]
    rcases List.mem_or_eq_of_mem_set hq with q | q
    · exact r.wf _ q
    · rw [q]; exact wf
  · by_cases hj : i = j
    · subst hj
      rw [List.getElem?_set_self hlt] at ej
      cases ej
      exact RepO.of_eq t' upd_same
    · rw [List.getElem?_set_ne hj] at ej
      cases hq : q.trk with
      | true =>
        refine (r.obj j q ej).keep fun u hu => ?_
        rw [upd_ne fun z => hj (r.inj i j o q e ej t hq z.symm)]
        exact hu
      | false =>
        have e2 := (r.obj i o e).trk_eq t
        have e4 := r.obj j q ej
        cases q with
        | frl xs =>
          rcases e4 with ⟨ob, e3⟩ | e3
          · refine .inl ⟨ob, ?_⟩
            rw [upd_ne fun z => ?_]
            · exact e3
            · rw [z, e2] at e3
              exact cO_nfrz _ _ (Option.some.inj e3)
          · exact .inr e3
        | ktp xs => exact e4
        | exc C d =>
          have e5 : H (ρ.getD j 0) = some (exq (ρ.getD j 0) (He.ga K C) (d.map fun i => ρ.getD i 0)) := e4
          show upd H _ _ _ = _
          rw [upd_ne fun z => ?_]
          · exact e5
          · rw [show H (ρ.getD j 0) = H (ρ.getD i 0) by rw [z], e2] at e5
            exact cO_nexq (Option.some.inj e5)
        | _ => cases hq
  · obtain ⟨a, ea, ta⟩ := trks j oj ej tj
    obtain ⟨b, eb, tb⟩ := trks k ok ek tk
    exact r.inj j k a b ea eb ta tb z
end
end Mc

namespace Mc
open PySem PySem.Spec PyProof.Rows L2

/-! ### results and wishes -/
def Gd (K : Frag) (E : XK) (ρ : List Addr) {α : Type} (wf : Nat → α → Prop) (r : R α) (Q : List Addr → Mh → α → Hp → Prop) : Prop := match r with
  | .ok a h => ∀ ρ' H', ρ <+: ρ' → Rep K ρ' h H' → wf h.length a → Q ρ' h a H'
  | .ex x h => ∀ ρ' H', ρ <+: ρ' → Rep K ρ' h H' → E (.ref (He.ga K x.cls)) (x.d.map fun i => ρ'.getD i 0) H'
  | .no => False
abbrev wfB (_ : Nat) (_ : Bool) : Prop := True
section
variable {K : Frag} {E : XK} {ρ ρ' : List Addr} {α β : Type} {wf : Nat → α → Prop} {wf2 : Nat → β → Prop} {r : R α} {Q Q' : List Addr → Mh → α → Hp → Prop}
theorem Gd.pre (l : ρ <+: ρ') (g : Gd K E ρ wf r Q) : Gd K E ρ' wf r Q := by
  cases r with
  | ok a h => exact fun ρ2 H2 l2 => g ρ2 H2 (l.trans l2)
  | ex x h => exact fun ρ2 H2 l2 => g ρ2 H2 (l.trans l2)
  | no => exact g
theorem Gd.imp (g : Gd K E ρ wf r Q) (f : ∀ ρ' h' a H', ρ <+: ρ' → Rep K ρ' h' H' → wf h'.length a → Q ρ' h' a H' → Q' ρ' h' a H') : Gd K E ρ wf r Q' := by
  cases r with
  | ok a h => exact fun ρ2 H2 l2 rp w => f ρ2 h a H2 l2 rp w (g ρ2 H2 l2 rp w)
  | ex x h => exact g
  | no => exact g
theorem Gd.bind {k : α → Mh → R β} {Q2 : List Addr → Mh → β → Hp → Prop} (g : Gd K E ρ wf2 (r.bind k) Q2) : Gd K E ρ wf r (fun ρ' h' a _ => Gd K E ρ' wf2 (k a h') Q2) := by
  cases r with
  | ok a h => exact fun ρ2 H2 l2 _ _ => Gd.pre l2 g
  | ex x h => exact g
  | no => exact g
end
theorem pre_rfl {ρ : List Addr} : ρ <+: ρ := List.prefix_refl ρ

abbrev MEx := MSt → Mh → R W
abbrev MTx := MSt → Mh → R Bool
abbrev MAx := MSt → Mh → R (List W)
def lE (K : Frag) (Wx : WX) (m : MEx) : TE := fun σV H Q => ∃ ρ h σ, Rep K ρ h H ∧ WfS h.length σ ∧ σV = cS K ρ σ ∧ Gd K (fun c d H' => Wx c d σV H') ρ wfV (m σ h) fun ρ' _ w H' => Q (cV K ρ' w) H'
def lT (K : Frag) (Wx : WX) (m : MTx) : TT := fun σV H Q => ∃ ρ h σ, Rep K ρ h H ∧ WfS h.length σ ∧ σV = cS K ρ σ ∧ Gd K (fun c d H' => Wx c d σV H') ρ wfB (m σ h) fun _ _ b H' => Q b H'
def lA (K : Frag) (Wx : WX) (m : MAx) : TA := fun σV H Q => ∃ ρ h σ, Rep K ρ h H ∧ WfS h.length σ ∧ σV = cS K ρ σ ∧ Gd K (fun c d H' => Wx c d σV H') ρ WfL (m σ h) fun ρ' _ ws H' => Q (cL K ρ' ws) H'
abbrev ME (X : Cx) (Wx : WX) (e : Expr) (m : MEx) : Prop := PE X e (lE X.K Wx m)
abbrev MT (X : Cx) (Wx : WX) (e : Expr) (m : MTx) : Prop := PT X e (lT X.K Wx m)
abbrev MA (X : Cx) (Wx : WX) (es : List Expr) (m : MAx) : Prop := PA X es (lA X.K Wx m)
section
variable {X : Cx} {e : Expr} {es : List Expr} {t t' : TE} {u u' : TT} {a a' : TA}
theorem peI (h : PE X e t) (f : ∀ σ H Q, t' σ H Q → t σ H Q) : PE X e t' := ⟨fun pins s σ H Q I q => h.run pins s σ H Q I (f σ H Q q)⟩
theorem ptI (h : PT X e u) (f : ∀ σ H Q, u' σ H Q → u σ H Q) : PT X e u' := ⟨fun pins s σ H Q I q => h.run pins s σ H Q I (f σ H Q q)⟩
theorem paI (h : PA X es a) (f : ∀ σ H Q, a' σ H Q → a σ H Q) : PA X es a' := ⟨fun pos pins s σ H Q I q => h.run pos pins s σ H Q I (f σ H Q q)⟩
theorem pwI (h : PW X e u) (f : ∀ σ H Q, u' σ H Q → u σ H Q) : PW X e u' := ⟨fun wh pins s σ H Q I q => h.run wh pins s σ H Q I (f σ H Q q)⟩
end

section
variable {K : Frag} {Wx : WX} {ρ ρ' : List Addr} {h h' : Mh} {σ : MSt} {H H' : Hp}
/-- enter at a later state -/
theorem lE.at {m : MEx} {Q : VK} (l : ρ <+: ρ') (hw : WfS ρ.length σ) (r : Rep K ρ' h' H') (g : Gd K (fun c d H' => Wx c d (cS K ρ σ) H') ρ' wfV (m σ h') fun ρ' _ w H' => Q (cV K ρ' w) H') : lE K Wx m (cS K ρ σ) H' Q :=
  ⟨ρ', h', σ, r, (hw.mono l.length_le).mono (Nat.le_of_eq r.len), (cS_pre l hw).symm, g⟩
theorem lT.at {m : MTx} {Q : Bool → Hp → Prop} (l : ρ <+: ρ') (hw : WfS ρ.length σ) (r : Rep K ρ' h' H') (g : Gd K (fun c d H' => Wx c d (cS K ρ σ) H') ρ' wfB (m σ h') fun _ _ b H' => Q b H') : lT K Wx m (cS K ρ σ) H' Q :=
  ⟨ρ', h', σ, r, (hw.mono l.length_le).mono (Nat.le_of_eq r.len), (cS_pre l hw).symm, g⟩
theorem lA.at {m : MAx} {Q : List V → Hp → Prop} (l : ρ <+: ρ') (hw : WfS ρ.length σ) (r : Rep K ρ' h' H') (g : Gd K (fun c d H' => Wx c d (cS K ρ σ) H') ρ' WfL (m σ h') fun ρ' _ ws H' => Q (cL K ρ' ws) H') : lA K Wx m (cS K ρ σ) H' Q :=
  ⟨ρ', h', σ, r, (hw.mono l.length_le).mono (Nat.le_of_eq r.len), (cS_pre l hw).symm, g⟩
end

/-! ### names and constants -/
def mV (i : Nat) : MEx := fun σ h => match σ[i]? with
  | some (some w) => .ok w h
  | _ => .no
def mC (w : W) : MEx := fun _ h => .ok w h
section
variable {X : Cx} {Wx : WX}
theorem me_var {i : Nat} {x : Str} {pos : Pos} (hN : X.N[i]? = some x := by rfl) (hv : Vis X.env.scope x := by first | exact Or.inl rfl | exact Or.inr (Or.inl rfl) | exact Or.inr (Or.inr rfl)) (hd : (x == ("__debug__" : Str)) = false := by decide)
    (hcd : (x == ("__classdict__" : Str)) = false := by decide) : ME X Wx (.Name x pos) (mV i) := by
  refine peI (pe_var hN hv hd hcd) fun σV H Q ⟨ρ, h, σ, r, wf, e, g⟩ => ?_
  subst e
  unfold mV at g
  cases q : σ[i]? with
  | none => rw [q] at g; exact g.elim
  | some o =>
    rw [q] at g
    cases o with
    | none => exact g.elim
    | some w =>
      refine ⟨cV X.K ρ w, by rw [List.getElem?_map, q] <;> rfl, g ρ H pre_rfl r (wf w (List.mem_of_getElem? q))⟩
theorem me_c {e : Expr} {t : TE} {v : V} {w : W} (h : PE X e (tC v)) (hv : ∀ ρ, cV X.K ρ w = v) (hw : ∀ n, wfV n w) : ME X Wx e (mC w) := by
  refine peI h fun σV H Q ⟨ρ, h, σ, r, wf, e, g⟩ => ?_
  show Q v H
  rw [← hv ρ]
  exact g ρ H pre_rfl r (hw _)
theorem me_int {i j pos} : ME X Wx (.Constant (.int i) j pos) (mC (.int i)) := me_c (t := tC (.int i)) pe_int (fun _ => rfl) fun _ => trivial
theorem me_bl {b j pos} : ME X Wx (.Constant (.bool b) j pos) (mC (.bl b)) := me_c (t := tC (.bl b)) pe_bl (fun _ => rfl) fun _ => trivial
theorem me_non {j pos} : ME X Wx (.Constant .none j pos) (mC .non) := me_c (t := tC .non) pe_non (fun _ => rfl) fun _ => trivial
theorem me_str {x j pos} : ME X Wx (.Constant (.str x) j pos) (mC (.str x)) := me_c (t := tC (.str x)) pe_str (fun _ => rfl) fun _ => trivial
/-- a module's constant -/
theorem me_glob {x : Str} {pos : Pos} {v : V} {u : Value} {w : W} (hg : Gl X x) (hm : X.mg x = some u) (hr : RelV v u) (hv : ∀ ρ, cV X.K ρ w = v := by intro _; rfl) (hw : ∀ n, wfV n w := by intro _; trivial) (hdb : (x == ("__debug__" : Str)) = false := by decide) : ME X Wx (.Name x pos) (mC w) :=
  me_c (t := tC v) (pe_glob hg hm hr hdb) hv hw
end

/-! ### operators -/
def m2 (k : W → W → Mh → R W) (ma mb : MEx) : MEx := fun σ h => (ma σ h).bind fun x h1 => (mb σ h1).bind fun y h2 => k x y h2
def m1 (k : W → Mh → R W) (ma : MEx) : MEx := fun σ h => (ma σ h).bind fun x h1 => k x h1
def OpM (K : Frag) (r : R2) (k : W → W → Mh → R W) : Prop := ∀ (E : XK) (ρ : List Addr) (h : Mh) (H : Hp) (x y : W) (Q : VK), Rep K ρ h H → wfV h.length x → wfV h.length y → Gd K E ρ wfV (k x y h) (fun ρ' _ w H' => Q (cV K ρ' w) H') → r (cV K ρ x) (cV K ρ y) H Q
def UnM (K : Frag) (r : V → Hp → VK → Prop) (k : W → Mh → R W) : Prop := ∀ (E : XK) (ρ : List Addr) (h : Mh) (H : Hp) (x : W) (Q : VK), Rep K ρ h H → wfV h.length x → Gd K E ρ wfV (k x h) (fun ρ' _ w H' => Q (cV K ρ' w) H') → r (cV K ρ x) H Q
section
variable {X : Cx} {Wx : WX} {K : Frag} {ma mb mc : MEx} {a b c : Expr} {pos : Pos} {r r' : R2} {k k' : W → W → Mh → R W}
theorem lE_op (hk : OpM K r k) {σV : L2.St} {H : Hp} {Q : VK} (g : lE K Wx (m2 k ma mb) σV H Q) : tOp r (lE K Wx ma) (lE K Wx mb) σV H Q := by
  obtain ⟨ρ, h, σ, rp, wf, rfl, g⟩ := g
  have wf' : WfS ρ.length σ := by rw [rp.len]; exact wf
  refine ⟨ρ, h, σ, rp, wf, rfl, g.bind.imp fun ρ1 h1 x H1 l1 r1 wx g1 => ?_⟩
  refine lE.at l1 wf' r1 (g1.bind.imp fun ρ2 h2 y H2 l2 r2 wy g2 => ?_)
  have ex : cV K ρ2 x = cV K ρ1 x := cV_pre l2 (by rw [r1.len]; exact wx)
  rw [← ex]
  exact hk _ ρ2 h2 H2 x y Q r2 (wx.mono (by rw [← r1.len, ← r2.len]; exact l2.length_le)) wy g2
theorem lE_un {r : V → Hp → VK → Prop} {k : W → Mh → R W} (hk : UnM K r k) {σV : L2.St} {H : Hp} {Q : VK} (g : lE K Wx (m1 k ma) σV H Q) : tUn r (lE K Wx ma) σV H Q := by
  obtain ⟨ρ, h, σ, rp, wf, rfl, g⟩ := g
  exact ⟨ρ, h, σ, rp, wf, rfl, g.bind.imp fun ρ1 h1 x H1 l1 r1 wx g1 => hk _ ρ1 h1 H1 x Q r1 wx g1⟩
theorem me_op {op : Operator} (ho : OpR X (binaryOp op) r) (hk : OpM X.K r k) (ha : ME X Wx a ma) (hb : ME X Wx b mb) : ME X Wx (.BinOp a op b pos) (m2 k ma mb) := peI (pe_op ho ha hb) fun _ _ _ g => lE_op hk g
theorem me_un {op : UnaryOp} {r : V → Hp → VK → Prop} {k : W → Mh → R W} (ho : UnR X (unaryOp op) r) (hk : UnM X.K r k) (ha : ME X Wx a ma) : ME X Wx (.UnaryOp op a pos) (m1 k ma) := peI (pe_un ho ha) fun _ _ _ g => lE_un hk g
theorem me_cmp {op : CmpOp} (ho : OpR X (compareOp op) r) (hk : OpM X.K r k) (ha : ME X Wx a ma) (hb : ME X Wx b mb) (hm : behindInMarks op b = false) : ME X Wx (.Compare a [op] [b] pos) (m2 k ma mb) := peI (pe_cmpR ho ha hb hm) fun _ _ _ g => lE_op hk g
end
end Mc

namespace Mc
open PySem PySem.Spec PyProof.Rows L2

/-! ### statements -/
inductive Fl where
  | nx (σ : MSt) | rt (w : W) | bk (σ : MSt) | ct (σ : MSt) | xc (x : Exn) (σ : MSt)
abbrev MR := Option (Fl × Mh)
abbrev MSx := MSt → Mh → MR
def GdS (K : Frag) (Wx : WX) (D : Ends) (ρ : List Addr) : MR → Prop
  | none => False
  | some (.nx σ, h) => ∀ ρ' H', ρ <+: ρ' → Rep K ρ' h H' → WfS h.length σ → D.nx (cS K ρ' σ) H'
  | some (.rt w, h) => ∀ ρ' H', ρ <+: ρ' → Rep K ρ' h H' → wfV h.length w → D.rt (cV K ρ' w) H'
  | some (.bk σ, h) => ∀ ρ' H', ρ <+: ρ' → Rep K ρ' h H' → WfS h.length σ → D.bk (cS K ρ' σ) H'
  | some (.ct σ, h) => ∀ ρ' H', ρ <+: ρ' → Rep K ρ' h H' → WfS h.length σ → D.ct (cS K ρ' σ) H'
  | some (.xc x σ, h) => ∀ ρ' H', ρ <+: ρ' → Rep K ρ' h H' → WfS h.length σ → Wx (.ref (He.ga K x.cls)) (x.d.map fun i => ρ'.getD i 0) (cS K ρ' σ) H'
def lS (K : Frag) (Wx : WX) (m : MSx) : TS := fun D σV H => ∃ ρ h σ, Rep K ρ h H ∧ WfS h.length σ ∧ σV = cS K ρ σ ∧ GdS K Wx D ρ (m σ h)
abbrev MS (X : Cx) (Wx : WX) (st : Stmt) (m : MSx) : Prop := PS X st (lS X.K Wx m)
abbrev MSs (X : Cx) (Wx : WX) (st : List Stmt) (m : MSx) : Prop := PSs X st (lS X.K Wx m)
/-- an expression within a statement -/
def R.stm {α : Type} (r : R α) (σ : MSt) (k : α → Mh → MR) : MR := match r with
  | .ok a h => k a h
  | .ex x h => some (.xc x σ, h)
  | .no => none
section
variable {K : Frag} {Wx : WX} {D D' : Ends} {ρ ρ' : List Addr} {r : MR} {σ : MSt} {H : Hp} {h : Mh}
theorem GdS.pre (l : ρ <+: ρ') (g : GdS K Wx D ρ r) : GdS K Wx D ρ' r := by
  cases r with
  | none => exact g
  | some p =>
    obtain ⟨f, h⟩ := p
    cases f <;> exact fun ρ2 H2 l2 => g ρ2 H2 (l.trans l2)
theorem GdS.stm {α : Type} {wf : Nat → α → Prop} {q : R α} {k : α → Mh → MR} (r0 : Rep K ρ h H) (w0 : WfS ρ.length σ) (g : GdS K Wx D ρ (q.stm σ k)) (lq : h.length ≤ h.length) :
    Gd K (fun c d H' => Wx c d (cS K ρ σ) H') ρ wf q (fun ρ' h' a _ => GdS K Wx D ρ' (k a h')) := by
  cases q with
  | ok a h => exact fun ρ2 H2 l2 _ _ => GdS.pre l2 g
  | ex x h' =>
    intro ρ2 H2 l2 r2
    have := g ρ2 H2 l2 r2 ((w0.mono l2.length_le).mono (Nat.le_of_eq r2.len))
    rw [cS_pre l2 w0] at this
    exact this
  | no => exact g
theorem lS.at {m : MSx} (r : Rep K ρ h H) (wf : WfS h.length σ) (g : GdS K Wx D ρ (m σ h)) : lS K Wx m D (cS K ρ σ) H := ⟨ρ, h, σ, r, wf, rfl, g⟩
end

section
variable {X : Cx} {Wx : WX} {st : Stmt} {rest : List Stmt} {ms mt : MSx} {m : MEx} {e : Expr} {pos : Pos} {t t' : TS}
theorem psI (h : PS X st t) (f : ∀ D σ H, t' D σ H → t D σ H) : PS X st t' := ⟨fun pins s σ H D I q => h.run pins s σ H D I (f D σ H q)⟩
theorem pssI {sts : List Stmt} (h : PSs X sts t) (f : ∀ D σ H, t' D σ H → t D σ H) : PSs X sts t' := ⟨fun pins s σ H D I q => h.run pins s σ H D I (f D σ H q)⟩
def sNil : MSx := fun σ h => some (.nx σ, h)
def sSeq (a b : MSx) : MSx := fun σ h => match a σ h with
  | some (.nx σ', h') => b σ' h'
  | r => r
theorem mss_nil : MSs X Wx [] sNil := pssI pss_nil fun D σV H ⟨ρ, h, σ, r, wf, e, g⟩ => by subst e; exact g ρ H pre_rfl r wf
theorem lS_seq {K : Frag} {D : Ends} {σV : L2.St} {H : Hp} (g : lS K Wx (sSeq ms mt) D σV H) : lS K Wx ms { D with nx := lS K Wx mt D } σV H := by
  obtain ⟨ρ, h, σ, r, wf, e, g⟩ := g
  refine ⟨ρ, h, σ, r, wf, e, ?_⟩
  unfold sSeq at g
  cases q : ms σ h with
  | none => rw [q] at g; exact g
  | some p =>
    obtain ⟨f, h'⟩ := p
    rw [q] at g
    cases f with
    | nx σ' => exact fun ρ' H' l r' wf' => lS.at r' wf' (GdS.pre l g)
    | rt w => exact g
    | bk σ' => exact g
    | ct σ' => exact g
    | xc x σ' => exact g
theorem mss_cons (h1 : MS X Wx st ms) (h2 : MSs X Wx rest mt) : MSs X Wx (st :: rest) (sSeq ms mt) := pssI (pss_cons h1 h2) fun _ _ _ g => lS_seq g
theorem mss_one (h1 : MS X Wx st ms) : MSs X Wx [st] ms := pss_one h1
def sPass : MSx := fun σ h => some (.nx σ, h)
def sBreak : MSx := fun σ h => some (.bk σ, h)
def sCont : MSx := fun σ h => some (.ct σ, h)
theorem ms_pass : MS X Wx (.Pass pos) sPass := psI ps_pass fun D σV H ⟨ρ, h, σ, r, wf, e, g⟩ => by subst e; exact g ρ H pre_rfl r wf
theorem ms_break : MS X Wx (.Break pos) sBreak := psI ps_break fun D σV H ⟨ρ, h, σ, r, wf, e, g⟩ => by subst e; exact g ρ H pre_rfl r wf
theorem ms_cont : MS X Wx (.Continue pos) sCont := psI ps_continue fun D σV H ⟨ρ, h, σ, r, wf, e, g⟩ => by subst e; exact g ρ H pre_rfl r wf
/-- a statement that is not gone through -/
def sNo : MSx := fun _ _ => none
theorem ms_no : MS X Wx st sNo := psI ps_never fun D σV H ⟨ρ, h, σ, r, wf, e, g⟩ => g.elim
theorem mss_no {sts : List Stmt} : MSs X Wx sts sNo := pssI pss_never fun D σV H ⟨ρ, h, σ, r, wf, e, g⟩ => g.elim
def sDrop (m : MEx) : MSx := fun σ h => (m σ h).stm σ fun _ h' => some (.nx σ, h')
theorem ms_expr (he : ME X Wx e m) (hs : swapsWith e none pos.line X.env = pure false := by rfl) : MS X Wx (.Expr e pos) (sDrop m) := psI (ps_expr he hs) fun D σV H ⟨ρ, h, σ, r, wf, e, g⟩ => by
  subst e
  have w0 : WfS ρ.length σ := by rw [r.len]; exact wf
  refine ⟨ρ, h, σ, r, wf, rfl, (GdS.stm r w0 g (Nat.le_refl _)).imp fun ρ1 h1 w H1 l1 r1 _ g1 => ?_⟩
  have := g1 ρ1 H1 pre_rfl r1 ((w0.mono l1.length_le).mono (Nat.le_of_eq r1.len))
  rw [cS_pre l1 w0] at this
  exact this
def sRet (m : MEx) : MSx := fun σ h => (m σ h).stm σ fun w h' => some (.rt w, h')
theorem ms_ret (he : ME X Wx e m) : MS X Wx (.Return (some e) pos) (sRet m) := psI (ps_ret he) fun D σV H ⟨ρ, h, σ, r, wf, e, g⟩ => by
  subst e
  have w0 : WfS ρ.length σ := by rw [r.len]; exact wf
  exact ⟨ρ, h, σ, r, wf, rfl, (GdS.stm r w0 g (Nat.le_refl _)).imp fun ρ1 h1 w H1 l1 r1 wf1 g1 => g1 ρ1 H1 pre_rfl r1 wf1⟩
def sRetN : MSx := fun _ h => some (.rt .non, h)
theorem ms_retN : MS X Wx (.Return none pos) sRetN := psI ps_retN fun D σV H ⟨ρ, h, σ, r, wf, e, g⟩ => g ρ H pre_rfl r trivial
def sIf (c : MTx) (a b : MSx) : MSx := fun σ h => (c σ h).stm σ fun k h' => if k then a σ h' else b σ h'
theorem ms_if {c : Expr} {a b : List Stmt} {mc : MTx} (hc : MT X Wx c mc) (ha : MSs X Wx a ms) (hb : MSs X Wx b mt) : MS X Wx (.If c a b pos) (sIf mc ms mt) := psI (ps_if hc ha hb) fun D σV H ⟨ρ, h, σ, r, wf, e, g⟩ => by
  subst e
  have w0 : WfS ρ.length σ := by rw [r.len]; exact wf
  refine ⟨ρ, h, σ, r, wf, rfl, (GdS.stm r w0 g (Nat.le_refl _)).imp fun ρ1 h1 k H1 l1 r1 _ g1 => ?_⟩
  have w1 : WfS h1.length σ := (w0.mono l1.length_le).mono (Nat.le_of_eq r1.len)
  cases k with
  | true =>
    show lS _ _ ms D (cS X.K ρ σ) H1
    rw [← cS_pre l1 w0]
    exact lS.at r1 w1 g1
  | false =>
    show lS _ _ mt D (cS X.K ρ σ) H1
    rw [← cS_pre l1 w0]
    exact lS.at r1 w1 g1
end

/-! ### targets -/
abbrev MGx := W → MSt → Mh → Option (MSt × Mh)
def lG (K : Frag) (g : MGx) : TG := fun v σV H Q => ∃ ρ h σ w, Rep K ρ h H ∧ WfS h.length σ ∧ wfV h.length w ∧ σV = cS K ρ σ ∧ v = cV K ρ w ∧
  match g w σ h with
  | some (σ', h') => ∀ ρ' H', ρ <+: ρ' → Rep K ρ' h' H' → WfS h'.length σ' → Q (cS K ρ' σ') H'
  | none => False
abbrev MG (X : Cx) (tg : Expr) (g : MGx) : Prop := PG X tg (lG X.K g)
section
variable {X : Cx} {Wx : WX} {tg : Expr} {pos : Pos} {t t' : TG} {m : MEx} {e : Expr} {g : MGx}
theorem pgI (h : PG X tg t) (f : ∀ v σ H Q, t' v σ H Q → t v σ H Q) : PG X tg t' := ⟨fun pins s σ H v u Q I r q => h.run pins s σ H v u Q I r (f v σ H Q q)⟩
def gN (i : Nat) : MGx := fun w σ h => some (σ.set i (some w), h)
theorem WfS.set {n i : Nat} {σ : MSt} {w : W} (a : WfS n σ) (b : wfV n w) : WfS n (σ.set i (some w)) := fun v hv => by
  rcases List.mem_or_eq_of_mem_set hv with q | q
  · exact a v q
  · cases q; exact b
theorem cS_set {K : Frag} {ρ : List Addr} {σ : MSt} {i : Nat} {w : W} : cS K ρ (σ.set i (some w)) = (cS K ρ σ).set i (some (cV K ρ w)) := by
  unfold cS; rw [List.map_set] <;> rfl
theorem mg_name {i : Nat} {x : Str} (hN : X.N.Nodup) (hi : X.N[i]? = some x) (hl : Loc X.env.scope x) (hf : X.fn x = true ∨ X.env.scope.names.lookup x = some .local := by first | exact .inl rfl | exact .inr rfl | assumption) : MG X (.Name x pos) (gN i) := pgI (pg_name hN hi hl hf) fun v σV H Q ⟨ρ, h, σ, w, r, wf, ww, e, ev, g⟩ => by
  subst e ev
  show Q ((cS X.K ρ σ).set i (some (cV X.K ρ w))) H
  rw [← cS_set]
  exact g ρ H pre_rfl r (wf.set ww)
def sAsg (m : MEx) (g : MGx) : MSx := fun σ h => (m σ h).stm σ fun w h1 => match g w σ h1 with
  | some (σ', h') => some (.nx σ', h')
  | none => none
theorem lS_asg {K : Frag} {D : Ends} {σV : L2.St} {H : Hp} (g0 : lS K Wx (sAsg m g) D σV H) : tAsg (lE K Wx m) (lG K g) D σV H := by
  obtain ⟨ρ, h, σ, r, wf, e, g0⟩ := g0
  subst e
  have w0 : WfS ρ.length σ := by rw [r.len]; exact wf
  refine ⟨ρ, h, σ, r, wf, rfl, (GdS.stm r w0 g0 (Nat.le_refl _)).imp fun ρ1 h1 w H1 l1 r1 ww g1 => ?_⟩
  refine ⟨ρ1, h1, σ, w, r1, (w0.mono l1.length_le).mono (Nat.le_of_eq r1.len), ww, (cS_pre l1 w0).symm, rfl, ?_⟩
  cases q : g w σ h1 with
  | none => rw [q] at g1; exact g1
  | some p => rw [q] at g1; exact fun ρ' H' l' r' w' => g1 ρ' H' l' r' w'
theorem lS_set {K : Frag} {D : Ends} {σV : L2.St} {H : Hp} {i : Nat} (g0 : lS K Wx (sAsg m (gN i)) D σV H) : tAsg (lE K Wx m) (gName i) D σV H := by
  obtain ⟨ρ, h, σ, r, wf, e, g0⟩ := g0
  subst e
  have w0 : WfS ρ.length σ := by rw [r.len]; exact wf
  refine ⟨ρ, h, σ, r, wf, rfl, (GdS.stm r w0 g0 (Nat.le_refl _)).imp fun ρ1 h1 w H1 l1 r1 ww g1 => ?_⟩
  have w1 : WfS h1.length σ := (w0.mono l1.length_le).mono (Nat.le_of_eq r1.len)
  show D.nx ((cS K ρ σ).set i (some (cV K ρ1 w))) H1
  rw [← cS_pre l1 w0, ← cS_set]
  exact g1 ρ1 H1 pre_rfl r1 (w1.set ww)
theorem ms_set {i : Nat} {x : Str} {pos' : Pos} (hN : X.N.Nodup) (he : ME X Wx e m) (hi : X.N[i]? = some x := by rfl) (hx : Loc X.env.scope x := by first | exact Or.inl rfl | exact Or.inr rfl)
    (hs : swapsWith e (some (.Name x pos')) pos.line X.env = pure false := by rfl) (hf : X.fn x = true ∨ X.env.scope.names.lookup x = some .local := by first | exact .inl rfl | exact .inr rfl | assumption) :
    MS X Wx (.Assign [.Name x pos'] e pos) (sAsg m (gN i)) := psI (ps_set hN hi hx he hs hf) fun _ _ _ g => lS_set g
theorem ms_asg (he : ME X Wx e m) (hg : MG X tg g) (hs : swapsWithSole [tg] e pos.line X.env = pure false := by rfl) (hw : swappedStores [tg] e X.env = pure none := by rfl)
    (h1 : (assignEach [tg] X.env).map (·.2) = [assign tg X.env] := by rfl) : MS X Wx (.Assign [tg] e pos) (sAsg m g) := psI (ps_asg he hg hs hw h1) fun _ _ _ g => lS_asg g
end
end Mc

namespace Mc
open PySem PySem.Spec PyProof.Rows L2

section
variable {K : Frag} {Wx : WX} {ρ ρ1 ρ2 : List Addr} {h h1 h2 : Mh} {H H1 H2 : Hp} {σ : MSt} {w : W}
theorem Rep.wfS (r : Rep K ρ h H) (a : WfS h.length σ) : WfS ρ.length σ := by rw [r.len]; exact a
theorem Rep.up (r1 : Rep K ρ1 h1 H1) (r2 : Rep K ρ2 h2 H2) (l : ρ1 <+: ρ2) : h1.length ≤ h2.length := by rw [← r1.len, ← r2.len]; exact l.length_le
theorem Rep.cv (r1 : Rep K ρ1 h1 H1) (l : ρ1 <+: ρ2) (a : wfV h1.length w) : cV K ρ2 w = cV K ρ1 w := cV_pre l (by rw [r1.len]; exact a)
end
/-! ### values as tests; and, or, not -/
def kB (w : W) (h : Mh) : R Bool := match w with
  | .bl b => .ok b h
  | _ => .no
def tV (m : MEx) : MTx := fun σ h => (m σ h).bind kB
def tNt (m : MTx) : MTx := fun σ h => (m σ h).bind fun b h' => .ok (!b) h'
def tAn (a b : MTx) : MTx := fun σ h => (a σ h).bind fun k h' => if k then b σ h' else .ok false h'
def tO (a b : MTx) : MTx := fun σ h => (a σ h).bind fun k h' => if k then .ok true h' else b σ h'
def mAn (a b : MEx) : MEx := fun σ h => (a σ h).bind fun x h' => (kB x h').bind fun k h' => if k then b σ h' else .ok (.bl false) h'
def mOr (a b : MEx) : MEx := fun σ h => (a σ h).bind fun x h' => (kB x h').bind fun k h' => if k then .ok (.bl true) h' else b σ h'
def mNt (a : MEx) : MEx := fun σ h => (a σ h).bind fun x h' => (kB x h').bind fun k h' => .ok (.bl (!k)) h'
def mIf (c : MTx) (a b : MEx) : MEx := fun σ h => (c σ h).bind fun k h' => if k then a σ h' else b σ h'
section
variable {X : Cx} {Wx : WX} {m ma mb mc : MEx} {ta tb : MTx} {a b c e : Expr} {rest : List Expr} {pos : Pos}
theorem kB_ok {K : Frag} {E : XK} {ρ : List Addr} {α : Type} {wf : Nat → α → Prop} {w : W} {h : Mh} {k : Bool → Mh → R α} {Q : List Addr → Mh → α → Hp → Prop} (g : Gd K E ρ wf ((kB w h).bind k) Q) : ∃ b, w = .bl b ∧ Gd K E ρ wf (k b h) Q := by
  cases w <;> first | exact g.elim | exact ⟨_, rfl, g⟩
theorem mt_val (he : ME X Wx e m) (hq : ∀ whole, isTrue e X.env whole = (do let v ← whole; standAt e.pos; holding [v] (truthy v)) := by intro _; rfl) : MT X Wx e (tV m) := ptI (pt_val he hq) fun σV H Q ⟨ρ, h, σ, r, wf, e, g⟩ => by
  subst e
  refine ⟨ρ, h, σ, r, wf, rfl, g.bind.imp fun ρ1 h1 w H1 l1 r1 ww g1 => ?_⟩
  cases w with
  | bl b => exact ⟨b, rfl, g1 ρ1 H1 pre_rfl r1 trivial⟩
  | _ => exact g1.elim
theorem mt_not (ha : MT X Wx a ta) : MT X Wx (.UnaryOp .Not a pos) (tNt ta) := ptI (pt_not ha) fun σV H Q ⟨ρ, h, σ, r, wf, e, g⟩ =>
  ⟨ρ, h, σ, r, wf, e, g.bind.imp fun ρ1 h1 w H1 l1 r1 ww g1 => g1 ρ1 H1 pre_rfl r1 trivial⟩
abbrev MW (X : Cx) (Wx : WX) (e : Expr) (m : MTx) : Prop := PW X e (lT X.K Wx m)
theorem mw_and1 (ha : MT X Wx a ta) : MW X Wx (.BoolOp .And [a] pos) ta := pw_and1 ha
theorem mw_or1 (ha : MT X Wx a ta) : MW X Wx (.BoolOp .Or [a] pos) ta := pw_or1 ha
theorem mw_and (ha : MT X Wx a ta) (hb : MW X Wx (.BoolOp .And (b :: rest) pos) tb) : MW X Wx (.BoolOp .And (a :: b :: rest) pos) (tAn ta tb) := pwI (pw_and ha hb) fun σV H Q ⟨ρ, h, σ, r, wf, e, g⟩ => by
  subst e
  refine ⟨ρ, h, σ, r, wf, rfl, g.bind.imp fun ρ1 h1 k H1 l1 r1 ww g1 => ?_⟩
  cases k with
  | true => exact lT.at l1 (r.wfS wf) r1 g1
  | false => exact g1 ρ1 H1 pre_rfl r1 trivial
theorem mw_or (ha : MT X Wx a ta) (hb : MW X Wx (.BoolOp .Or (b :: rest) pos) tb) : MW X Wx (.BoolOp .Or (a :: b :: rest) pos) (tO ta tb) := pwI (pw_or ha hb) fun σV H Q ⟨ρ, h, σ, r, wf, e, g⟩ => by
  subst e
  refine ⟨ρ, h, σ, r, wf, rfl, g.bind.imp fun ρ1 h1 k H1 l1 r1 ww g1 => ?_⟩
  cases k with
  | false => exact lT.at l1 (r.wfS wf) r1 g1
  | true => exact g1 ρ1 H1 pre_rfl r1 trivial
theorem mt_w (h : MW X Wx e ta) : MT X Wx e ta := PW.pt h
theorem me_one {op} (h : ME X Wx a ma) : ME X Wx (.BoolOp op [a] pos) ma := pe_one h
theorem me_and (ha : ME X Wx a ma) (hb : ME X Wx (.BoolOp .And (b :: rest) pos) mb) : ME X Wx (.BoolOp .And (a :: b :: rest) pos) (mAn ma mb) := peI (pe_and ha hb) fun σV H Q ⟨ρ, h, σ, r, wf, e, g⟩ => by
  subst e
  refine ⟨ρ, h, σ, r, wf, rfl, g.bind.imp fun ρ1 h1 x H1 l1 r1 ww g1 => ?_⟩
  obtain ⟨k, rfl, g1⟩ := kB_ok g1
  refine ⟨k, rfl, ?_⟩
  cases k with
  | true => exact lE.at l1 (r.wfS wf) r1 g1
  | false => exact g1 ρ1 H1 pre_rfl r1 trivial
theorem me_or (ha : ME X Wx a ma) (hb : ME X Wx (.BoolOp .Or (b :: rest) pos) mb) : ME X Wx (.BoolOp .Or (a :: b :: rest) pos) (mOr ma mb) := peI (pe_or ha hb) fun σV H Q ⟨ρ, h, σ, r, wf, e, g⟩ => by
  subst e
  refine ⟨ρ, h, σ, r, wf, rfl, g.bind.imp fun ρ1 h1 x H1 l1 r1 ww g1 => ?_⟩
  obtain ⟨k, rfl, g1⟩ := kB_ok g1
  refine ⟨k, rfl, ?_⟩
  cases k with
  | false => exact lE.at l1 (r.wfS wf) r1 g1
  | true => exact g1 ρ1 H1 pre_rfl r1 trivial
theorem me_not (ha : ME X Wx a ma) : ME X Wx (.UnaryOp .Not a pos) (mNt ma) := peI (pe_not ha) fun σV H Q ⟨ρ, h, σ, r, wf, e, g⟩ => by
  subst e
  refine ⟨ρ, h, σ, r, wf, rfl, g.bind.imp fun ρ1 h1 x H1 l1 r1 ww g1 => ?_⟩
  obtain ⟨k, rfl, g1⟩ := kB_ok g1
  exact ⟨k, rfl, g1 ρ1 H1 pre_rfl r1 trivial⟩
theorem me_ifExp (hc : MT X Wx c ta) (ha : ME X Wx a ma) (hb : ME X Wx b mb) : ME X Wx (.IfExp c a b pos) (mIf ta ma mb) := peI (pe_ifExp hc ha hb) fun σV H Q ⟨ρ, h, σ, r, wf, e, g⟩ => by
  subst e
  refine ⟨ρ, h, σ, r, wf, rfl, g.bind.imp fun ρ1 h1 k H1 l1 r1 ww g1 => ?_⟩
  cases k with
  | true => exact lE.at l1 (r.wfS wf) r1 g1
  | false => exact lE.at l1 (r.wfS wf) r1 g1
end

/-! ### chains of comparisons -/
/-- the links behind the first value: operator and operand -/
def ch : List ((W → W → Mh → R W) × MEx) → W → MSt → Mh → R W
  | [], _, _, _ => .no
  | [(k, m)], x, σ, h => (m σ h).bind fun y h' => k x y h'
  | (k, m) :: l, x, σ, h => (m σ h).bind fun y h1 => (k x y h1).bind fun z h2 => (kB z h2).bind fun b h3 => if b then ch l y σ h3 else .ok (.bl false) h3
def mCh (m : MEx) (l : List ((W → W → Mh → R W) × MEx)) : MEx := fun σ h => (m σ h).bind fun x h' => ch l x σ h'
def chT : List ((W → W → Mh → R W) × MEx) → W → MSt → Mh → R Bool
  | [], _, _, _ => .no
  | [(k, m)], x, σ, h => (m σ h).bind fun y h' => (k x y h').bind kB
  | (k, m) :: l, x, σ, h => (m σ h).bind fun y h1 => (k x y h1).bind fun z h2 => (kB z h2).bind fun b h3 => if b then chT l y σ h3 else .ok false h3
def tCh (m : MEx) (l : List ((W → W → Mh → R W) × MEx)) : MTx := fun σ h => (m σ h).bind fun x h' => chT l x σ h'
inductive Links (X : Cx) (Wx : WX) : List CmpOp → List Expr → List ((W → W → Mh → R W) × MEx) → Prop
  | nil : Links X Wx [] [] []
  | cons {op : CmpOp} {ops : List CmpOp} {e : Expr} {es : List Expr} {r : R2} {k : W → W → Mh → R W} {m : MEx} {l : List ((W → W → Mh → R W) × MEx)} (ho : OpR X (compareOp op) r) (hk : OpM X.K r k) (he : ME X Wx e m) (hl : Links X Wx ops es l) :
      Links X Wx (op :: ops) (e :: es) ((k, m) :: l)

section
variable {X : Cx} {Wx : WX} {e : Expr} {m : MEx} {pos : Pos}
theorem OpM.at {K : Frag} {r : R2} {k : W → W → Mh → R W} (hk : OpM K r k) {E : XK} {ρ ρ0 : List Addr} {h h0 : Mh} {H H0 : Hp} {x y : W} {Q : List Addr → Mh → W → Hp → Prop} (r0 : Rep K ρ0 h0 H0) (l : ρ0 <+: ρ) (wx : wfV h0.length x) (rp : Rep K ρ h H) (wy : wfV h.length y)
    (g : Gd K E ρ wfV (k x y h) Q) : r (cV K ρ0 x) (cV K ρ y) H fun v H' => ∃ ρ' h' w, ρ <+: ρ' ∧ Rep K ρ' h' H' ∧ wfV h'.length w ∧ v = cV K ρ' w ∧ Q ρ' h' w H' := by
  rw [← r0.cv l wx]
  exact hk E ρ h H x y _ rp (wx.mono (r0.up rp l)) wy (g.imp fun ρ' h' w H' l' r' w' q => ⟨ρ', h', w, l', r', w', rfl, q⟩)
/-- an expression is run -/
theorem me_run {σ : MSt} {pins : List (Addr × Obj)} {s : Shared} {ρ : List Addr} {h : Mh} {H : Hp} {Q : List Addr → Mh → W → Hp → Prop} (he : ME X Wx e m) (I : Inv X pins (cS X.K ρ σ) H s) (rp : Rep X.K ρ h H) (wf : WfS h.length σ)
    (g : Gd X.K (fun c d H' => Wx c d (cS X.K ρ σ) H') ρ wfV (m σ h) Q) : wpAny (model X.prog X.w) X.A (eval e X.env) (fun u s1 => ∃ ρ1 h1 w H1, ρ <+: ρ1 ∧ Rep X.K ρ1 h1 H1 ∧ wfV h1.length w ∧ Inv X pins (cS X.K ρ σ) H1 s1 ∧ RelV (cV X.K ρ1 w) u ∧ Q ρ1 h1 w H1) X.xe s := by
  refine thn (he.run pins s _ H (fun v H' => ∃ ρ1 h1 w, ρ <+: ρ1 ∧ Rep X.K ρ1 h1 H' ∧ wfV h1.length w ∧ v = cV X.K ρ1 w ∧ Q ρ1 h1 w H') I ⟨ρ, h, σ, rp, wf, rfl, g.imp fun ρ1 h1 w H1 l r1 w1 q => ⟨ρ1, h1, w, l, r1, w1, rfl, q⟩⟩) fun u s1 hq => ?_
  obtain ⟨v, H1, I1, rv, ρ1, h1, w, l, r1, w1, rfl, q⟩ := hq
  exact ⟨ρ1, h1, w, H1, l, r1, w1, I1, rv, q⟩
/-- an operator on values is run -/
theorem op_run {op : Value → Value → Sem Value} {r : R2} {k : W → W → Mh → R W} (ho : OpR X op r) (hk : OpM X.K r k) {σV : L2.St} {E : XK} {pins : List (Addr × Obj)} {s : Shared} {ρ ρ0 : List Addr} {h h0 : Mh} {H H0 : Hp} {x y : W} {v u : Value} {Q : List Addr → Mh → W → Hp → Prop}
    (I : Inv X pins σV H s) (r0 : Rep X.K ρ0 h0 H0) (l : ρ0 <+: ρ) (wx : wfV h0.length x) (rp : Rep X.K ρ h H) (wy : wfV h.length y) (rx : RelV (cV X.K ρ0 x) v) (ry : RelV (cV X.K ρ y) u) (g : Gd X.K E ρ wfV (k x y h) Q) :
    wpAny (model X.prog X.w) X.A (op v u) (fun z s1 => ∃ ρ1 h1 w H1, ρ <+: ρ1 ∧ Rep X.K ρ1 h1 H1 ∧ wfV h1.length w ∧ Inv X pins σV H1 s1 ∧ RelV (cV X.K ρ1 w) z ∧ Q ρ1 h1 w H1) X.xe s := by
  refine thn (ho pins s σV H _ _ v u _ I rx ry (hk.at r0 l wx rp wy g)) fun z s1 hq => ?_
  obtain ⟨v, H1, I1, rv, ρ1, h1, w, l, r1, w1, rfl, q⟩ := hq
  exact ⟨ρ1, h1, w, H1, l, r1, w1, I1, rv, q⟩
theorem chain_run {σ : MSt} {σV : L2.St} {Q : List Addr → Mh → W → Hp → Prop} : ∀ {ops : List CmpOp} {es : List Expr} {l : List ((W → W → Mh → R W) × MEx)}, Links X Wx ops es l → ∀ {x : W} {v : Value} {pins : List (Addr × Obj)} {s : Shared} {ρ ρ0 : List Addr} {h h0 : Mh} {H H0 : Hp},
    σV = cS X.K ρ σ → Inv X pins σV H s → Rep X.K ρ0 h0 H0 → ρ0 <+: ρ → wfV h0.length x → Rep X.K ρ h H → WfS h.length σ → RelV (cV X.K ρ0 x) v → Gd X.K (fun c d H' => Wx c d σV H') ρ wfV (ch l x σ h) Q →
    wpAny (model X.prog X.w) X.A (compareChain pos v ops (evalEach es X.env)) (fun z s1 => ∃ ρ1 h1 w H1, ρ <+: ρ1 ∧ Rep X.K ρ1 h1 H1 ∧ wfV h1.length w ∧ Inv X pins σV H1 s1 ∧ RelV (cV X.K ρ1 w) z ∧ Q ρ1 h1 w H1) X.xe s
  | _, _, _, .nil, x, v, pins, s, ρ, ρ0, h, h0, H, H0, hs, I, r0, l0, wx, rp, wf, rv, g => g.elim
  | _, _, _, .cons (k := k) (m := m) ho hk he .nil, x, v, pins, s, ρ, ρ0, h, h0, H, H0, hs, I, r0, l0, wx, rp, wf, rv, g => by
    subst hs
    refine chain_last (thn (me_run he I rp wf (Gd.bind g)) fun u s1 hq => ?_)
    obtain ⟨ρ1, h1, y, H1, l1, r1, wy, I1, ry, g1⟩ := hq
    refine thn (op_run ho hk I1 r0 (l0.trans l1) wx r1 wy rv ry g1) fun z s2 hq => ?_
    obtain ⟨ρ2, h2, w, H2, l2, q⟩ := hq
    exact ⟨ρ2, h2, w, H2, l1.trans l2, q⟩
  | _, _, _, .cons (k := k) (m := m) ho hk he (.cons (k := k2) (m := m2) ho2 hk2 he2 hl), x, v, pins, s, ρ, ρ0, h, h0, H, H0, hs, I, r0, l0, wx, rp, wf, rv, g => by
    subst hs
    refine chain_link (thn (me_run he I rp wf (Gd.bind g)) fun u s1 hq => ?_)
    obtain ⟨ρ1, h1, y, H1, l1, r1, wy, I1, ry, g1⟩ := hq
    refine thn (op_run ho hk I1 r0 (l0.trans l1) wx r1 wy rv ry (Gd.bind g1)) fun z s2 hq => ?_
    obtain ⟨ρ2, h2, w, H2, l2, r2, ww, I2, rw2, g2⟩ := hq
    obtain ⟨b, rfl, g2⟩ := kB_ok g2
    cases rw2
    refine wpAny_truthy_bool ?_
    cases b with
    | false => exact ite_ff ⟨ρ2, h2, .bl false, H2, l1.trans l2, r2, trivial, I2, rfl, g2 ρ2 H2 pre_rfl r2 trivial⟩
    | true =>
      have es : cS X.K ρ σ = cS X.K ρ2 σ := (cS_pre (l1.trans l2) (rp.wfS wf)).symm
      refine ite_tt (thn (chain_run (.cons ho2 hk2 he2 hl) es I2 r1 l2 wy r2 (wf.mono (rp.up r2 (l1.trans l2))) ry g2) fun z s3 hq => ?_)
      obtain ⟨ρ3, h3, w, H3, l3, q⟩ := hq
      exact ⟨ρ3, h3, w, H3, (l1.trans l2).trans l3, q⟩
theorem test_run {σ : MSt} {σV : L2.St} {Q : List Addr → Mh → Bool → Hp → Prop} : ∀ {ops : List CmpOp} {es : List Expr} {l : List ((W → W → Mh → R W) × MEx)}, Links X Wx ops es l → ∀ {x : W} {v : Value} {pins : List (Addr × Obj)} {s : Shared} {ρ ρ0 : List Addr} {h h0 : Mh} {H H0 : Hp},
    σV = cS X.K ρ σ → Inv X pins σV H s → Rep X.K ρ0 h0 H0 → ρ0 <+: ρ → wfV h0.length x → Rep X.K ρ h H → WfS h.length σ → RelV (cV X.K ρ0 x) v → Gd X.K (fun c d H' => Wx c d σV H') ρ wfB (chT l x σ h) Q →
    wpAny (model X.prog X.w) X.A (testChain pos v ops (evalEach es X.env)) (fun z s1 => ∃ ρ1 h1 H1, ρ <+: ρ1 ∧ Rep X.K ρ1 h1 H1 ∧ Inv X pins σV H1 s1 ∧ Q ρ1 h1 z H1) X.xe s
  | _, _, _, .nil, x, v, pins, s, ρ, ρ0, h, h0, H, H0, hs, I, r0, l0, wx, rp, wf, rv, g => g.elim
  | _, _, _, .cons (k := k) (m := m) ho hk he .nil, x, v, pins, s, ρ, ρ0, h, h0, H, H0, hs, I, r0, l0, wx, rp, wf, rv, g => by
    subst hs
    refine test_last (thn (me_run he I rp wf (Gd.bind g)) fun u s1 hq => ?_)
    obtain ⟨ρ1, h1, y, H1, l1, r1, wy, I1, ry, g1⟩ := hq
    refine thn (op_run ho hk I1 r0 (l0.trans l1) wx r1 wy rv ry (Gd.bind g1)) fun z s2 hq => ?_
    obtain ⟨ρ2, h2, w, H2, l2, r2, ww, I2, rw2, g2⟩ := hq
    cases w with
    | bl b =>
      cases rw2
      exact wpAny_truthy_bool ⟨ρ2, h2, H2, l1.trans l2, r2, I2, g2 ρ2 H2 pre_rfl r2 trivial⟩
    | _ => exact g2.elim
  | _, _, _, .cons (k := k) (m := m) ho hk he (.cons (k := k2) (m := m2) ho2 hk2 he2 hl), x, v, pins, s, ρ, ρ0, h, h0, H, H0, hs, I, r0, l0, wx, rp, wf, rv, g => by
    subst hs
    refine test_link (thn (me_run he I rp wf (Gd.bind g)) fun u s1 hq => ?_)
    obtain ⟨ρ1, h1, y, H1, l1, r1, wy, I1, ry, g1⟩ := hq
    refine thn (op_run ho hk I1 r0 (l0.trans l1) wx r1 wy rv ry (Gd.bind g1)) fun z s2 hq => ?_
    obtain ⟨ρ2, h2, w, H2, l2, r2, ww, I2, rw2, g2⟩ := hq
    obtain ⟨b, rfl, g2⟩ := kB_ok g2
    cases rw2
    refine wpAny_truthy_bool ?_
    cases b with
    | false => exact ite_ff ⟨ρ2, h2, H2, l1.trans l2, r2, I2, g2 ρ2 H2 pre_rfl r2 trivial⟩
    | true =>
      have es : cS X.K ρ σ = cS X.K ρ2 σ := (cS_pre (l1.trans l2) (rp.wfS wf)).symm
      refine ite_tt (thn (test_run (.cons ho2 hk2 he2 hl) es I2 r1 l2 wy r2 (wf.mono (rp.up r2 (l1.trans l2))) ry g2) fun z s3 hq => ?_)
      obtain ⟨ρ3, h3, H3, l3, q⟩ := hq
      exact ⟨ρ3, h3, H3, (l1.trans l2).trans l3, q⟩
theorem me_chain {a b c : Expr} {op op' : CmpOp} {ops : List CmpOp} {es : List Expr} {l : List ((W → W → Mh → R W) × MEx)} (ha : ME X Wx a m) (hl : Links X Wx (op :: op' :: ops) (b :: c :: es) l)
    (hm : lastMarks (op :: op' :: ops) (b :: c :: es) = false := by with_unfolding_all rfl) : ME X Wx (.Compare a (op :: op' :: ops) (b :: c :: es) pos) (mCh m l) := by
  refine ⟨fun pins s σV H Q I ⟨ρ, h, σ, rp, wf, hs, g⟩ => ?_⟩
  subst hs
  refine Compare_chain (thn (me_run ha I rp wf (Gd.bind g)) fun v s1 hq => ?_) hm
  obtain ⟨ρ1, h1, x, H1, l1, r1, wx, I1, rx, g1⟩ := hq
  refine thn (chain_run hl (cS_pre l1 (rp.wfS wf)).symm I1 r1 pre_rfl wx r1 (wf.mono (rp.up r1 l1)) rx g1) fun z s2 hq => ?_
  obtain ⟨ρ2, h2, w, H2, l2, r2, ww, I2, rw2, q⟩ := hq
  exact ⟨_, H2, I2, rw2, q⟩
theorem mt_chain {a b c : Expr} {op op' : CmpOp} {ops : List CmpOp} {es : List Expr} {l : List ((W → W → Mh → R W) × MEx)} (ha : ME X Wx a m) (hl : Links X Wx (op :: op' :: ops) (b :: c :: es) l)
    (hm : lastMarks (op :: op' :: ops) (b :: c :: es) = false := by with_unfolding_all rfl) : MT X Wx (.Compare a (op :: op' :: ops) (b :: c :: es) pos) (tCh m l) := by
  refine ⟨fun pins s σV H Q I ⟨ρ, h, σ, rp, wf, hs, g⟩ => ?_⟩
  subst hs
  refine isTrue_chain (thn (me_run ha I rp wf (Gd.bind g)) fun v s1 hq => ?_) hm
  obtain ⟨ρ1, h1, x, H1, l1, r1, wx, I1, rx, g1⟩ := hq
  refine thn (test_run hl (cS_pre l1 (rp.wfS wf)).symm I1 r1 pre_rfl wx r1 (wf.mono (rp.up r1 l1)) rx g1) fun z s2 hq => ?_
  obtain ⟨ρ2, h2, H2, l2, r2, I2, q⟩ := hq
  exact ⟨H2, I2, q⟩
theorem mt_cmp {a b : Expr} {ma mb : MEx} {op : CmpOp} {r : R2} {k : W → W → Mh → R W} (ho : OpR X (compareOp op) r) (hk : OpM X.K r k) (ha : ME X Wx a ma) (hb : ME X Wx b mb) (hm : behindInMarks op b = false) : MT X Wx (.Compare a [op] [b] pos) (tV (m2 k ma mb)) := by
  refine ptI (pt_cmpR ho ha hb hm) fun σV H Q ⟨ρ, h, σ, r, wf, e, g⟩ => ?_
  refine lE_op hk ⟨ρ, h, σ, r, wf, e, (Gd.bind g).imp fun ρ1 h1 w H1 l1 r1 ww g1 => ?_⟩
  cases w with
  | bl b => exact ⟨b, rfl, g1 ρ1 H1 pre_rfl r1 trivial⟩
  | _ => exact g1.elim
end
end Mc

namespace Mc
open PySem PySem.Spec PyProof.Rows L2

def lim : Nat := 1000000
theorem lim_sz {n : Nat} (h : n ≤ lim) : n ≤ sizeLine := Nat.le_trans h (by decide)
theorem lim_lt {n : Nat} (h : n ≤ lim) : n < sizeLine := Nat.lt_of_le_of_lt h (by decide)
def al (o : MO) (h : Mh) : R W := .ok (.ref h.length) (h ++ [o])
def seqL (h : Mh) : W → Option (List W)
  | .ref i => match h[i]? with
    | some (.lst xs) => some xs
    | some (.frl xs) => some xs
    | _ => none
  | _ => none
def seqT (h : Mh) : W → Option (List W)
  | .ref i => match h[i]? with
    | some (.tup xs) => some xs
    | some (.ktp xs) => some xs
    | _ => none
  | _ => none
section
variable {K : Frag} {E : XK} {ρ ρ' : List Addr} {h h' : Mh} {H : Hp} {o o' : MO} {Q : VK} {w x y : W} {xs ys : List W} {i : Nat} {p : Addr}
theorem gd_ok (r : Rep K ρ h H) (g : Gd K E ρ wfV (.ok w h) fun ρ' _ w H' => Q (cV K ρ' w) H') (ww : wfV h.length w) : Q (cV K ρ w) H := g ρ H pre_rfl r ww
theorem gd_al (r : Rep K ρ h H) (t : o.trk = true) (wo : WfO h.length o) (g : Gd K E ρ wfV (al o h) fun ρ' _ w H' => Q (cV K ρ' w) H') (hp : H p = none) : Q (.ref p) (upd H p (cO K ρ o)) := by
  have q := g (ρ ++ [p]) (upd H p (cO K ρ o)) ⟨_, rfl⟩ (r.alloc hp t wo) (by show h.length < (h ++ [o]).length; simp)
  have e : cV K (ρ ++ [p]) (.ref h.length) = .ref p := by rw [← r.len]; exact congrArg V.ref getD_last
  exact e ▸ q
theorem seqL_ok (r : Rep K ρ h H) (e : seqL h w = some xs) : ∃ i, w = .ref i ∧ cV K ρ w = .ref (ρ.getD i 0) ∧ SqL K H (ρ.getD i 0) (cL K ρ xs) ∧ WfL h.length xs := by
  cases w with
  | ref i =>
    refine ⟨i, rfl, rfl, ?_⟩
    have e : (match h[i]? with
      | some (.lst xs) => some xs
      | some (.frl xs) => some xs
      | _ => none) = some xs := e
    cases q : h[i]? with
    | none => rw [q] at e; cases e
    | some o =>
      have wo : WfO h.length o := r.wf o (List.mem_of_getElem? q)
      have ob := r.obj i o q
      rw [q] at e
      cases o with
      | lst ys => cases e; exact ⟨.inl (.inl ob), wo⟩
      | frl ys =>
        cases e
        refine ⟨?_, wo⟩
        rcases ob with ⟨ob, z⟩ | z
        · exact .inl (.inr ⟨ob, z⟩)
        · exact z H
      | _ => cases e
  | _ => cases e
theorem seqT_ok (r : Rep K ρ h H) (e : seqT h w = some xs) : ∃ i, w = .ref i ∧ cV K ρ w = .ref (ρ.getD i 0) ∧ SqT K H (ρ.getD i 0) (cL K ρ xs) ∧ WfL h.length xs := by
  cases w with
  | ref i =>
    refine ⟨i, rfl, rfl, ?_⟩
    have e : (match h[i]? with
      | some (.tup xs) => some xs
      | some (.ktp xs) => some xs
      | _ => none) = some xs := e
    cases q : h[i]? with
    | none => rw [q] at e; cases e
    | some o =>
      have wo : WfO h.length o := r.wf o (List.mem_of_getElem? q)
      have ob := r.obj i o q
      rw [q] at e
      cases o with
      | tup ys => cases e; exact ⟨.inl (.inl ob), wo⟩
      | ktp ys => cases e; exact ⟨ob H, wo⟩
      | _ => cases e
  | _ => cases e
theorem Rep.lstAt (r : Rep K ρ h H) (e : h[i]? = some (.lst xs)) : H (ρ.getD i 0) = some (.lst (cL K ρ xs)) ∧ WfL h.length xs := ⟨r.obj i _ e, r.wf _ (List.mem_of_getElem? e)⟩
theorem WfL.app {n : Nat} (a : WfL n xs) (b : WfL n ys) : WfL n (xs ++ ys) := fun z hz => (List.mem_append.mp hz).elim (a z) (b z)
end

/-! ### operators -/
def iOp (g : Int → Int → W) (x y : W) (h : Mh) : R W := match x, y with
  | .int i, .int j => .ok (g i j) h
  | _, _ => .no
def iOpC (c : Int → Int → Bool) (g : Int → Int → W) (x y : W) (h : Mh) : R W := match x, y with
  | .int i, .int j => if c i j then .ok (g i j) h else .no
  | _, _ => .no
section
variable {K : Frag}
theorem om_I0 {g : Int → Int → W} {gV : Int → Int → V} (hg : ∀ ρ i j, cV K ρ (g i j) = gV i j) (hw : ∀ n i j, wfV n (g i j)) : OpM K (rI0 gV) (iOp g) := fun E ρ h H x y Q rp wx wy gd => by
  cases x with
  | int i =>
    cases y with
    | int j =>
      have q := gd_ok rp gd (hw _ i j)
      rw [hg] at q
      exact ⟨i, j, rfl, rfl, q⟩
    | _ => exact gd.elim
  | _ => exact gd.elim
theorem om_I {C : Int → Int → Prop} {c : Int → Int → Bool} {g : Int → Int → W} {gV : Int → Int → V} (hc : ∀ i j, c i j = true → C i j) (hg : ∀ ρ i j, cV K ρ (g i j) = gV i j) (hw : ∀ n i j, wfV n (g i j)) : OpM K (rI C gV) (iOpC c g) := fun E ρ h H x y Q rp wx wy gd => by
  cases x with
  | int i =>
    cases y with
    | int j =>
      have gd : Gd K E ρ wfV (if c i j then .ok (g i j) h else .no) _ := gd
      cases q : c i j with
      | false => rw [q] at gd; exact gd.elim
      | true =>
        rw [q] at gd
        have z := gd_ok rp gd (hw _ i j)
        rw [hg] at z
        exact ⟨i, j, rfl, rfl, hc i j q, z⟩
    | _ => exact gd.elim
  | _ => exact gd.elim
end
def kSub : W → W → Mh → R W := iOp fun i j => .int (i - j)
def kLt : W → W → Mh → R W := iOp fun i j => .bl (decide (i < j))
def kLe : W → W → Mh → R W := iOp fun i j => .bl (decide (i ≤ j))
def kGt : W → W → Mh → R W := iOp fun i j => .bl (decide (j < i))
def kGe : W → W → Mh → R W := iOp fun i j => .bl (decide (j ≤ i))
def kDiv : W → W → Mh → R W := iOpC (fun _ j => decide (0 < j) && decide (j < 1073741824)) fun i j => .int (i / j)
def kMod : W → W → Mh → R W := iOpC (fun _ j => decide (0 < j)) fun i j => .int (i % j)
def kPow : W → W → Mh → R W := iOpC (fun i j => decide (0 ≤ j) && decide (j ≤ 1000) && decide (i.natAbs < 1000)) fun i j => .int (i ^ j.toNat)
def smallI (i : Int) : Bool := decide (-18446744073709551616 < i) && decide (i < 18446744073709551616)
/-- x + y -/
def kAdd (x y : W) (h : Mh) : R W := match x, y with
  | .int i, .int j => .ok (.int (i + j)) h
  | .str a, .str b => if a.length + b.length ≤ lim then .ok (.str (a ++ b)) h else .no
  | .ref i, .ref j => match h[i]?, h[j]? with
    | some (.lst xs), some (.lst ys) => if xs.length + ys.length ≤ lim then al (.lst (xs ++ ys)) h else .no
    | some (.tup xs), some (.tup ys) => if xs.length + ys.length ≤ lim then (if xs.isEmpty then .ok (.ref j) h else if ys.isEmpty then .ok (.ref i) h else al (.tup (xs ++ ys)) h) else .no
    | _, _ => .no
  | _, _ => .no
/-- x * y -/
def kMul (x y : W) (h : Mh) : R W := match x, y with
  | .int i, .int j => if smallI i || smallI j then .ok (.int (i * j)) h else .no
  | .ref i, .int k => match h[i]? with
    | some (.lst xs) => if k ≤ 100000 ∧ -100000 ≤ k ∧ xs.length * k.toNat ≤ lim then al (.lst (List.replicate k.toNat xs).flatten) h else .no
    | some (.tup xs) => if xs ≠ [] ∧ 2 ≤ k ∧ k ≤ 1000 ∧ xs.length ≤ 1000 then al (.tup (List.replicate k.toNat xs).flatten) h else .no
    | _ => .no
  | _, _ => .no
section
variable {X : Cx} {K : Frag} {Wx : WX} {a b : Expr} {ma mb : MEx} {pos : Pos}
theorem om_sub : OpM K (rI0 fun i j => .int (i - j)) kSub := om_I0 (fun _ _ _ => rfl) fun _ _ _ => trivial
theorem om_lt : OpM K (rI0 fun i j => .bl (decide (i < j))) kLt := om_I0 (fun _ _ _ => rfl) fun _ _ _ => trivial
theorem om_le : OpM K (rI0 fun i j => .bl (decide (i ≤ j))) kLe := om_I0 (fun _ _ _ => rfl) fun _ _ _ => trivial
theorem om_gt : OpM K (rI0 fun i j => .bl (decide (j < i))) kGt := om_I0 (fun _ _ _ => rfl) fun _ _ _ => trivial
theorem om_ge : OpM K (rI0 fun i j => .bl (decide (j ≤ i))) kGe := om_I0 (fun _ _ _ => rfl) fun _ _ _ => trivial
theorem om_div : OpM K (rI CDiv fun i j => .int (i / j)) kDiv := om_I (fun i j q => by
  obtain ⟨q1, q2⟩ := Bool.and_eq_true_iff.mp q
  exact ⟨of_decide_eq_true q1, of_decide_eq_true q2⟩) (fun _ _ _ => rfl) fun _ _ _ => trivial
theorem om_mod : OpM K (rI (fun _ j => 0 < j) fun i j => .int (i % j)) kMod := om_I (fun i j q => of_decide_eq_true q) (fun _ _ _ => rfl) fun _ _ _ => trivial
theorem om_pow : OpM K (rI CPow fun i j => .int (i ^ j.toNat)) kPow := om_I (fun i j q => by
  obtain ⟨q, q3⟩ := Bool.and_eq_true_iff.mp q
  obtain ⟨q1, q2⟩ := Bool.and_eq_true_iff.mp q
  have q1 := of_decide_eq_true q1
  have q2 := of_decide_eq_true q2
  have q3 := of_decide_eq_true q3
  exact ⟨q1, by omega, Nat.lt_trans q3 (by decide)⟩) (fun _ _ _ => rfl) fun _ _ _ => trivial
theorem me_sub (ha : ME X Wx a ma) (hb : ME X Wx b mb) : ME X Wx (.BinOp a .Sub b pos) (m2 kSub ma mb) := me_op op_sub om_sub ha hb
theorem me_div (ha : ME X Wx a ma) (hb : ME X Wx b mb) : ME X Wx (.BinOp a .FloorDiv b pos) (m2 kDiv ma mb) := me_op op_fdiv om_div ha hb
theorem me_mod (ha : ME X Wx a ma) (hb : ME X Wx b mb) : ME X Wx (.BinOp a .Mod b pos) (m2 kMod ma mb) := me_op op_mod om_mod ha hb
theorem me_pow (ha : ME X Wx a ma) (hb : ME X Wx b mb) : ME X Wx (.BinOp a .Pow b pos) (m2 kPow ma mb) := me_op op_pow om_pow ha hb
def rAddA (K : Frag) : R2 := fun x y H Q => rI0 (fun i j => .int (i + j)) x y H Q ∨ (∃ i j, x = .str i ∧ y = .str j ∧ i.length + j.length ≤ sizeLine ∧ Q (.str (i ++ j)) H) ∨ rCat x y H Q ∨ rCatA K x y H Q
theorem op_addA : OpR X (binaryOp .Add) (rAddA X.K) := op_add.or (op_add_str.or (op_cat.or op_catA))
theorem om_add : OpM K (rAddA K) kAdd := fun E ρ h H x y Q rp wx wy gd => by
  unfold kAdd at gd
  split at gd
  · exact .inl ⟨_, _, rfl, rfl, gd_ok rp gd trivial⟩
  · split at gd
    · rename_i hz
      exact .inr (.inl ⟨_, _, rfl, rfl, lim_sz hz, gd_ok rp gd trivial⟩)
    · exact gd.elim
  · rename_i i j
    split at gd
    · rename_i xs ys e1 e2
      split at gd
      · rename_i hz
        obtain ⟨r1, w1⟩ := rp.lstAt e1
        obtain ⟨r2, w2⟩ := rp.lstAt e2
        refine .inr (.inr (.inl ⟨_, _, _, _, rfl, rfl, r1, r2, ?_, fun p hp => ?_⟩))
        · rw [List.length_map, List.length_map]; exact lim_sz hz
        · have q := gd_al (o := .lst (xs ++ ys)) rp rfl (w1.app w2) gd hp
          rw [show cO K ρ (.lst (xs ++ ys)) = .lst (cL K ρ xs ++ cL K ρ ys) from congrArg HO.lst List.map_append] at q
          exact q
      · exact gd.elim
    · rename_i xs ys e1 e2
      have t1 : seqT h (.ref i) = some xs := by simp only [seqT, e1]
      have t2 : seqT h (.ref j) = some ys := by simp only [seqT, e2]
      obtain ⟨_, ⟨⟩, _, s1, w1⟩ := seqT_ok rp t1
      obtain ⟨_, ⟨⟩, _, s2, w2⟩ := seqT_ok rp t2
      split at gd
      · rename_i hz
        have nil_of : ∀ {zs : List W}, cL K ρ zs = [] ↔ zs.isEmpty = true := fun {zs} => by cases zs <;> simp
        refine .inr (.inr (.inr ⟨_, _, _, _, rfl, rfl, s1, s2, by simp only [List.length_map]; exact lim_sz hz, fun e => ?_, fun n1 e => ?_, fun n1 n2 p hp => ?_⟩))
        · rw [if_pos (nil_of.mp e)] at gd; exact gd_ok rp gd wy
        · rw [if_neg (fun z => n1 (nil_of.mpr z)), if_pos (nil_of.mp e)] at gd; exact gd_ok rp gd wx
        · rw [if_neg (fun z => n1 (nil_of.mpr z)), if_neg (fun z => n2 (nil_of.mpr z))] at gd
          have q := gd_al (o := .tup (xs ++ ys)) rp rfl (w1.app w2) gd hp
          rw [show cO K ρ (.tup (xs ++ ys)) = .tup (cL K ρ xs ++ cL K ρ ys) from congrArg HO.tup List.map_append] at q
          exact q
      · exact gd.elim
    · exact gd.elim
  · exact gd.elim
theorem me_add (ha : ME X Wx a ma) (hb : ME X Wx b mb) : ME X Wx (.BinOp a .Add b pos) (m2 kAdd ma mb) := me_op op_addA om_add ha hb
def rMulA (K : Frag) : R2 := fun x y H Q => rI CMul (fun i j => .int (i * j)) x y H Q ∨ rRep x y H Q ∨ rRepT K x y H Q
theorem op_mulA : OpR X (binaryOp .Mult) (rMulA X.K) := op_mul.or (op_rep.or op_repT)
theorem small_ok {i : Int} (h : smallI i = true) : -(2 ^ 64) < i ∧ i < 2 ^ 64 := by
  obtain ⟨h1, h2⟩ := Bool.and_eq_true_iff.mp h
  exact ⟨by have := of_decide_eq_true h1; omega, by have := of_decide_eq_true h2; omega⟩
theorem WfL.rep {n : Nat} {xs : List W} (a : WfL n xs) (k : Nat) : WfL n (List.replicate k xs).flatten := fun z hz => by
  obtain ⟨l, hl, hz⟩ := List.mem_flatten.mp hz
  rw [List.eq_of_mem_replicate hl] at hz
  exact a z hz
theorem cL_rep {ρ : List Addr} {xs : List W} {k : Nat} : cL K ρ (List.replicate k xs).flatten = (List.replicate k (cL K ρ xs)).flatten := by
  unfold cL; rw [List.map_flatten, List.map_replicate]
theorem om_mul : OpM K (rMulA K) kMul := fun E ρ h H x y Q rp wx wy gd => by
  unfold kMul at gd
  split at gd
  · rename_i i j
    split at gd
    · rename_i hz
      refine .inl ⟨_, _, rfl, rfl, ?_, gd_ok rp gd trivial⟩
      rcases Bool.or_eq_true_iff.mp hz with z | z
      · exact .inl (small_ok z)
      · exact .inr (small_ok z)
    · exact gd.elim
  · rename_i i k
    split at gd
    · rename_i xs e1
      split at gd
      · rename_i hz
        obtain ⟨r1, w1⟩ := rp.lstAt e1
        refine .inr (.inl ⟨_, _, _, rfl, rfl, r1, by omega, by omega, ?_, fun p hp => ?_⟩)
        · rw [List.length_map]; exact lim_sz hz.2.2
        · have q := gd_al (o := .lst (List.replicate k.toNat xs).flatten) rp rfl (w1.rep _) gd hp
          rw [show cO K ρ (.lst (List.replicate k.toNat xs).flatten) = .lst (List.replicate k.toNat (cL K ρ xs)).flatten from congrArg HO.lst cL_rep] at q
          exact q
      · exact gd.elim
    · rename_i xs e1
      have t1 : seqT h (.ref i) = some xs := by simp only [seqT, e1]
      obtain ⟨_, ⟨⟩, _, s1, w1⟩ := seqT_ok rp t1
      split at gd
      · rename_i hz
        refine .inr (.inr ⟨_, _, _, rfl, rfl, s1, ?_, hz.2.1, hz.2.2.1, ?_, fun p hp => ?_⟩)
        · intro z; exact hz.1 (List.map_eq_nil_iff.mp z)
        · rw [List.length_map]; exact hz.2.2.2
        · have q := gd_al (o := .tup (List.replicate k.toNat xs).flatten) rp rfl (w1.rep _) gd hp
          rw [show cO K ρ (.tup (List.replicate k.toNat xs).flatten) = .tup (List.replicate k.toNat (cL K ρ xs)).flatten from congrArg HO.tup cL_rep] at q
          exact q
      · exact gd.elim
    · exact gd.elim
  · exact gd.elim
theorem me_mul (ha : ME X Wx a ma) (hb : ME X Wx b mb) : ME X Wx (.BinOp a .Mult b pos) (m2 kMul ma mb) := me_op op_mulA om_mul ha hb
def kNeg (x : W) (h : Mh) : R W := match x with
  | .int i => .ok (.int (-i)) h
  | _ => .no
theorem me_neg (ha : ME X Wx a ma) : ME X Wx (.UnaryOp .USub a pos) (m1 kNeg ma) := me_un (r := rU fun i => .int (-i)) un_neg (fun E ρ h H x Q rp wx gd => by
  cases x with
  | int i => exact ⟨i, rfl, gd_ok rp gd trivial⟩
  | _ => exact gd.elim) ha
/-! is None -/
def kIsN (x y : W) (h : Mh) : R W := match y with
  | .non => .ok (.bl (decide (x = .non))) h
  | _ => .no
def kNotN (x y : W) (h : Mh) : R W := match y with
  | .non => .ok (.bl (!decide (x = .non))) h
  | _ => .no
theorem cV_non {ρ : List Addr} {x : W} : decide (cV K ρ x = .non) = decide (x = .non) := by cases x <;> rfl
theorem om_isN : OpM K (fun x y H Q => y = .non ∧ Q (.bl (decide (x = .non))) H) kIsN := fun E ρ h H x y Q rp wx wy gd => by
  cases y with
  | non => exact ⟨rfl, by have := gd_ok rp gd trivial; rw [cV_non]; exact this⟩
  | _ => exact gd.elim
theorem om_notN : OpM K (fun x y H Q => y = .non ∧ Q (.bl (!decide (x = .non))) H) kNotN := fun E ρ h H x y Q rp wx wy gd => by
  cases y with
  | non => exact ⟨rfl, by have := gd_ok rp gd trivial; rw [cV_non]; exact this⟩
  | _ => exact gd.elim
end
end Mc

namespace Mc
open PySem PySem.Spec PyProof.Rows L2

/-! ### arguments, displays, calls of built-ins -/
def mNil : MAx := fun _ h => .ok [] h
def mCons (ma : MEx) (mr : MAx) : MAx := fun σ h => (ma σ h).bind fun x h1 => (mr σ h1).bind fun xs h2 => .ok (x :: xs) h2
def mArg (k : List W → Mh → R W) (m : MAx) : MEx := fun σ h => (m σ h).bind k
def CallM (K : Frag) (r : List V → Hp → VK → Prop) (k : List W → Mh → R W) : Prop := ∀ (E : XK) (ρ : List Addr) (h : Mh) (H : Hp) (ws : List W) (Q : VK), Rep K ρ h H → WfL h.length ws → Gd K E ρ wfV (k ws h) (fun ρ' _ w H' => Q (cV K ρ' w) H') → r (cL K ρ ws) H Q
section
variable {X : Cx} {Wx : WX} {K : Frag} {ma : MEx} {mr m : MAx} {e : Expr} {es : List Expr} {pos p : Pos} {x : Str} {id T : String} {r : List V → Hp → VK → Prop} {k : List W → Mh → R W}
theorem ma_nil : MA X Wx [] mNil := paI pa_nil fun σV H Q ⟨ρ, h, σ, rp, wf, e, g⟩ => g ρ H pre_rfl rp (fun z hz => by cases hz)
theorem ma_cons (ha : ME X Wx e ma) (hr : MA X Wx es mr) (hs : starEach (e :: es) X.env = (false, eval e X.env) :: starEach es X.env := by rfl) : MA X Wx (e :: es) (mCons ma mr) := paI (pa_cons ha hr hs) fun σV H Q ⟨ρ, h, σ, rp, wf, e, g⟩ => by
  subst e
  refine ⟨ρ, h, σ, rp, wf, rfl, g.bind.imp fun ρ1 h1 x H1 l1 r1 wx g1 => ?_⟩
  refine lA.at l1 (rp.wfS wf) r1 (g1.bind.imp fun ρ2 h2 xs H2 l2 r2 wxs g2 => ?_)
  have wx2 : wfV h2.length x := wx.mono (r1.up r2 l2)
  have q := g2 ρ2 H2 pre_rfl r2 (fun z hz => by
    rcases List.mem_cons.mp hz with e | e
    · rw [e]; exact wx2
    · exact wxs z e)
  show Q (cV X.K ρ1 x :: cL X.K ρ2 xs) H2
  rw [← r1.cv l2 wx]
  exact q
theorem lE_arg (hk : CallM K r k) {σV : L2.St} {H : Hp} {Q : VK} (g : lE K Wx (mArg k m) σV H Q) : tCB r (lA K Wx m) σV H Q := by
  obtain ⟨ρ, h, σ, rp, wf, rfl, g⟩ := g
  exact ⟨ρ, h, σ, rp, wf, rfl, g.bind.imp fun ρ1 h1 xs H1 l1 r1 wx g1 => hk _ ρ1 h1 H1 xs Q r1 wx g1⟩
theorem me_callB (hc : CallR X (.builtin id) r) (hk : CallM X.K r k) (hg : Gl X x) (hm : X.mg x = none) (hv : bootBuiltins x = some (.builtin id)) (ha : MA X Wx (e :: es) m) (hn : x ≠ "__name__" := by decide) (hdb : (x == ("__debug__" : Str)) = false := by decide)
    (he : starEach (e :: es) X.env = (false, eval e X.env) :: starEach es X.env := by rfl) (hpl : (backTo pos (starEach es X.env)).any (·.1) = false := by rfl) : ME X Wx (.Call (.Name x p) (e :: es) [] pos) (mArg k m) :=
  peI (pe_callB hc hg hm hv ha hn hdb he hpl) fun _ _ _ g => lE_arg hk g
theorem me_callTy (hc : CallR X (.type T) r) (hk : CallM X.K r k) (hg : Gl X x) (hm : X.mg x = none) (hv : bootBuiltins x = some (.type T)) (ha : MA X Wx (e :: es) m) (hn : x ≠ "__name__" := by decide) (hdb : (x == ("__debug__" : Str)) = false := by decide)
    (he : starEach (e :: es) X.env = (false, eval e X.env) :: starEach es X.env := by rfl) (hpl : (backTo pos (starEach es X.env)).any (·.1) = false := by rfl) : ME X Wx (.Call (.Name x p) (e :: es) [] pos) (mArg k m) :=
  peI (pe_callTy hc hg hm hv ha hn hdb he hpl) fun _ _ _ g => lE_arg hk g
def kTup (xs : List W) (h : Mh) : R W := if xs.length ≤ lim then al (.tup xs) h else .no
def kLst (xs : List W) (h : Mh) : R W := if xs.length ≤ lim then al (.lst xs) h else .no
theorem me_tup {x1} (ha : MA X Wx es m) : ME X Wx (.Tuple es x1 pos) (mArg kTup m) := peI (pe_tup ha) fun σV H Q ⟨ρ, h, σ, rp, wf, e, g⟩ => by
  subst e
  refine ⟨ρ, h, σ, rp, wf, rfl, g.bind.imp fun ρ1 h1 xs H1 l1 r1 wx g1 => ?_⟩
  unfold kTup at g1
  split at g1
  · rename_i hz
    exact ⟨by rw [List.length_map]; exact lim_sz hz, fun p hp => gd_al (o := .tup xs) r1 rfl wx g1 hp⟩
  · exact g1.elim
theorem me_lst (ha : MA X Wx es m) : ME X Wx (.List es pos) (mArg kLst m) := peI (pe_lst ha) fun σV H Q ⟨ρ, h, σ, rp, wf, e, g⟩ => by
  subst e
  refine ⟨ρ, h, σ, rp, wf, rfl, g.bind.imp fun ρ1 h1 xs H1 l1 r1 wx g1 => ?_⟩
  unfold kLst at g1
  split at g1
  · rename_i hz
    exact ⟨by rw [List.length_map]; exact lim_sz hz, fun p hp => gd_al (o := .lst xs) r1 rfl wx g1 hp⟩
  · exact g1.elim
end

/-! ### the built-ins' meanings -/
/-- the ints of a list of values -/
def intsOf : List W → Option (List Int)
  | [] => some []
  | .int i :: l => (intsOf l).map (i :: ·)
  | _ :: _ => none
def blsOf : List W → Option (List Bool)
  | [] => some []
  | .bl i :: l => (blsOf l).map (i :: ·)
  | _ :: _ => none
theorem intsOf_eq : ∀ {xs : List W} {ns : List Int}, intsOf xs = some ns → xs = ns.map W.int
  | [], _, h => by cases h; rfl
  | x :: l, ns, h => by
    cases x with
    | int i =>
      cases q : intsOf l with
      | none => unfold intsOf at h; rw [q] at h; cases h
      | some ms =>
        unfold intsOf at h; rw [q] at h
        cases h
        rw [intsOf_eq q]; rfl
    | _ => cases h
theorem blsOf_eq : ∀ {xs : List W} {ns : List Bool}, blsOf xs = some ns → xs = ns.map W.bl
  | [], _, h => by cases h; rfl
  | x :: l, ns, h => by
    cases x with
    | bl i =>
      cases q : blsOf l with
      | none => unfold blsOf at h; rw [q] at h; cases h
      | some ms =>
        unfold blsOf at h; rw [q] at h
        cases h
        rw [blsOf_eq q]; rfl
    | _ => cases h
theorem intsOf_map : ∀ ns : List Int, intsOf (ns.map W.int) = some ns
  | [] => rfl
  | n :: l => by show (intsOf (l.map W.int)).map (n :: ·) = _; rw [intsOf_map l] <;> rfl
theorem blsOf_map : ∀ ns : List Bool, blsOf (ns.map W.bl) = some ns
  | [] => rfl
  | n :: l => by show (blsOf (l.map W.bl)).map (n :: ·) = _; rw [blsOf_map l] <;> rfl
theorem cL_ints {K : Frag} {ρ : List Addr} (ns : List Int) : cL K ρ (ns.map W.int) = ns.map V.int := by rw [cL, List.map_map] <;> rfl
theorem cL_bls {K : Frag} {ρ : List Addr} (ns : List Bool) : cL K ρ (ns.map W.bl) = ns.map V.bl := by rw [cL, List.map_map] <;> rfl

def kLen (ws : List W) (h : Mh) : R W := match ws with
  | [.str z] => if z.length ≤ lim then .ok (.int z.length) h else .no
  | [w] => match seqL h w with
    | some xs => .ok (.int xs.length) h
    | none => match seqT h w with
      | some xs => .ok (.int xs.length) h
      | none => .no
  | _ => .no
def kAbs (ws : List W) (h : Mh) : R W := match ws with
  | [.int i] => .ok (.int (if i < 0 then -i else i)) h
  | _ => .no
def minL : List Int → Int
  | [] => 0
  | [x] => x
  | x :: l => let m := minL l; if x ≤ m then x else m
def maxL : List Int → Int
  | [] => 0
  | [x] => x
  | x :: l => let m := maxL l; if m ≤ x then x else m
theorem minL_mem : ∀ {l : List Int}, l ≠ [] → minL l ∈ l ∧ ∀ y ∈ l, minL l ≤ y
  | [], h => absurd rfl h
  | [x], _ => ⟨List.mem_singleton.mpr rfl, fun y hy => by rw [List.mem_singleton.mp hy]; exact Int.le_refl _⟩
  | x :: y :: l, _ => by
    obtain ⟨h1, h2⟩ := minL_mem (l := y :: l) (by simp)
    show (if x ≤ minL (y :: l) then x else minL (y :: l)) ∈ _ ∧ ∀ z ∈ _, (if x ≤ minL (y :: l) then x else minL (y :: l)) ≤ z
    by_cases c : x ≤ minL (y :: l)
    · rw [if_pos c]
      refine ⟨List.mem_cons_self, fun z hz => ?_⟩
      rcases List.mem_cons.mp hz with e | e
      · rw [e]; exact Int.le_refl _
      · exact Int.le_trans c (h2 z e)
    · rw [if_neg c]
      refine ⟨List.mem_cons_of_mem _ h1, fun z hz => ?_⟩
      rcases List.mem_cons.mp hz with e | e
      · rw [e]; omega
      · exact h2 z e
theorem maxL_mem : ∀ {l : List Int}, l ≠ [] → maxL l ∈ l ∧ ∀ y ∈ l, y ≤ maxL l
  | [], h => absurd rfl h
  | [x], _ => ⟨List.mem_singleton.mpr rfl, fun y hy => by rw [List.mem_singleton.mp hy]; exact Int.le_refl _⟩
  | x :: y :: l, _ => by
    obtain ⟨h1, h2⟩ := maxL_mem (l := y :: l) (by simp)
    show (if maxL (y :: l) ≤ x then x else maxL (y :: l)) ∈ _ ∧ ∀ z ∈ _, z ≤ (if maxL (y :: l) ≤ x then x else maxL (y :: l))
    by_cases c : maxL (y :: l) ≤ x
    · rw [if_pos c]
      refine ⟨List.mem_cons_self, fun z hz => ?_⟩
      rcases List.mem_cons.mp hz with e | e
      · rw [e]; exact Int.le_refl _
      · exact Int.le_trans (h2 z e) c
    · rw [if_neg c]
      refine ⟨List.mem_cons_of_mem _ h1, fun z hz => ?_⟩
      rcases List.mem_cons.mp hz with e | e
      · rw [e]; omega
      · exact h2 z e
def intL (h : Mh) (w : W) : Option (List Int) := (seqL h w).bind intsOf
def kMin (ws : List W) (h : Mh) : R W := match ws with
  | [.int i, .int j] => .ok (.int (if j < i then j else i)) h
  | [w] => match intL h w with
    | some (x :: l) => .ok (.int (minL (x :: l))) h
    | _ => .no
  | _ => .no
def kMax (ws : List W) (h : Mh) : R W := match ws with
  | [.int i, .int j] => .ok (.int (if j > i then j else i)) h
  | [w] => match intL h w with
    | some (x :: l) => .ok (.int (maxL (x :: l))) h
    | _ => .no
  | _ => .no
def kSum (ws : List W) (h : Mh) : R W := match ws with
  | [w] => match intL h w with
    | some ns => .ok (.int ns.sum) h
    | none => .no
  | _ => .no
def kAll (ws : List W) (h : Mh) : R W := match ws with
  | [w] => match (seqL h w).bind blsOf with
    | some bs => .ok (.bl (bs.all id)) h
    | none => .no
  | _ => .no
def kAny (ws : List W) (h : Mh) : R W := match ws with
  | [w] => match (seqL h w).bind blsOf with
    | some bs => .ok (.bl (bs.any id)) h
    | none => .no
  | _ => .no
def kDivmod (ws : List W) (h : Mh) : R W := match ws with
  | [.int i, .int j] => if 0 < j ∧ j < 1073741824 then al (.tup [.int (i / j), .int (i % j)]) h else .no
  | _ => .no
def kInt (ws : List W) (h : Mh) : R W := match ws with
  | [.int i] => .ok (.int i) h
  | [.bl b] => .ok (.int (if b then 1 else 0)) h
  | _ => .no
def kTuple (ws : List W) (h : Mh) : R W := match ws with
  | [w] => match seqL h w with
    | some xs => al (.tup xs) h
    | none => match seqT h w with
      | some _ => .ok w h
      | none => .no
  | _ => .no
def kList (ws : List W) (h : Mh) : R W := match ws with
  | [w] => match seqL h w with
    | some xs => al (.lst xs) h
    | none => match seqT h w with
      | some xs => al (.lst xs) h
      | none => .no
  | _ => .no
section
variable {K : Frag}
theorem intL_ok {ρ : List Addr} {h : Mh} {H : Hp} {w : W} {ns : List Int} (rp : Rep K ρ h H) (e : intL h w = some ns) : ∃ i, w = .ref i ∧ SqL K H (ρ.getD i 0) (ns.map V.int) := by
  unfold intL at e
  cases q : seqL h w with
  | none => rw [q] at e; cases e
  | some xs =>
    rw [q] at e
    obtain ⟨i, e1, _, s, _⟩ := seqL_ok rp q
    rw [intsOf_eq (show intsOf xs = some ns from e), cL_ints] at s
    exact ⟨i, e1, s⟩
theorem blL_ok {ρ : List Addr} {h : Mh} {H : Hp} {w : W} {ns : List Bool} (rp : Rep K ρ h H) (e : (seqL h w).bind blsOf = some ns) : ∃ i, w = .ref i ∧ SqL K H (ρ.getD i 0) (ns.map V.bl) := by
  cases q : seqL h w with
  | none => rw [q] at e; cases e
  | some xs =>
    rw [q] at e
    obtain ⟨i, e1, _, s, _⟩ := seqL_ok rp q
    rw [blsOf_eq (show blsOf xs = some ns from e), cL_bls] at s
    exact ⟨i, e1, s⟩
theorem cm_len : CallM K (fun xs H Q => ∃ x n, xs = [x] ∧ LenV K x H n ∧ Q (.int n) H) kLen := fun E ρ h H ws Q rp wf gd => by
  unfold kLen at gd
  split at gd
  · split at gd
    · rename_i hz
      exact ⟨_, _, rfl, ⟨lim_sz hz, rfl⟩, gd_ok rp gd trivial⟩
    · exact gd.elim
  · split at gd
    · rename_i q
      obtain ⟨i, rfl, _, s, _⟩ := seqL_ok rp q
      exact ⟨_, _, rfl, .inl ⟨_, s, (List.length_map ..).symm⟩, gd_ok rp gd trivial⟩
    · split at gd
      · rename_i q
        obtain ⟨i, rfl, _, s, _⟩ := seqT_ok rp q
        exact ⟨_, _, rfl, .inr ⟨_, s, (List.length_map ..).symm⟩, gd_ok rp gd trivial⟩
      · exact gd.elim
  · exact gd.elim
theorem cm_abs : CallM K (fun xs H Q => ∃ i, xs = [.int i] ∧ Q (.int (if i < 0 then -i else i)) H) kAbs := fun E ρ h H ws Q rp wf gd => by
  unfold kAbs at gd
  split at gd
  · exact ⟨_, rfl, gd_ok rp gd trivial⟩
  · exact gd.elim
def rMinA (K : Frag) : List V → Hp → VK → Prop := fun xs H Q => (∃ i j, xs = [.int i, .int j] ∧ Q (.int (if j < i then j else i)) H) ∨ rMin K xs H Q
def rMaxA (K : Frag) : List V → Hp → VK → Prop := fun xs H Q => (∃ i j, xs = [.int i, .int j] ∧ Q (.int (if j > i then j else i)) H) ∨ rMax K xs H Q
theorem cm_min : CallM K (rMinA K) kMin := fun E ρ h H ws Q rp wf gd => by
  unfold kMin at gd
  split at gd
  · exact .inl ⟨_, _, rfl, gd_ok rp gd trivial⟩
  · split at gd
    · rename_i x l q
      obtain ⟨i, rfl, s⟩ := intL_ok rp q
      refine .inr ⟨_, _, rfl, s, by simp, fun m hm hle => ?_⟩
      obtain ⟨h1, h2⟩ := minL_mem (l := x :: l) (by simp)
      rw [Int.le_antisymm (hle _ h1) (h2 m hm)]
      exact gd_ok rp gd trivial
    · exact gd.elim
  · exact gd.elim
theorem cm_max : CallM K (rMaxA K) kMax := fun E ρ h H ws Q rp wf gd => by
  unfold kMax at gd
  split at gd
  · exact .inl ⟨_, _, rfl, gd_ok rp gd trivial⟩
  · split at gd
    · rename_i x l q
      obtain ⟨i, rfl, s⟩ := intL_ok rp q
      refine .inr ⟨_, _, rfl, s, by simp, fun m hm hle => ?_⟩
      obtain ⟨h1, h2⟩ := maxL_mem (l := x :: l) (by simp)
      rw [Int.le_antisymm (h2 m hm) (hle _ h1)]
      exact gd_ok rp gd trivial
    · exact gd.elim
  · exact gd.elim
theorem cm_sum : CallM K (rSum K) kSum := fun E ρ h H ws Q rp wf gd => by
  unfold kSum at gd
  split at gd
  · split at gd
    · rename_i q
      obtain ⟨i, rfl, s⟩ := intL_ok rp q
      exact ⟨_, _, rfl, s, gd_ok rp gd trivial⟩
    · exact gd.elim
  · exact gd.elim
theorem cm_all : CallM K (rAll K) kAll := fun E ρ h H ws Q rp wf gd => by
  unfold kAll at gd
  split at gd
  · split at gd
    · rename_i q
      obtain ⟨i, rfl, s⟩ := blL_ok rp q
      exact ⟨_, _, rfl, s, gd_ok rp gd trivial⟩
    · exact gd.elim
  · exact gd.elim
theorem cm_any : CallM K (rAny K) kAny := fun E ρ h H ws Q rp wf gd => by
  unfold kAny at gd
  split at gd
  · split at gd
    · rename_i q
      obtain ⟨i, rfl, s⟩ := blL_ok rp q
      exact ⟨_, _, rfl, s, gd_ok rp gd trivial⟩
    · exact gd.elim
  · exact gd.elim
theorem cm_divmod : CallM K (fun xs H Q => ∃ i j, xs = [.int i, .int j] ∧ CDiv i j ∧ ∀ p, H p = none → Q (.ref p) (upd H p (.tup [.int (i / j), .int (i % j)]))) kDivmod := fun E ρ h H ws Q rp wf gd => by
  unfold kDivmod at gd
  split at gd
  · split at gd
    · rename_i i j hz
      exact ⟨_, _, rfl, hz, fun p hp => gd_al (o := .tup [.int (i / j), .int (i % j)]) rp rfl (fun z hz => by simp at hz; rcases hz with rfl | rfl <;> trivial) gd hp⟩
    · exact gd.elim
  · exact gd.elim
theorem cm_int : CallM K (fun xs H Q => (∃ i, xs = [.int i] ∧ Q (.int i) H) ∨ ∃ k, xs = [.bl k] ∧ Q (.int (if k then 1 else 0)) H) kInt := fun E ρ h H ws Q rp wf gd => by
  unfold kInt at gd
  split at gd
  · exact .inl ⟨_, rfl, gd_ok rp gd trivial⟩
  · exact .inr ⟨_, rfl, gd_ok rp gd trivial⟩
  · exact gd.elim
theorem cm_tuple : CallM K (fun xs H Q => ∃ p ys, xs = [.ref p] ∧ ((SqL K H p ys ∧ ∀ l, H l = none → Q (.ref l) (upd H l (.tup ys))) ∨ (SqT K H p ys ∧ Q (.ref p) H))) kTuple := fun E ρ h H ws Q rp wf gd => by
  unfold kTuple at gd
  split at gd
  · split at gd
    · rename_i xs q
      obtain ⟨i, rfl, _, s, ww⟩ := seqL_ok rp q
      exact ⟨_, _, rfl, .inl ⟨s, fun p hp => gd_al (o := .tup xs) rp rfl ww gd hp⟩⟩
    · split at gd
      · rename_i q
        obtain ⟨i, rfl, _, s, _⟩ := seqT_ok rp q
        exact ⟨_, _, rfl, .inr ⟨s, gd_ok rp gd (wf _ (List.mem_singleton.mpr rfl))⟩⟩
      · exact gd.elim
  · exact gd.elim
theorem cm_list : CallM K (fun xs H Q => ∃ p ys, xs = [.ref p] ∧ (SqL K H p ys ∨ SqT K H p ys) ∧ ∀ l, H l = none → Q (.ref l) (upd H l (.lst ys))) kList := fun E ρ h H ws Q rp wf gd => by
  unfold kList at gd
  split at gd
  · split at gd
    · rename_i xs q
      obtain ⟨i, rfl, _, s, ww⟩ := seqL_ok rp q
      exact ⟨_, _, rfl, .inl s, fun p hp => gd_al (o := .lst xs) rp rfl ww gd hp⟩
    · split at gd
      · rename_i xs q
        obtain ⟨i, rfl, _, s, ww⟩ := seqT_ok rp q
        exact ⟨_, _, rfl, .inr s, fun p hp => gd_al (o := .lst xs) rp rfl ww gd hp⟩
      · exact gd.elim
  · exact gd.elim
end
end Mc

namespace Mc
open PySem PySem.Spec PyProof.Rows L2

/-! ### subscripts and slices -/
def kIx (x y : W) (h : Mh) : R W := match y with
  | .int i => match x with
    | .str z => if z.length ≤ lim then (match atI z.cps.toList i with
      | some c => .ok (.str ⟨#[c]⟩) h
      | none => .no) else .no
    | x => match seqL h x with
      | some xs => (match atI xs i with
        | some v => .ok v h
        | none => .no)
      | none => match seqT h x with
        | some xs => (match atI xs i with
          | some v => .ok v h
          | none => .no)
        | none => .no
  | _ => .no
theorem atI_map {α β : Type} {f : α → β} {xs : List α} {i : Int} {v : α} (e : atI xs i = some v) : atI (xs.map f) i = some (f v) := by
  unfold atI at e ⊢
  rw [List.length_map]
  cases q : ixN xs.length i with
  | none => rw [q] at e; cases e
  | some j =>
    rw [q] at e
    show (xs.map f)[j]? = some (f v)
    rw [List.getElem?_map, show xs[j]? = some v from e] <;> rfl
theorem atI_mem {α : Type} {xs : List α} {i : Int} {v : α} (e : atI xs i = some v) : v ∈ xs := by
  unfold atI at e
  cases q : ixN xs.length i with
  | none => rw [q] at e; cases e
  | some j => rw [q] at e; exact List.mem_of_getElem? e
section
variable {X : Cx} {K : Frag} {Wx : WX} {a b e : Expr} {ma mb : MEx} {pos p2 : Pos}
theorem om_ix : OpM K (rIx K) kIx := fun E ρ h H x y Q rp wx wy gd => by
  unfold kIx at gd
  split at gd
  · split at gd
    · split at gd
      · rename_i hz
        split at gd
        · rename_i c q
          exact .inr (.inr ⟨_, _, c, rfl, rfl, lim_sz hz, q, gd_ok rp gd trivial⟩)
        · exact gd.elim
      · exact gd.elim
    · split at gd
      · rename_i xs q
        split at gd
        · rename_i v hv
          obtain ⟨j, rfl, _, s, ww⟩ := seqL_ok rp q
          exact .inl ⟨_, _, _, _, rfl, rfl, s, atI_map hv, gd_ok rp gd (ww _ (atI_mem hv))⟩
        · exact gd.elim
      · split at gd
        · rename_i xs q
          split at gd
          · rename_i v hv
            obtain ⟨j, rfl, _, s, ww⟩ := seqT_ok rp q
            exact .inr (.inl ⟨_, _, _, _, rfl, rfl, s, atI_map hv, gd_ok rp gd (ww _ (atI_mem hv))⟩)
          · exact gd.elim
        · exact gd.elim
  · exact gd.elim
theorem me_ix (ha : ME X Wx a ma) (hb : ME X Wx b mb) (hs : PlainIx b := by intro _ _; rfl) : ME X Wx (.Subscript a b pos) (m2 kIx ma mb) := peI (pe_ix ix_seq ha hb hs) fun _ _ _ g => lE_op om_ix g
/-- a part of a slice -/
abbrev MOx := MSt → Mh → R (Option Int)
def lO (K : Frag) (Wx : WX) (m : MOx) : TO := fun σV H Q => ∃ ρ h σ, Rep K ρ h H ∧ WfS h.length σ ∧ σV = cS K ρ σ ∧ Gd K (fun c d H' => Wx c d σV H') ρ (fun _ _ => True) (m σ h) fun _ _ b H' => Q b H'
def oNone : MOx := fun _ h => .ok none h
def oSome (m : MEx) : MOx := fun σ h => (m σ h).bind fun w h' => match w with
  | .int i => .ok (some i) h'
  | _ => .no
abbrev MO' (X : Cx) (Wx : WX) (e : Option Expr) (m : MOx) : Prop := PO X e (lO X.K Wx m)
theorem poI {eo : Option Expr} {t t' : TO} (hh : PO X eo t) (f : ∀ σ H Q, t' σ H Q → t σ H Q) : PO X eo t' := ⟨fun pins s σ H Q I q => hh.run pins s σ H Q I (f σ H Q q)⟩
theorem mo_none : MO' X Wx none oNone := poI po_none fun σV H Q ⟨ρ, h, σ, rp, wf, e, g⟩ => g ρ H pre_rfl rp trivial
theorem mo_some (he : ME X Wx e ma) : MO' X Wx (some e) (oSome ma) := poI (po_some he) fun σV H Q ⟨ρ, h, σ, rp, wf, e, g⟩ => by
  refine ⟨ρ, h, σ, rp, wf, e, g.bind.imp fun ρ1 h1 w H1 l1 r1 ww g1 => ?_⟩
  cases w with
  | int i => exact ⟨i, rfl, g1 ρ1 H1 pre_rfl r1 trivial⟩
  | _ => exact g1.elim
def cutW (xs : List W) (lo hi : Option Int) : List W := (xs.drop (HT.sIx xs.length 0 lo)).take (HT.sIx xs.length xs.length hi - HT.sIx xs.length 0 lo)
def kSl (x : W) (lo hi : Option Int) (h : Mh) : R W := match seqL h x with
  | some xs => al (.lst (cutW xs lo hi)) h
  | none => match seqT h x with
    | some xs => if HT.sIx xs.length 0 lo = 0 ∧ HT.sIx xs.length xs.length hi = xs.length then .ok x h else al (.tup (cutW xs lo hi)) h
    | none => .no
def mSl (m : MEx) (l u : MOx) : MEx := fun σ h => (m σ h).bind fun x h1 => (l σ h1).bind fun lo h2 => (u σ h2).bind fun hi h3 => kSl x lo hi h3
theorem cutW_c {ρ : List Addr} {xs : List W} {lo hi : Option Int} : cutV (cL K ρ xs) lo hi = cL K ρ (cutW xs lo hi) := by
  unfold cutV cutW cL
  rw [List.length_map, List.map_take, List.map_drop]
theorem cutW_wf {n : Nat} {xs : List W} {lo hi : Option Int} (a : WfL n xs) : WfL n (cutW xs lo hi) := fun z hz => a z (List.mem_of_mem_drop (List.mem_of_mem_take hz))
theorem me_slice {lo hi : Option Expr} {ml mu : MOx} (he : ME X Wx e ma) (hl : MO' X Wx lo ml) (hu : MO' X Wx hi mu) : ME X Wx (.Subscript e (.Slice lo hi none p2) pos) (mSl ma ml mu) :=
  peI (pe_slice (sl_list.or sl_tupA) he hl hu) fun σV H Q ⟨ρ, h, σ, rp, wf, e, g⟩ => by
    subst e
    have w0 := rp.wfS wf
    refine ⟨ρ, h, σ, rp, wf, rfl, g.bind.imp fun ρ1 h1 x H1 l1 r1 wx g1 => ?_⟩
    refine ⟨ρ1, h1, σ, r1, wf.mono (rp.up r1 l1), (cS_pre l1 w0).symm, g1.bind.imp fun ρ2 h2 lo H2 l2 r2 _ g2 => ?_⟩
    refine ⟨ρ2, h2, σ, r2, wf.mono (rp.up r2 (l1.trans l2)), (cS_pre (l1.trans l2) w0).symm, g2.bind.imp fun ρ3 h3 hi H3 l3 r3 _ g3 => ?_⟩
    rw [← r1.cv (l2.trans l3) wx]
    have wx3 : wfV h3.length x := wx.mono (r1.up r3 (l2.trans l3))
    unfold kSl at g3
    split at g3
    · rename_i xs q
      obtain ⟨i, rfl, _, s, ww⟩ := seqL_ok r3 q
      refine .inl ⟨_, _, rfl, s, fun p hp => ?_⟩
      rw [cutW_c]
      exact gd_al (o := .lst (cutW xs lo hi)) r3 rfl (cutW_wf ww) g3 hp
    · split at g3
      · rename_i xs q
        obtain ⟨i, rfl, _, s, ww⟩ := seqT_ok r3 q
        refine .inr ⟨_, _, rfl, s, ?_, ?_⟩
        · rw [List.length_map]
          intro z
          rw [if_pos z] at g3
          exact gd_ok r3 g3 wx3
        · rw [List.length_map]
          intro z p hp
          rw [if_neg z] at g3
          rw [cutW_c]
          exact gd_al (o := .tup (cutW xs lo hi)) r3 rfl (cutW_wf ww) g3 hp
      · exact g3.elim
end

/-! ### deep data, == and in -/
def rdL (f : W → Option PyData) : List W → Option (List PyData)
  | [] => some []
  | x :: l => match f x, rdL f l with
    | some d, some ds => some (d :: ds)
    | _, _ => none
def rd : Nat → Mh → W → Option PyData
  | _, _, .non => some .none
  | _, _, .bl b => some (.bool b)
  | _, _, .int i => some (.int i)
  | _, _, .str x => some (.str x)
  | 0, _, _ => none
  | n + 1, h, .ref i => match h[i]? with
    | some (.lst xs) => (rdL (rd n h) xs).map .list
    | some (.frl xs) => (rdL (rd n h) xs).map .list
    | some (.tup xs) => (rdL (rd n h) xs).map .tuple
    | some (.ktp xs) => (rdL (rd n h) xs).map .tuple
    | _ => none
  | _, _, _ => none
section
variable {K : Frag} {ρ : List Addr} {h : Mh} {H : Hp}
theorem rdL_ok {f : W → Option PyData} (hf : ∀ w d, f w = some d → Dp K H (cV K ρ w) d) : ∀ {xs : List W} {ds : List PyData}, rdL f xs = some ds → DpAll K H (cL K ρ xs) ds
  | [], _, e => by cases e; exact .nil
  | x :: l, ds, e => by
    unfold rdL at e
    cases q1 : f x with
    | none => rw [q1] at e; cases e
    | some d =>
      cases q2 : rdL f l with
      | none => rw [q1, q2] at e; cases e
      | some ds' =>
        rw [q1, q2] at e
        cases e
        exact .cons (hf _ _ q1) (rdL_ok hf q2)
theorem rd_ok (rp : Rep K ρ h H) : ∀ (n : Nat) (w : W) (d : PyData), rd n h w = some d → Dp K H (cV K ρ w) d := by
  intro n
  induction n with
  | zero =>
    intro w d e
    cases w <;> first | (cases e; first | exact .non | exact .bl _ | exact .int _ | exact .str _) | (unfold rd at e; cases e)
  | succ n ih =>
    intro w d e
    cases w with
    | ref i =>
      have e : (match h[i]? with
        | some (.lst xs) => (rdL (rd n h) xs).map PyData.list
        | some (.frl xs) => (rdL (rd n h) xs).map PyData.list
        | some (.tup xs) => (rdL (rd n h) xs).map PyData.tuple
        | some (.ktp xs) => (rdL (rd n h) xs).map PyData.tuple
        | _ => none) = some d := e
      have fin : ∀ {xs : List W} {c : List PyData → PyData}, (rdL (rd n h) xs).map c = some d → ∃ ds, DpAll K H (cL K ρ xs) ds ∧ d = c ds := fun {xs c} e => by
        cases q : rdL (rd n h) xs with
        | none => rw [q] at e; cases e
        | some ds => rw [q] at e; exact ⟨ds, rdL_ok (fun w d => ih w d) q, (Option.some.inj e).symm⟩
      cases q : h[i]? with
      | none => rw [q] at e; cases e
      | some o =>
        rw [q] at e
        cases o with
        | lst xs =>
          obtain ⟨ds, hd, rfl⟩ := fin e
          obtain ⟨_, ⟨⟩, _, s, _⟩ := seqL_ok (w := .ref i) (xs := xs) rp (by simp only [seqL, q])
          exact .lst s hd
        | frl xs =>
          obtain ⟨ds, hd, rfl⟩ := fin e
          obtain ⟨_, ⟨⟩, _, s, _⟩ := seqL_ok (w := .ref i) (xs := xs) rp (by simp only [seqL, q])
          exact .lst s hd
        | tup xs =>
          obtain ⟨ds, hd, rfl⟩ := fin e
          obtain ⟨_, ⟨⟩, _, s, _⟩ := seqT_ok (w := .ref i) (xs := xs) rp (by simp only [seqT, q])
          exact .tup s hd
        | ktp xs =>
          obtain ⟨ds, hd, rfl⟩ := fin e
          obtain ⟨_, ⟨⟩, _, s, _⟩ := seqT_ok (w := .ref i) (xs := xs) rp (by simp only [seqT, q])
          exact .tup s hd
        | _ => cases e
    | non => cases e; exact .non
    | bl b => cases e; exact .bl b
    | int i => cases e; exact .int i
    | str x => cases e; exact .str x
    | _ => unfold rd at e; cases e
end
/-- the data of two values, if they are within the line -/
def rd2 (x y : W) (h : Mh) : Option (PyData × PyData) := match rd 40 h x, rd 40 h y with
  | some d, some e => if SeqAt.shaped d && SeqAt.shaped e then some (d, e) else none
  | _, _ => none
def kEq (x y : W) (h : Mh) : R W := match rd2 x y h with
  | some (d, e) => .ok (.bl (PyData.eqv d e)) h
  | none => .no
def kNe (x y : W) (h : Mh) : R W := match rd2 x y h with
  | some (d, e) => .ok (.bl (!PyData.eqv d e)) h
  | none => .no
section
variable {K : Frag} {ρ : List Addr} {h : Mh} {H : Hp} {x y : W}
theorem rd2_ok (rp : Rep K ρ h H) {d e : PyData} (q : rd2 x y h = some (d, e)) : Dp K H (cV K ρ x) d ∧ Dp K H (cV K ρ y) e ∧ SeqAt.shaped d = true ∧ SeqAt.shaped e = true := by
  unfold rd2 at q
  split at q
  · rename_i d' e' q1 q2
    split at q
    · rename_i hz
      cases q
      obtain ⟨z1, z2⟩ := Bool.and_eq_true_iff.mp hz
      exact ⟨rd_ok rp _ _ _ q1, rd_ok rp _ _ _ q2, z1, z2⟩
    · cases q
  · cases q
theorem om_eq : OpM K (rEqD K) kEq := fun E ρ h H x y Q rp wx wy gd => by
  unfold kEq at gd
  split at gd
  · rename_i d e q
    obtain ⟨h1, h2, h3, h4⟩ := rd2_ok rp q
    exact ⟨d, e, h1, h2, h3, h4, gd_ok rp gd trivial⟩
  · exact gd.elim
theorem om_ne : OpM K (rNeD K) kNe := fun E ρ h H x y Q rp wx wy gd => by
  unfold kNe at gd
  split at gd
  · rename_i d e q
    obtain ⟨h1, h2, h3, h4⟩ := rd2_ok rp q
    exact ⟨d, e, h1, h2, h3, h4, gd_ok rp gd trivial⟩
  · exact gd.elim
end
/-- x in xs, flat things -/
def flatW : W → Bool
  | .non => true
  | .bl _ => true
  | .int _ => true
  | .str _ => true
  | _ => false
def eqW : W → W → Bool
  | .non, .non => true
  | .bl a, .bl b => a == b
  | .bl a, .int b => (if a then 1 else 0) == b
  | .int a, .bl b => a == (if b then 1 else 0)
  | .int a, .int b => a == b
  | .str a, .str b => a == b
  | _, _ => false
def inW (x : W) (xs : List W) : Bool := xs.any fun y => eqW y x
def seqA (h : Mh) (w : W) : Option (List W) := match seqL h w with
  | some xs => some xs
  | none => seqT h w
def kInF (neg : Bool) (x y : W) (h : Mh) : R W := match seqA h y with
  | some xs => if flatW x && xs.all flatW then .ok (.bl (if neg then !inW x xs else inW x xs)) h else .no
  | none => .no
section
variable {K : Frag}
theorem flatW_c {ρ : List Addr} {w : W} (e : flatW w = true) : flatV (cV K ρ w) = true := by cases w <;> first | rfl | cases e
theorem eqW_c {ρ : List Addr} {x y : W} (e1 : flatW x = true) (e2 : flatW y = true) : eqV (cV K ρ x) (cV K ρ y) = eqW x y := by cases x <;> first | (exact absurd e1 (by decide)) | (cases y <;> first | rfl | exact absurd e2 (by decide))
theorem seqA_ok {ρ : List Addr} {h : Mh} {H : Hp} {w : W} {xs : List W} (rp : Rep K ρ h H) (e : seqA h w = some xs) : ∃ i, w = .ref i ∧ cV K ρ w = .ref (ρ.getD i 0) ∧ (SqL K H (ρ.getD i 0) (cL K ρ xs) ∨ SqT K H (ρ.getD i 0) (cL K ρ xs)) ∧ WfL h.length xs := by
  unfold seqA at e
  split at e
  · rename_i q
    cases e
    obtain ⟨i, h1, h2, h3, h4⟩ := seqL_ok rp q
    exact ⟨i, h1, h2, .inl h3, h4⟩
  · obtain ⟨i, h1, h2, h3, h4⟩ := seqT_ok rp e
    exact ⟨i, h1, h2, .inr h3, h4⟩
theorem all_flat {ρ : List Addr} {xs : List W} (e : xs.all flatW = true) : (cL K ρ xs).all flatV = true := by
  rw [List.all_map]
  exact List.all_eq_true.mpr fun z hz => flatW_c (List.all_eq_true.mp e z hz)
theorem inW_c {ρ : List Addr} {x : W} {xs : List W} (e1 : flatW x = true) (e2 : xs.all flatW = true) : inV (cV K ρ x) (cL K ρ xs) = inW x xs := by
  unfold inV inW
  rw [List.any_map]
  induction xs with
  | nil => rfl
  | cons z l ih =>
    rw [List.all_cons] at e2
    obtain ⟨z1, z2⟩ := Bool.and_eq_true_iff.mp e2
    rw [List.any_cons, List.any_cons, ih z2]
    exact congrArg (· || _) (eqW_c z1 e1)
theorem om_inF {neg : Bool} : OpM K (rIn K neg) (kInF neg) := fun E ρ h H x y Q rp wx wy gd => by
  unfold kInF at gd
  split at gd
  · rename_i xs q
    split at gd
    · rename_i hz
      obtain ⟨i, rfl, _, s, ww⟩ := seqA_ok rp q
      obtain ⟨z1, z2⟩ := Bool.and_eq_true_iff.mp hz
      refine ⟨_, _, rfl, s, flatW_c z1, all_flat z2, ?_⟩
      rw [inW_c z1 z2]
      exact gd_ok rp gd trivial
    · exact gd.elim
  · exact gd.elim
end
end Mc

namespace Mc
open PySem PySem.Spec PyProof.Rows L2

/-! ### methods of built-in types -/
/-- what may stand ahead of a method of T -/
def isT (T : String) (w : W) (h : Mh) : Bool := match w with
  | .str _ => T == "str"
  | .ref i => match h[i]? with
    | some (.lst _) => T == "list"
    | some (.frl _) => T == "list"
    | some (.dK _) => T == "dict"
    | _ => false
  | _ => false
def MtMc (K : Frag) (r : V → List V → Hp → VK → Prop) (k : W → List W → Mh → R W) : Prop := ∀ (E : XK) (ρ : List Addr) (h : Mh) (H : Hp) (x : W) (ws : List W) (Q : VK), Rep K ρ h H → wfV h.length x → WfL h.length ws → Gd K E ρ wfV (k x ws h) (fun ρ' _ w H' => Q (cV K ρ' w) H') → r (cV K ρ x) (cL K ρ ws) H Q
def mMt (T : String) (k : W → List W → Mh → R W) (mo : MEx) (m : MAx) : MEx := fun σ h => (mo σ h).bind fun x h1 => if isT T x h1 then (m σ h1).bind fun ws h2 => k x ws h2 else .no
def mMt0 (T : String) (k : W → List W → Mh → R W) (mo : MEx) : MEx := fun σ h => (mo σ h).bind fun x h1 => if isT T x h1 then k x [] h1 else .no
section
variable {X : Cx} {K : Frag} {Wx : WX} {o e : Expr} {es : List Expr} {mo : MEx} {m : MAx} {name : Str} {apos cpos : Pos} {T id : String} {r : V → List V → Hp → VK → Prop} {k : W → List W → Mh → R W}
theorem isT_ok {ρ : List Addr} {h : Mh} {H : Hp} {w : W} (rp : Rep K ρ h H) (e : isT T w h = true) : tyV K T (cV K ρ w) H := by
  cases w with
  | str x => exact beq_iff_eq.mp e
  | ref i =>
    have e : (match h[i]? with
      | some (.lst _) => T == "list"
      | some (.frl _) => T == "list"
      | some (.dK _) => T == "dict"
      | _ => false) = true := e
    cases q : h[i]? with
    | none => rw [q] at e; cases e
    | some ob =>
      rw [q] at e
      cases ob with
      | lst xs =>
        obtain ⟨_, ⟨⟩, _, s, _⟩ := seqL_ok (w := .ref i) (xs := xs) rp (by simp only [seqL, q])
        exact .inl ⟨beq_iff_eq.mp e, _, s⟩
      | frl xs =>
        obtain ⟨_, ⟨⟩, _, s, _⟩ := seqL_ok (w := .ref i) (xs := xs) rp (by simp only [seqL, q])
        exact .inl ⟨beq_iff_eq.mp e, _, s⟩
      | dK kvs => exact .inr (.inr (.inl ⟨beq_iff_eq.mp e, .inl ⟨_, rp.obj i _ q⟩⟩))
      | _ => cases e
  | _ => cases e
theorem me_mt (pa : PlainAttrs T) (slot : Slot T name id) (hty : typeOf (.builtin id) = pure (.type "method_descriptor")) (hm : MtR X id r) (hk : MtMc X.K r k) (ho : ME X Wx o mo) (ha : MA X Wx (e :: es) m)
    (hbase : attributeBase o name X.env (eval o X.env) = eval o X.env := by rfl)
    (hfew : ((backTo cpos (starEach (e :: es) X.env)).all (fun x => !x.1) && (backToKw cpos (keywordEach [] X.env)).all (fun x => x.1.isSome)
      && decide ((e :: es).length + ([] : List Keyword).length + (if ([] : List Keyword).isEmpty then 0 else 1) < 30)) = true := by rfl)
    (hline : (apos.endLine == cpos.line) = true := by rfl) (hs : starEach (e :: es) X.env = (false, eval e X.env) :: starEach es X.env := by rfl) (hplain : (backTo cpos (starEach es X.env)).any (·.1) = false := by rfl) :
    ME X Wx (.Call (.Attribute o name apos) (e :: es) [] cpos) (mMt T k mo m) := peI (pe_bm pa slot hty hm ho ha hbase hfew hline hs hplain) fun σV H Q ⟨ρ, h, σ, rp, wf, e, g⟩ => by
  subst e
  refine ⟨ρ, h, σ, rp, wf, rfl, g.bind.imp fun ρ1 h1 x H1 l1 r1 wx g1 => ?_⟩
  split at g1
  · rename_i ht
    refine ⟨isT_ok r1 ht, lA.at l1 (rp.wfS wf) r1 (g1.bind.imp fun ρ2 h2 ws H2 l2 r2 ww g2 => ?_)⟩
    rw [← r1.cv l2 wx]
    exact hk _ ρ2 h2 H2 x ws Q r2 (wx.mono (r1.up r2 l2)) ww g2
  · exact g1.elim
theorem me_mt0 (pa : PlainAttrs T) (slot : Slot T name id) (hty : typeOf (.builtin id) = pure (.type "method_descriptor")) (hm : MtR X id r) (hk : MtMc X.K r k) (ho : ME X Wx o mo)
    (hbase : attributeBase o name X.env (eval o X.env) = eval o X.env := by rfl) (hline : (apos.endLine == cpos.line) = true := by rfl) : ME X Wx (.Call (.Attribute o name apos) [] [] cpos) (mMt0 T k mo) := peI (pe_bm0 pa slot hty hm ho hbase hline) fun σV H Q ⟨ρ, h, σ, rp, wf, e, g⟩ => by
  subst e
  refine ⟨ρ, h, σ, rp, wf, rfl, g.bind.imp fun ρ1 h1 x H1 l1 r1 wx g1 => ?_⟩
  split at g1
  · rename_i ht
    exact ⟨isT_ok r1 ht, hk _ ρ1 h1 H1 x [] Q r1 wx (fun z hz => by cases hz) g1⟩
  · exact g1.elim
theorem gd_set {E : XK} {ρ : List Addr} {h : Mh} {H : Hp} {Q : VK} {i : Nat} {ob ob' : MO} {w : W} (rp : Rep K ρ h H) (e1 : h[i]? = some ob) (t1 : ob.trk = true) (t2 : ob'.trk = true) (wo : WfO h.length ob')
    (g : Gd K E ρ wfV (.ok w (h.set i ob')) fun ρ' _ w H' => Q (cV K ρ' w) H') (ww : wfV h.length w) : Q (cV K ρ w) (upd H (ρ.getD i 0) (cO K ρ ob')) := g ρ _ pre_rfl (rp.set e1 t1 t2 wo) (by rw [List.length_set]; exact ww)
def kAppend (x : W) (ws : List W) (h : Mh) : R W := match x, ws with
  | .ref i, [y] => match h[i]? with
    | some (.lst xs) => if xs.length < lim then .ok .non (h.set i (.lst (xs ++ [y]))) else .no
    | _ => .no
  | _, _ => .no
theorem mm_append : MtMc K rAppend kAppend := fun E ρ h H x ws Q rp wx ww gd => by
  unfold kAppend at gd
  split at gd
  · rename_i i y
    split at gd
    · rename_i xs q
      split at gd
      · rename_i hz
        obtain ⟨r1, w1⟩ := rp.lstAt q
        refine ⟨_, _, _, rfl, rfl, r1, by rw [List.length_map]; exact lim_lt (Nat.le_of_lt hz), ?_⟩
        have z := gd_set (ob' := .lst (xs ++ [y])) rp q rfl rfl (w1.app fun v hv => ww v hv) gd trivial
        rw [show cO K ρ (.lst (xs ++ [y])) = .lst (cL K ρ xs ++ [cV K ρ y]) from congrArg HO.lst List.map_append] at z
        exact z
      · exact gd.elim
    · exact gd.elim
  · exact gd.elim
theorem me_append {e : Expr} (ho : ME X Wx o mo) (ha : MA X Wx [e] m) (hbase : attributeBase o "append" X.env (eval o X.env) = eval o X.env := by rfl)
    (hfew : ((backTo cpos (starEach [e] X.env)).all (fun x => !x.1) && (backToKw cpos (keywordEach [] X.env)).all (fun x => x.1.isSome) && decide (([e] : List Expr).length + ([] : List Keyword).length + (if ([] : List Keyword).isEmpty then 0 else 1) < 30)) = true := by rfl)
    (hline : (apos.endLine == cpos.line) = true := by rfl) (hs : starEach [e] X.env = (false, eval e X.env) :: starEach [] X.env := by rfl) (hplain : (backTo cpos (starEach [] X.env)).any (·.1) = false := by rfl) :
    ME X Wx (.Call (.Attribute o "append" apos) [e] [] cpos) (mMt "list" kAppend mo m) := me_mt PySem.F.plainAttrs_list PySem.F.slot_list_append PySem.F.type_list_append mt_append mm_append ho ha hbase hfew hline hs hplain
def kExtend (x : W) (ws : List W) (h : Mh) : R W := match x, ws with
  | .ref i, [.ref j] => match h[i]?, h[j]? with
    | some (.lst xs), some (.lst ys) => if xs.length + ys.length ≤ lim then .ok .non (h.set i (.lst (xs ++ ys))) else .no
    | _, _ => .no
  | _, _ => .no
theorem mm_extend : MtMc K rExtend kExtend := fun E ρ h H x ws Q rp wx ww gd => by
  unfold kExtend at gd
  split at gd
  · split at gd
    · rename_i xs ys q1 q2
      split at gd
      · rename_i hz
        obtain ⟨r1, w1⟩ := rp.lstAt q1
        obtain ⟨r2, w2⟩ := rp.lstAt q2
        refine ⟨_, _, _, _, rfl, rfl, r1, r2, by simp only [List.length_map]; exact lim_sz hz, ?_⟩
        have z := gd_set (ob' := .lst (xs ++ ys)) rp q1 rfl rfl (w1.app w2) gd trivial
        rw [show cO K ρ (.lst (xs ++ ys)) = .lst (cL K ρ xs ++ cL K ρ ys) from congrArg HO.lst List.map_append] at z
        exact z
      · exact gd.elim
    · exact gd.elim
  · exact gd.elim
/-- the first place -/
def fstAt (p : W → Bool) : List W → Option Nat
  | [] => none
  | x :: l => if p x then some 0 else (fstAt p l).map (· + 1)
theorem fstAt_ok {p : W → Bool} : ∀ {xs : List W} {j : Nat}, fstAt p xs = some j → ∃ z, xs[j]? = some z ∧ p z = true ∧ ∀ m z', m < j → xs[m]? = some z' → p z' = false
  | [], _, e => by cases e
  | x :: l, j, e => by
    unfold fstAt at e
    split at e
    · rename_i hx
      cases e
      exact ⟨x, rfl, hx, fun m z' hm => absurd hm (Nat.not_lt_zero _)⟩
    · rename_i hx
      cases q : fstAt p l with
      | none => rw [q] at e; cases e
      | some i =>
        rw [q] at e
        cases e
        obtain ⟨z, h1, h2, h3⟩ := fstAt_ok q
        refine ⟨z, h1, h2, fun m z' hm hz => ?_⟩
        cases m with
        | zero => cases hz; simpa using hx
        | succ m => exact h3 m z' (Nat.lt_of_succ_lt_succ hm) hz
def kIndex (x : W) (ws : List W) (h : Mh) : R W := match ws with
  | [y] => match seqL h x with
    | some xs => if flatW y && xs.all flatW then (match fstAt (fun z => eqW z y) xs with
      | some j => .ok (.int j) h
      | none => .no) else .no
    | none => .no
  | _ => .no
theorem mm_index : MtMc K (rIndex K) kIndex := fun E ρ h H x ws Q rp wx ww gd => by
  unfold kIndex at gd
  split at gd
  · rename_i y
    split at gd
    · rename_i xs q
      split at gd
      · rename_i hz
        split at gd
        · rename_i j hj
          obtain ⟨i, rfl, _, s, _⟩ := seqL_ok rp q
          obtain ⟨z1, z2⟩ := Bool.and_eq_true_iff.mp hz
          obtain ⟨z, g1, g2, g3⟩ := fstAt_ok hj
          have fl : ∀ {n : Nat} {v : W}, xs[n]? = some v → flatW v = true := fun e => List.all_eq_true.mp z2 _ (List.mem_of_getElem? e)
          refine ⟨_, _, _, j, cV K ρ z, rfl, rfl, s, flatW_c z1, all_flat z2, by rw [List.getElem?_map, g1] <;> rfl, by rw [eqW_c (fl g1) z1]; exact g2, fun m z' hm hz' => ?_, gd_ok rp gd trivial⟩
          rw [List.getElem?_map] at hz'
          cases qm : xs[m]? with
          | none => rw [qm] at hz'; cases hz'
          | some v =>
            rw [qm] at hz'
            cases hz'
            rw [eqW_c (fl qm) z1]
            exact g3 m v hm qm
        · exact gd.elim
      · exact gd.elim
    · exact gd.elim
  · exact gd.elim
end
/-! ### targets: tuples, lists, places -/
abbrev MGs := List W → MSt → Mh → Option (MSt × Mh)
def lGs (K : Frag) (g : MGs) : TGs := fun vs σV H Q => ∃ ρ h σ ws, Rep K ρ h H ∧ WfS h.length σ ∧ WfL h.length ws ∧ σV = cS K ρ σ ∧ vs = cL K ρ ws ∧
  match g ws σ h with
  | some (σ', h') => ∀ ρ' H', ρ <+: ρ' → Rep K ρ' h' H' → WfS h'.length σ' → Q (cS K ρ' σ') H'
  | none => False
def gsNil : MGs := fun ws σ h => match ws with
  | [] => some (σ, h)
  | _ => none
def gsCons (g : MGx) (gs : MGs) : MGs := fun ws σ h => match ws with
  | w :: r => match g w σ h with
    | some (σ', h') => gs r σ' h'
    | none => none
  | [] => none
/-- (a, b, ..) = a tuple or a list of that length -/
def gTp (n : Nat) (gs : MGs) : MGx := fun w σ h => match seqA h w with
  | some xs => if xs.length = n then gs xs σ h else none
  | none => none
section
variable {X : Cx} {K : Frag} {Wx : WX} {e : Expr} {es : List Expr} {pos : Pos} {g : MGx} {gs : MGs}
abbrev MGss (X : Cx) (es : List Expr) (g : MGs) : Prop := PGs X es (lGs X.K g)
theorem pgsI {t t' : TGs} (hh : PGs X es t) (f : ∀ v σ H Q, t' v σ H Q → t v σ H Q) : PGs X es t' := ⟨fun pins s σ H v u Q I r q => hh.run pins s σ H v u Q I r (f v σ H Q q)⟩
theorem mgs_nil : MGss X [] gsNil := pgsI pgs_nil fun vs σV H Q ⟨ρ, h, σ, ws, rp, wf, ww, e1, e2, q⟩ => by
  subst e1 e2
  cases ws with
  | nil => exact ⟨rfl, q ρ H pre_rfl rp wf⟩
  | cons w l => exact q.elim
theorem mgs_cons (h1 : MG X e g) (h2 : MGss X es gs) (hs : (assignEach (e :: es) X.env).map (·.2) = assign e X.env :: (assignEach es X.env).map (·.2) := by rfl) : MGss X (e :: es) (gsCons g gs) := pgsI (pgs_cons h1 h2 hs) fun vs σV H Q ⟨ρ, h, σ, ws, rp, wf, ww, e1, e2, q⟩ => by
  subst e1 e2
  cases ws with
  | nil => exact q.elim
  | cons w l =>
    refine ⟨_, _, rfl, ρ, h, σ, w, rp, wf, ww _ List.mem_cons_self, rfl, rfl, ?_⟩
    unfold gsCons at q
    cases qg : g w σ h with
    | none => simp only [qg] at q
    | some p =>
      obtain ⟨σ', h'⟩ := p
      simp only [qg] at q
      intro ρ' H' l' r' w'
      have wl : WfL h.length l := fun z hz => ww z (List.mem_cons_of_mem _ hz)
      refine ⟨ρ', h', σ', l, r', w', wl.mono (rp.up r' l'), rfl, (cL_pre l' (by rw [rp.len]; exact wl)).symm, ?_⟩
      cases q2 : gs l σ' h' with
      | none => rw [q2] at q; exact q
      | some p2 => rw [q2] at q; exact fun ρ2 H2 l2 => q ρ2 H2 (l'.trans l2)
theorem pgOr {t t' : TG} (h1 : PG X e t) (h2 : PG X e t') : PG X e (fun v σ H Q => t v σ H Q ∨ t' v σ H Q) := ⟨fun pins s σ H v u Q I r q => q.elim (h1.run pins s σ H v u Q I r) (h2.run pins s σ H v u Q I r)⟩
theorem mg_tup {k n : Nat} (hc : X.calm = true) (hh : MGss X es gs) (hn : (assignEach es X.env).length = n := by rfl) (hst : (assignEach es X.env).findIdx? (·.1) = none := by rfl) : MG X (.Tuple es k pos) (gTp n gs) :=
  pgI (pgOr (pg_tup hc hh hn hst) (pg_unl hc hh hn hst)) fun v σV H Q ⟨ρ, h, σ, w, rp, wf, ww, e1, e2, q⟩ => by
    subst e1 e2
    unfold gTp at q
    cases qs : seqA h w with
    | none => simp only [qs] at q
    | some xs =>
      simp only [qs] at q
      obtain ⟨i, rfl, _, s, wx⟩ := seqA_ok rp qs
      by_cases hz : xs.length = n
      · rw [if_pos hz] at q
        rcases s with s | s
        · exact .inr ⟨_, _, rfl, s, by rw [List.length_map]; exact hz, ρ, h, σ, xs, rp, wf, wx, rfl, rfl, q⟩
        · exact .inl ⟨_, _, rfl, s, by rw [List.length_map]; exact hz, ρ, h, σ, xs, rp, wf, wx, rfl, rfl, q⟩
      · rw [if_neg hz] at q; exact q.elim
end
end Mc

namespace Mc
open PySem PySem.Spec PyProof.Rows L2

/-! ### stores -/
/-- xs[i] = v -/
def kStore (o i v : W) (h : Mh) : Option Mh := match o, i with
  | .ref a, .int k => match h[a]? with
    | some (.lst xs) => (match ixN xs.length k with
      | some j => some (h.set a (.lst (xs.set j v)))
      | none => none)
    | _ => none
  | _, _ => none
def rok {α : Type} : R α → Option (α × Mh)
  | .ok a h => some (a, h)
  | _ => none
def gAt (mo mi : MEx) : MGx := fun w σ h => match rok (mo σ h) with
  | some (o, h1) => match rok (mi σ h1) with
    | some (i, h2) => (kStore o i w h2).map fun h3 => (σ, h3)
    | none => none
  | none => none
abbrev W0 : WX := fun _ _ _ _ => False
theorem lE_rok {K : Frag} {Wx : WX} {m : MEx} {ρ : List Addr} {h h' : Mh} {H : Hp} {σ : MSt} {w : W} {Q : VK} (rp : Rep K ρ h H) (wf : WfS h.length σ) (e : rok (m σ h) = some (w, h')) (q : ∀ ρ' H', ρ <+: ρ' → Rep K ρ' h' H' → wfV h'.length w → Q (cV K ρ' w) H') : lE K Wx m (cS K ρ σ) H Q := by
  refine ⟨ρ, h, σ, rp, wf, rfl, ?_⟩
  cases r : m σ h with
  | ok a h2 => rw [r] at e; cases e; exact q
  | ex x h2 => rw [r] at e; cases e
  | no => rw [r] at e; cases e
section
variable {X : Cx} {Wx : WX} {K : Frag} {o i e : Expr} {mo mi m : MEx} {pos : Pos}
theorem WfL.set {n j : Nat} {xs : List W} {w : W} (a : WfL n xs) (b : wfV n w) : WfL n (xs.set j w) := fun z hz => by
  rcases List.mem_or_eq_of_mem_set hz with q | q
  · exact a z q
  · rw [q]; exact b
theorem kStore_ok {ρ : List Addr} {h h' : Mh} {H : Hp} {a b v : W} (rp : Rep K ρ h H) (wv : wfV h.length v) (e : kStore a b v h = some h') : ∃ p xs k j H', cV K ρ a = .ref p ∧ cV K ρ b = .int k ∧ H p = some (.lst xs) ∧ ixN xs.length k = some j ∧ H' = upd H p (.lst (xs.set j (cV K ρ v))) ∧ Rep K ρ h' H' ∧ h'.length = h.length := by
  unfold kStore at e
  split at e
  · split at e
    · rename_i a k _ xs q
      split at e
      · rename_i j hj
        cases e
        obtain ⟨r1, w1⟩ := rp.lstAt q
        refine ⟨_, _, k, j, _, rfl, rfl, r1, by rw [List.length_map]; exact hj, rfl, ?_, List.length_set⟩
        have z := rp.set (o' := .lst (xs.set j v)) q rfl rfl (w1.set wv)
        rw [show cO K ρ (.lst (xs.set j v)) = .lst ((cL K ρ xs).set j (cV K ρ v)) from congrArg HO.lst List.map_set] at z
        exact z
      · cases e
    · cases e
  · cases e
theorem mg_at (ho : ME X.nox W0 o mo) (hi : ME X.nox W0 i mi)
    (ha : ∀ v, assign (.Subscript o i pos) X.env v = (do
      let ov ← holding [v] (eval o X.env)
      let iv ← holding [v, ov] (eval i X.env)
      standAt pos
      holding [v, ov, iv] (setItem ov iv v)
      release [v, ov, iv] []) := by intro _; rfl) : MG X (.Subscript o i pos) (gAt mo mi) := pgI (pg_sub (PE.nox ho) (PE.nox hi) set_list ha) fun v σV H Q ⟨ρ, h, σ, w, rp, wf, ww, e1, e2, q⟩ => by
  subst e1 e2
  unfold gAt at q
  cases q1 : rok (mo σ h) with
  | none => simp only [q1] at q
  | some p1 =>
    obtain ⟨a, h1⟩ := p1
    simp only [q1] at q
    cases q2 : rok (mi σ h1) with
    | none => simp only [q2] at q
    | some p2 =>
      obtain ⟨b, h2⟩ := p2
      simp only [q2] at q
      cases q3 : kStore a b w h2 with
      | none => simp only [q3, Option.map] at q
      | some h3 =>
        simp only [q3, Option.map] at q
        refine lE_rok rp wf q1 fun ρ1 H1 l1 r1 wa => ?_
        rw [← cS_pre l1 (rp.wfS wf)]
        refine lE_rok r1 (wf.mono (rp.up r1 l1)) q2 fun ρ2 H2 l2 r2 wb => ?_
        rw [← r1.cv l2 wa, ← rp.cv (l1.trans l2) ww]
        obtain ⟨p, xs, k, j, H3, z1, z2, z3, z4, z5, z6, z7⟩ := kStore_ok r2 (ww.mono (rp.up r2 (l1.trans l2))) q3
        refine ⟨p, xs, k, j, z1, z2, z3, z4, ?_⟩
        have w3 : WfS h3.length σ := by rw [z7]; exact wf.mono (rp.up r2 (l1.trans l2))
        have fin := q ρ2 H3 (l1.trans l2) z6 w3
        rw [cS_pre l2 (r1.wfS (wf.mono (rp.up r1 l1))), z5] at fin
        exact fin
/-- x op= e -/
def sAug (i : Nat) (k : W → W → Mh → R W) (m : MEx) : MSx := fun σ h => match σ[i]? with
  | some (some x) => (m σ h).stm σ fun y h1 => (k x y h1).stm σ fun z h2 => some (.nx (σ.set i (some z)), h2)
  | _ => none
theorem ms_aug {j : Nat} {x : Str} {op : Operator} {ti : TIp} {k : W → W → Mh → R W} {pos' : Pos} (hN : X.N.Nodup) (he : ME X Wx e m) (ho : PIp X op ti) (hk : OpM X.K ti k) (hi : X.N[j]? = some x := by rfl) (hx : Loc X.env.scope x := by first | exact Or.inl rfl | exact Or.inr rfl)
    (hf : X.fn x = true ∨ X.env.scope.names.lookup x = some .local := by first | exact .inl rfl | exact .inr rfl | assumption) : MS X Wx (.AugAssign (.Name x pos') op e pos) (sAug j k m) := psI (ps_aug hN hi hx he ho hf) fun D σV H ⟨ρ, h, σ, rp, wf, hs, g⟩ => by
  subst hs
  unfold sAug at g
  split at g
  · rename_i v hv
    have wv : wfV h.length v := wf v (List.mem_of_getElem? hv)
    have w0 := rp.wfS wf
    refine ⟨cV X.K ρ v, by rw [List.getElem?_map, hv] <;> rfl, ρ, h, σ, rp, wf, rfl, (GdS.stm rp w0 g (Nat.le_refl _)).imp fun ρ1 h1 y H1 l1 r1 wy g1 => ?_⟩
    have w1 : WfS h1.length σ := wf.mono (rp.up r1 l1)
    rw [← rp.cv l1 wv]
    refine hk _ ρ1 h1 H1 v y _ r1 (wv.mono (rp.up r1 l1)) wy ((GdS.stm r1 (r1.wfS w1) g1 (Nat.le_refl _)).imp fun ρ2 h2 z H2 l2 r2 wz g2 => ?_)
    have fin := g2 ρ2 H2 pre_rfl r2 ((w1.mono (r1.up r2 l2)).set wz)
    rw [cS_set, cS_pre (l1.trans l2) w0] at fin
    exact fin
  · exact g.elim
theorem om_ipI {f : Int → Int → Int} : OpM K (ipI f) (iOp fun i j => .int (f i j)) := fun E ρ h H x y Q rp wx wy gd => by
  cases x with
  | int i =>
    cases y with
    | int j => exact ⟨i, j, rfl, rfl, gd_ok rp gd trivial⟩
    | _ => exact gd.elim
  | _ => exact gd.elim
/-- xs[i] op= e, a list and a place from its beginning -/
def kGetL (a b : W) (h : Mh) : R W := match b with
  | .int i => if 0 ≤ i then (match seqL h a with
    | some xs => (match xs[i.toNat]? with
      | some v => .ok v h
      | none => .no)
    | none => .no) else .no
  | _ => .no
def rGetL (K : Frag) : R2 := fun x y H Q => ∃ p xs i v, x = .ref p ∧ y = .int i ∧ 0 ≤ i ∧ SqL K H p xs ∧ xs[i.toNat]? = some v ∧ Q v H
theorem pget_list : PGet X (rGetL X.K) := fun pins s σ H x y v u Q I rx ry h => by
  obtain ⟨p, xs, i, z, rfl, rfl, h0, hq, he, q⟩ := h
  cases rx
  obtain ⟨t, rfl⟩ := ry
  obtain ⟨its, r, pl, hz⟩ := I.list hq
  obtain ⟨w, ew, rw'⟩ := r.get he
  have hl := r.length
  have hlt := (List.getElem?_eq_some_iff.mp he).1
  have hn := line63
  exact wpAny_getItem_list pl.isList h0 (by omega) (by simpa using ew) ⟨z, H, I, rw', q⟩
theorem om_getL : OpM K (rGetL K) kGetL := fun E ρ h H x y Q rp wx wy gd => by
  unfold kGetL at gd
  split at gd
  · split at gd
    · rename_i h0
      split at gd
      · rename_i xs q
        split at gd
        · rename_i v hv
          obtain ⟨j, rfl, _, s, ww⟩ := seqL_ok rp q
          exact ⟨_, _, _, _, rfl, rfl, h0, s, by rw [List.getElem?_map, hv] <;> rfl, gd_ok rp gd (ww _ (List.mem_of_getElem? hv))⟩
        · exact gd.elim
      · exact gd.elim
    · exact gd.elim
  · exact gd.elim
def sAugS (k : W → W → Mh → R W) (mo mi m : MEx) : MSx := fun σ h => (mo σ h).stm σ fun a h1 => (mi σ h1).stm σ fun b h2 => (kGetL a b h2).stm σ fun x h3 => (m σ h3).stm σ fun y h4 => (k x y h4).stm σ fun z h5 => match kStore a b z h5 with
  | some h6 => some (.nx σ, h6)
  | none => none
theorem ms_augS {op : Operator} {ti : TIp} {k : W → W → Mh → R W} {tpos : Pos} (ho : ME X Wx o mo) (hi : ME X Wx i mi) (he : ME X Wx e m) (hp : PIp X op ti) (hk : OpM X.K ti k)
    (ha : ∀ ov iv new, augStore i ov iv new = (do holding [new, ov, iv] (setItem ov iv new); release [new, ov, iv] []; pure .next) := by intros; rfl) : MS X Wx (.AugAssign (.Subscript o i tpos) op e pos) (sAugS k mo mi m) :=
  psI (ps_augS ho hi pget_list he hp set_list ha) fun D σV H ⟨ρ, h, σ, rp, wf, hs, g⟩ => by
    subst hs
    have w0 := rp.wfS wf
    refine ⟨ρ, h, σ, rp, wf, rfl, (GdS.stm rp w0 g (Nat.le_refl _)).imp fun ρ1 h1 a H1 l1 r1 wa g1 => ?_⟩
    have w1 : WfS h1.length σ := wf.mono (rp.up r1 l1)
    have e1 := cS_pre (K := X.K) l1 w0
    rw [← e1]
    refine ⟨ρ1, h1, σ, r1, w1, rfl, (GdS.stm r1 (r1.wfS w1) g1 (Nat.le_refl _)).imp fun ρ2 h2 b H2 l2 r2 wb g2 => ?_⟩
    have w2 : WfS h2.length σ := w1.mono (r1.up r2 l2)
    have e2 := cS_pre (K := X.K) l2 (r1.wfS w1)
    have wa2 := wa.mono (r1.up r2 l2)
    rw [← r1.cv l2 wa]
    refine om_getL _ ρ2 h2 H2 a b _ r2 wa2 wb ((GdS.stm r2 (r2.wfS w2) g2 (Nat.le_refl _)).imp fun ρ3 h3 x H3 l3 r3 wx g3 => ?_)
    have w3 : WfS h3.length σ := w2.mono (r2.up r3 l3)
    have e3 := cS_pre (K := X.K) l3 (r2.wfS w2)
    rw [← e2, ← e3]
    refine ⟨ρ3, h3, σ, r3, w3, rfl, (GdS.stm r3 (r3.wfS w3) g3 (Nat.le_refl _)).imp fun ρ4 h4 y H4 l4 r4 wy g4 => ?_⟩
    have w4 : WfS h4.length σ := w3.mono (r3.up r4 l4)
    have e4 := cS_pre (K := X.K) l4 (r3.wfS w3)
    rw [← r3.cv l4 wx]
    refine hk _ ρ4 h4 H4 x y _ r4 (wx.mono (r3.up r4 l4)) wy ((GdS.stm r4 (r4.wfS w4) g4 (Nat.le_refl _)).imp fun ρ5 h5 z H5 l5 r5 wz g5 => ?_)
    have w5 : WfS h5.length σ := w4.mono (r4.up r5 l5)
    have e5 := cS_pre (K := X.K) l5 (r4.wfS w4)
    cases q : kStore a b z h5 with
    | none => rw [q] at g5; exact g5.elim
    | some h6 =>
      rw [q] at g5
      have l25 := (l3.trans l4).trans l5
      rw [← r2.cv l25 wa2, ← r2.cv l25 wb]
      obtain ⟨p, xs, kk, j, H6, z1, z2, z3, z4, z5, z6, z7⟩ := kStore_ok r5 wz q
      refine ⟨p, xs, kk, j, z1, z2, z3, z4, ?_⟩
      have fin := g5 ρ5 H6 pre_rfl z6 (by rw [z7]; exact w5)
      rw [e5, e4, z5] at fin
      exact fin
end

/-! ### a, b = x, y -/
def sPar (is : List Nat) (m : MAx) : MSx := fun σ h => (m σ h).stm σ fun ws h1 => if ws.length = is.length then some (.nx ((is.zip ws).foldl (fun τ p => τ.set p.1 (some p.2)) σ), h1) else none
section
variable {X : Cx} {Wx : WX} {a b c : Expr} {m : MAx} {pos px py pz pt : Pos} {i j l : Nat} {x y z : Str} {kt k2 : Nat} {pt2 : Pos}
theorem ms_par2 (hc : X.calm = true) (hN : X.N.Nodup) (hi : X.N[i]? = some x) (hj : X.N[j]? = some y) (hij : i ≠ j) (hx : X.env.scope.names.lookup x = some .local) (hy : X.env.scope.names.lookup y = some .local) (ha : MA X Wx [a, b] m)
    (hw : swappedStores [.Tuple [.Name x px, .Name y py] kt pt] (.Tuple [a, b] k2 pt2) X.env = pure (some [x, y])) (hs : swapsWithSole [.Tuple [.Name x px, .Name y py] kt pt] (.Tuple [a, b] k2 pt2) pos.line X.env = pure false := by rfl) :
    MS X Wx (.Assign [.Tuple [.Name x px, .Name y py] kt pt] (.Tuple [a, b] k2 pt2) pos) (sPar [i, j] m) := psI (ps_par hc hN hi hj hij hx hy ha hw hs) fun D σV H ⟨ρ, h, σ, rp, wf, hs, g⟩ => by
  subst hs
  have w0 := rp.wfS wf
  refine ⟨ρ, h, σ, rp, wf, rfl, (GdS.stm rp w0 g (Nat.le_refl _)).imp fun ρ1 h1 ws H1 l1 r1 ww g1 => ?_⟩
  split at g1
  · rename_i hl
    match ws, hl with
    | [u, v], _ =>
      have w1 : WfS h1.length σ := wf.mono (rp.up r1 l1)
      have q := g1 ρ1 H1 pre_rfl r1 ((w1.set (ww u (by simp))).set (ww v (by simp)))
      refine ⟨_, _, rfl, ?_⟩
      have e : cS X.K ρ1 ((σ.set i (some u)).set j (some v)) = ((cS X.K ρ σ).set i (some (cV X.K ρ1 u))).set j (some (cV X.K ρ1 v)) := by rw [cS_set, cS_set, cS_pre l1 w0]
      rw [← e]
      exact q
  · exact g1.elim
theorem ms_par3 (hc : X.calm = true) (hN : X.N.Nodup) (hi : X.N[i]? = some x) (hj : X.N[j]? = some y) (hl : X.N[l]? = some z) (hij : i ≠ j) (hil : i ≠ l) (hjl : j ≠ l) (hx : X.env.scope.names.lookup x = some .local) (hy : X.env.scope.names.lookup y = some .local) (hz : X.env.scope.names.lookup z = some .local) (ha : MA X Wx [a, b, c] m)
    (hw : swappedStores [.Tuple [.Name x px, .Name y py, .Name z pz] kt pt] (.Tuple [a, b, c] k2 pt2) X.env = pure (some [x, y, z])) (hs : swapsWithSole [.Tuple [.Name x px, .Name y py, .Name z pz] kt pt] (.Tuple [a, b, c] k2 pt2) pos.line X.env = pure false := by rfl) :
    MS X Wx (.Assign [.Tuple [.Name x px, .Name y py, .Name z pz] kt pt] (.Tuple [a, b, c] k2 pt2) pos) (sPar [i, j, l] m) := psI (ps_par3 hc hN hi hj hl hij hil hjl hx hy hz ha hw hs) fun D σV H ⟨ρ, h, σ, rp, wf, hs, g⟩ => by
  subst hs
  have w0 := rp.wfS wf
  refine ⟨ρ, h, σ, rp, wf, rfl, (GdS.stm rp w0 g (Nat.le_refl _)).imp fun ρ1 h1 ws H1 l1 r1 ww g1 => ?_⟩
  split at g1
  · rename_i hl
    match ws, hl with
    | [u, v, w], _ =>
      have w1 : WfS h1.length σ := wf.mono (rp.up r1 l1)
      have q := g1 ρ1 H1 pre_rfl r1 (((w1.set (ww u (by simp))).set (ww v (by simp))).set (ww w (by simp)))
      refine ⟨_, _, _, rfl, ?_⟩
      have e : cS X.K ρ1 (((σ.set i (some u)).set j (some v)).set l (some w)) = (((cS X.K ρ σ).set i (some (cV X.K ρ1 u))).set j (some (cV X.K ρ1 v))).set l (some (cV X.K ρ1 w)) := by rw [cS_set, cS_set, cS_set, cS_pre l1 w0]
      rw [← e]
      exact q
  · exact g1.elim
end
end Mc

namespace Mc
open PySem PySem.Spec PyProof.Rows L2

/-! ### what is walked -/
/-- n turns; the item at a turn and the heap behind it; whether all stands at the end -/
structure ItM where
  n : Nat
  at_ : Nat → Mh → Option (W × Mh)
  fin : Mh → Bool
structure ItR (K : Frag) (ρ0 : List Addr) (J : ItM) (V : It) : Prop where
  go : ∀ (i : Nat) (ρ : List Addr) (h h' : Mh) (H : Hp) (w : W), i < J.n → ρ0 <+: ρ → Rep K ρ h H → J.at_ i h = some (w, h') → V.go i H ∧ ∀ x H', V.yld i H x H' → ∃ ρ', ρ <+: ρ' ∧ Rep K ρ' h' H' ∧ wfV h'.length w ∧ x = cV K ρ' w ∧ h.length ≤ h'.length
  stop : ∀ (ρ : List Addr) (h : Mh) (H : Hp), ρ0 <+: ρ → Rep K ρ h H → J.fin h = true → V.stop J.n H
abbrev MIx := MSt → Mh → R ItM
def lI (K : Frag) (Wx : WX) (m : MIx) : TI := fun σV H Q => ∃ ρ h σ, Rep K ρ h H ∧ WfS h.length σ ∧ σV = cS K ρ σ ∧ Gd K (fun c d H' => Wx c d σV H') ρ (fun _ _ => True) (m σ h) fun ρ' _ J H' => ∀ V, ItR K ρ' J V → Q V H'
abbrev MI (X : Cx) (Wx : WX) (tg iter : Expr) (m : MIx) : Prop := PI X tg iter (lI X.K Wx m)
theorem piI {X : Cx} {tg iter : Expr} {t t' : TI} (hh : PI X tg iter t) (f : ∀ σ H Q, t' σ H Q → t σ H Q) : PI X tg iter t' := ⟨fun pins s σ H R I q => hh.run pins s σ H R I (f σ H R q)⟩
theorem piOr {X : Cx} {tg iter : Expr} {t t' : TI} (h1 : PI X tg iter t) (h2 : PI X tg iter t') : PI X tg iter (fun σ H Q => t σ H Q ∨ t' σ H Q) := ⟨fun pins s σ H R I q => q.elim (h1.run pins s σ H R I) (h2.run pins s σ H R I)⟩
/-- a list at a that stays | a tuple | a range -/
def jSeq (a : W) (xs : List W) : ItM := ⟨xs.length, fun i h => if seqL h a = some xs then (xs[i]?).map fun w => (w, h) else none, fun h => decide (seqL h a = some xs)⟩
def jTup (a : W) (xs : List W) : ItM := ⟨xs.length, fun i h => if seqT h a = some xs then (xs[i]?).map fun w => (w, h) else none, fun h => decide (seqT h a = some xs)⟩
def jRng (lo : Int) (n : Nat) : ItM := ⟨n, fun i h => some (.int (lo + i), h), fun _ => true⟩
def iSeq (m : MEx) : MIx := fun σ h => (m σ h).bind fun w h' => match seqL h' w with
  | some xs => .ok (jSeq w xs) h'
  | none => match seqT h' w with
    | some xs => .ok (jTup w xs) h'
    | none => .no
def inR (i : Int) : Bool := decide (-1000000000 ≤ i) && decide (i ≤ 1000000000)
def iRg1 (m : MAx) : MIx := fun σ h => (m σ h).bind fun ws h' => match ws with
  | [.int j] => if inR j then .ok (jRng 0 j.toNat) h' else .no
  | _ => .no
def iRg2 (m : MAx) : MIx := fun σ h => (m σ h).bind fun ws h' => match ws with
  | [.int i, .int j] => if inR i && inR j then .ok (jRng i (j - i).toNat) h' else .no
  | _ => .no
section
variable {X : Cx} {K : Frag} {Wx : WX} {tg e a b : Expr} {m : MEx} {ma : MAx} {p pos : Pos}
theorem itr_seq {ρ0 ρ1 : List Addr} {h0 : Mh} {H0 : Hp} {j : Nat} {xs : List W} (r0 : Rep K ρ0 h0 H0) (hj : j < h0.length) : ItR K ρ0 (jSeq (.ref j) xs) (Itl K (ρ0.getD j 0)) := by
  refine ⟨fun i ρ h h' H w hi l r e => ?_, fun ρ h H l r e => ?_⟩
  · have e : (if seqL h (.ref j) = some xs then (xs[i]?).map fun w => (w, h) else none) = some (w, h') := e
    split at e
    · rename_i q
      obtain ⟨_, ⟨⟩, _, s, ww⟩ := seqL_ok r q
      rw [getD_pre l (by rw [r0.len]; exact hj)] at s
      cases qx : xs[i]? with
      | none => rw [qx] at e; cases e
      | some v =>
        rw [qx] at e
        cases e
        refine ⟨⟨_, _, s, by rw [List.getElem?_map, qx] <;> rfl⟩, fun x H' hy => ?_⟩
        obtain ⟨rfl, hx⟩ := hy
        have hx := hx _ s
        rw [List.getElem?_map, qx] at hx
        exact ⟨ρ, pre_rfl, r, ww _ (List.mem_of_getElem? qx), (Option.some.inj hx).symm, Nat.le_refl _⟩
    · cases e
  · have q : seqL h (.ref j) = some xs := of_decide_eq_true e
    obtain ⟨_, ⟨⟩, _, s, ww⟩ := seqL_ok r q
    rw [getD_pre l (by rw [r0.len]; exact hj)] at s
    exact ⟨_, s, by rw [List.length_map]; exact Nat.le_refl _⟩
theorem itr_tup {ρ0 ρ1 : List Addr} {h0 : Mh} {H0 : Hp} {j : Nat} {xs : List W} (r0 : Rep K ρ0 h0 H0) (hj : j < h0.length) : ItR K ρ0 (jTup (.ref j) xs) (Itt K (ρ0.getD j 0)) := by
  refine ⟨fun i ρ h h' H w hi l r e => ?_, fun ρ h H l r e => ?_⟩
  · have e : (if seqT h (.ref j) = some xs then (xs[i]?).map fun w => (w, h) else none) = some (w, h') := e
    split at e
    · rename_i q
      obtain ⟨_, ⟨⟩, _, s, ww⟩ := seqT_ok r q
      rw [getD_pre l (by rw [r0.len]; exact hj)] at s
      cases qx : xs[i]? with
      | none => rw [qx] at e; cases e
      | some v =>
        rw [qx] at e
        cases e
        refine ⟨⟨_, _, s, by rw [List.getElem?_map, qx] <;> rfl⟩, fun x H' hy => ?_⟩
        obtain ⟨rfl, hx⟩ := hy
        have hx := hx _ s
        rw [List.getElem?_map, qx] at hx
        exact ⟨ρ, pre_rfl, r, ww _ (List.mem_of_getElem? qx), (Option.some.inj hx).symm, Nat.le_refl _⟩
    · cases e
  · have q : seqT h (.ref j) = some xs := of_decide_eq_true e
    obtain ⟨_, ⟨⟩, _, s, ww⟩ := seqT_ok r q
    rw [getD_pre l (by rw [r0.len]; exact hj)] at s
    exact ⟨_, s, by rw [List.length_map]; exact Nat.le_refl _⟩
theorem itr_rng {ρ0 : List Addr} {lo : Int} {n : Nat} : ItR K ρ0 (jRng lo n) (Itr lo n) :=
  ⟨fun i ρ h h' H w hi l r e => by
    cases e
    exact ⟨hi, fun x H' hy => ⟨ρ, pre_rfl, by rw [hy.1]; exact r, trivial, hy.2, Nat.le_refl _⟩⟩, fun ρ h H l r e => Nat.le_refl _⟩
theorem mi_seq (he : ME X Wx e m) : MI X Wx tg e (iSeq m) := piI (piOr (pi_list he) (pi_tup he)) fun σV H Q ⟨ρ, h, σ, rp, wf, hs, g⟩ => by
  subst hs
  unfold iSeq at g
  cases q : m σ h with
  | no => rw [q] at g; exact g.elim
  | ex x h' =>
    rw [q] at g
    exact .inl ⟨ρ, h, σ, rp, wf, rfl, by rw [q]; exact g⟩
  | ok w h' =>
    rw [q] at g
    have g : Gd X.K _ ρ _ (match seqL h' w with
      | some xs => R.ok (jSeq w xs) h'
      | none => match seqT h' w with
        | some xs => R.ok (jTup w xs) h'
        | none => R.no) _ := g
    cases q1 : seqL h' w with
    | some xs =>
      rw [q1] at g
      refine .inl ⟨ρ, h, σ, rp, wf, rfl, ?_⟩
      rw [q]
      intro ρ' H' l' r' ww
      obtain ⟨j, rfl, _, s, _⟩ := seqL_ok r' q1
      exact ⟨_, rfl, ⟨_, s⟩, g ρ' H' l' r' trivial _ (itr_seq (ρ1 := ρ') r' ww)⟩
    | none =>
      rw [q1] at g
      cases q2 : seqT h' w with
      | none => simp only [q2] at g; exact g.elim
      | some xs =>
        simp only [q2] at g
        refine .inr ⟨ρ, h, σ, rp, wf, rfl, ?_⟩
        rw [q]
        intro ρ' H' l' r' ww
        obtain ⟨j, rfl, _, s, _⟩ := seqT_ok r' q2
        exact ⟨_, rfl, ⟨_, s⟩, g ρ' H' l' r' trivial _ (itr_tup (ρ1 := ρ') r' ww)⟩
theorem inR_ok {i : Int} (h : inR i = true) : -(2 ^ 62) ≤ i ∧ i < 2 ^ 62 := by
  obtain ⟨h1, h2⟩ := Bool.and_eq_true_iff.mp h
  have h1 := of_decide_eq_true h1
  have h2 := of_decide_eq_true h2
  exact ⟨by omega, by omega⟩
theorem mi_range1 (hg : Gl X "range") (hm : X.mg "range" = none) (ha : MA X Wx [a] ma) (hs : starEach [a] X.env = [(false, eval a X.env)] := by rfl) : MI X Wx tg (.Call (.Name "range" p) [a] [] pos) (iRg1 ma) := piI (pi_range1 hg hm ha hs) fun σV H Q ⟨ρ, h, σ, rp, wf, hs, g⟩ => by
  subst hs
  refine ⟨ρ, h, σ, rp, wf, rfl, g.bind.imp fun ρ1 h1 ws H1 l1 r1 ww g1 => ?_⟩
  split at g1
  · split at g1
    · rename_i j hz
      exact ⟨j, rfl, (inR_ok hz).1, (inR_ok hz).2, g1 ρ1 H1 pre_rfl r1 trivial _ itr_rng⟩
    · exact g1.elim
  · exact g1.elim
theorem mi_range2 (hg : Gl X "range") (hm : X.mg "range" = none) (ha : MA X Wx [a, b] ma) (hs : starEach [a, b] X.env = [(false, eval a X.env), (false, eval b X.env)] := by rfl) (hs2 : starEach [b] X.env = [(false, eval b X.env)] := by rfl) :
    MI X Wx tg (.Call (.Name "range" p) [a, b] [] pos) (iRg2 ma) := piI (pi_range2 hg hm ha hs hs2) fun σV H Q ⟨ρ, h, σ, rp, wf, hs, g⟩ => by
  subst hs
  refine ⟨ρ, h, σ, rp, wf, rfl, g.bind.imp fun ρ1 h1 ws H1 l1 r1 ww g1 => ?_⟩
  split at g1
  · split at g1
    · rename_i i j hz
      obtain ⟨z1, z2⟩ := Bool.and_eq_true_iff.mp hz
      exact ⟨i, j, rfl, ⟨(inR_ok z1).1, (inR_ok z1).2, (inR_ok z2).1, (inR_ok z2).2⟩, g1 ρ1 H1 pre_rfl r1 trivial _ itr_rng⟩
    · exact g1.elim
  · exact g1.elim
end

/-! ### for -/
def loopM (J : ItM) (g : MGx) (b : MSx) : Nat → Nat → MSt → Mh → MR
  | 0, _, σ, h => if J.fin h then some (.nx σ, h) else none
  | n + 1, i, σ, h => match J.at_ i h with
    | none => none
    | some (w, h1) => match g w σ h1 with
      | none => none
      | some (σ1, h2) => match b σ1 h2 with
        | some (.nx σ2, h3) => loopM J g b n (i + 1) σ2 h3
        | some (.ct σ2, h3) => loopM J g b n (i + 1) σ2 h3
        | some (.bk σ2, h3) => some (.nx σ2, h3)
        | r => r
def sFor (mi : MIx) (g : MGx) (b : MSx) : MSx := fun σ h => (mi σ h).stm σ fun J h1 => loopM J g b J.n 0 σ h1
section
variable {X : Cx} {Wx : WX} {tg iter : Expr} {body : List Stmt} {mi : MIx} {g : MGx} {b : MSx} {pos : Pos}
theorem ms_for (hp : PassesOwn (model X.prog X.w) X.A X.env X.xe) (hc : X.calm = true) (hi : MI X Wx tg iter mi) (hg : MG X tg g) (hb : MSs X Wx body b) (hs : ∀ x, foldedSetIterable iter X.env x = pure x := by intro _; rfl) : MS X Wx (.For tg iter body [] pos) (sFor mi g b) :=
  psI (ps_for hp hc hi hg hb hs) fun D σV H ⟨ρ, h, σ, rp, wf, hs, g0⟩ => by
    subst hs
    refine ⟨ρ, h, σ, rp, wf, rfl, (GdS.stm rp (rp.wfS wf) g0 (Nat.le_refl _)).imp fun ρ1 h1 J H1 l1 r1 _ g1 V hV => ?_⟩
    refine ⟨fun i n σ' H' => ∃ ρ' h' τ, ρ1 <+: ρ' ∧ Rep X.K ρ' h' H' ∧ WfS h'.length τ ∧ σ' = cS X.K ρ' τ ∧ i + n = J.n ∧ GdS X.K Wx D ρ' (loopM J g b n i τ h'), ⟨J.n, ρ1, h1, σ, pre_rfl, r1, wf.mono (rp.up r1 l1), (cS_pre l1 (rp.wfS wf)).symm, Nat.zero_add _, g1⟩, ?_⟩
    rintro i n _ H' ⟨ρ', h', τ, l', r', wτ, rfl, hn, g'⟩
    cases n with
    | zero =>
      unfold loopM at g'
      split at g'
      · rename_i hf
        have ei : i = J.n := hn
        subst ei
        exact .inl ⟨hV.stop ρ' h' H' l' r' hf, g' ρ' H' pre_rfl r' wτ⟩
      · exact g'.elim
    | succ n =>
      unfold loopM at g'
      cases qa : J.at_ i h' with
      | none => rw [qa] at g'; exact g'.elim
      | some p =>
        obtain ⟨w, h2⟩ := p
        rw [qa] at g'
        obtain ⟨hgo, hyl⟩ := hV.go i ρ' h' h2 H' w (by omega) l' r' qa
        refine .inr ⟨hgo, fun σ' H'' => ∃ ρ' h' τ, ρ1 <+: ρ' ∧ Rep X.K ρ' h' H'' ∧ WfS h'.length τ ∧ σ' = cS X.K ρ' τ ∧ i + 1 + n = J.n ∧ GdS X.K Wx D ρ' (loopM J g b n (i + 1) τ h'), fun σ' H'' hN => ⟨n, Nat.lt_succ_self n, hN⟩, fun x H2 hy => ?_⟩
        obtain ⟨ρ2, l2, r2, ww, rfl, hle⟩ := hyl x H2 hy
        refine ⟨ρ2, h2, τ, w, r2, wτ.mono hle, ww, (cS_pre l2 (r'.wfS wτ)).symm, rfl, ?_⟩
        simp only at g'
        cases qg : g w τ h2 with
        | none => rw [qg] at g'; exact g'.elim
        | some p2 =>
          obtain ⟨σ1, h3⟩ := p2
          rw [qg] at g'
          simp only at g' ⊢
          intro ρ3 H3 l3 r3 w3
          refine ⟨ρ3, h3, σ1, r3, w3, rfl, ?_⟩
          cases qb : b σ1 h3 with
          | none => rw [qb] at g'; exact g'.elim
          | some p3 =>
            obtain ⟨f, h4⟩ := p3
            rw [qb] at g'
            have lA : ρ1 <+: ρ3 := (l'.trans l2).trans l3
            cases f with
            | nx σ2 => exact fun ρ4 H4 l4 r4 w4 => ⟨ρ4, h4, σ2, lA.trans l4, r4, w4, rfl, by omega, GdS.pre ((l2.trans l3).trans l4) g'⟩
            | ct σ2 => exact fun ρ4 H4 l4 r4 w4 => ⟨ρ4, h4, σ2, lA.trans l4, r4, w4, rfl, by omega, GdS.pre ((l2.trans l3).trans l4) g'⟩
            | bk σ2 => exact fun ρ4 H4 l4 r4 w4 => g' ρ4 H4 ((l2.trans l3).trans l4) r4 w4
            | rt v => exact fun ρ4 H4 l4 r4 w4 => g' ρ4 H4 ((l2.trans l3).trans l4) r4 w4
            | xc x σ2 => exact fun ρ4 H4 l4 r4 w4 => g' ρ4 H4 ((l2.trans l3).trans l4) r4 w4
/-! ### while -/
def whileM (c : MTx) (b : MSx) : Nat → MSt → Mh → MR
  | 0, _, _ => none
  | n + 1, σ, h => (c σ h).stm σ fun k h1 => if k then (match b σ h1 with
    | some (.nx σ2, h3) => whileM c b n σ2 h3
    | some (.ct σ2, h3) => whileM c b n σ2 h3
    | some (.bk σ2, h3) => some (.nx σ2, h3)
    | r => r) else some (.nx σ, h1)
def sWhile (c : MTx) (b : MSx) : MSx := whileM c b lim
theorem ms_while {c : Expr} {mc : MTx} (hp : PassesOwn (model X.prog X.w) X.A X.env X.xe) (hc : MT X Wx c mc) (hb : MSs X Wx body b) : MS X Wx (.While c body [] pos) (sWhile mc b) :=
  psI (ps_while hp hc hb) fun D σV H ⟨ρ, h, σ, rp, wf, hs, g0⟩ => by
    subst hs
    refine ⟨fun n σ' H' => ∃ ρ' h' τ, Rep X.K ρ' h' H' ∧ WfS h'.length τ ∧ σ' = cS X.K ρ' τ ∧ GdS X.K Wx D ρ' (whileM mc b n τ h'), ⟨lim, ρ, h, σ, rp, wf, rfl, g0⟩, ?_⟩
    rintro n _ H' ⟨ρ', h', τ, r', wτ, rfl, g'⟩
    cases n with
    | zero => exact g'.elim
    | succ n =>
      unfold whileM at g'
      refine ⟨ρ', h', τ, r', wτ, rfl, (GdS.stm r' (r'.wfS wτ) g' (Nat.le_refl _)).imp fun ρ1 h1 k H1 l1 r1 _ g1 => ?_⟩
      have w1 : WfS h1.length τ := wτ.mono (r'.up r1 l1)
      have e1 := cS_pre (K := X.K) l1 (r'.wfS wτ)
      cases k with
      | false =>
        have fin := g1 ρ1 H1 pre_rfl r1 w1
        rw [e1] at fin
        exact fin
      | true =>
        refine ⟨fun σ' H'' => ∃ ρ' h' τ, Rep X.K ρ' h' H'' ∧ WfS h'.length τ ∧ σ' = cS X.K ρ' τ ∧ GdS X.K Wx D ρ' (whileM mc b n τ h'), fun σ' H'' hN => ⟨n, Nat.lt_succ_self n, hN⟩, ?_⟩
        rw [← e1]
        refine ⟨ρ1, h1, τ, r1, w1, rfl, ?_⟩
        have g1 : GdS X.K Wx D ρ1 (match b τ h1 with
          | some (.nx σ2, h3) => whileM mc b n σ2 h3
          | some (.ct σ2, h3) => whileM mc b n σ2 h3
          | some (.bk σ2, h3) => some (.nx σ2, h3)
          | r => r) := g1
        cases qb : b τ h1 with
        | none => rw [qb] at g1; exact g1.elim
        | some p3 =>
          obtain ⟨f, h4⟩ := p3
          rw [qb] at g1
          cases f with
          | nx σ2 => exact fun ρ4 H4 l4 r4 w4 => ⟨ρ4, h4, σ2, r4, w4, rfl, GdS.pre l4 g1⟩
          | ct σ2 => exact fun ρ4 H4 l4 r4 w4 => ⟨ρ4, h4, σ2, r4, w4, rfl, GdS.pre l4 g1⟩
          | bk σ2 => exact g1
          | rt v => exact g1
          | xc x σ2 => exact g1
end
end Mc

namespace Mc
open PySem PySem.Spec PyProof.Rows L2

/-! ### list comprehensions -/
def wip (σ : MSt) : List Nat → MSt
  | [] => σ
  | v :: vs => (wip σ vs).set v none
theorem cS_wip {K : Frag} {ρ : List Addr} (σ : MSt) : ∀ vs : List Nat, cS K ρ (wip σ vs) = wipe (cS K ρ σ) vs
  | [] => rfl
  | v :: vs => by
    show cS K ρ ((wip σ vs).set v none) = (wipe (cS K ρ σ) vs).set v none
    rw [← cS_wip σ vs]
    unfold cS
    rw [List.map_set] <;> rfl
theorem wip_set (σ : MSt) (v : Nat) : ∀ vs : List Nat, wip (σ.set v none) vs = (wip σ vs).set v none
  | [] => rfl
  | u :: vs => by
    show (wip (σ.set v none) vs).set u none = ((wip σ vs).set u none).set v none
    rw [wip_set σ v vs]
    by_cases e : v = u
    · subst e; rw [List.set_set]
    · rw [List.set_comm _ _ e]
theorem wip_idem (σ : MSt) : ∀ vs : List Nat, wip (wip σ vs) vs = wip σ vs
  | [] => rfl
  | v :: vs => by
    show (wip ((wip σ vs).set v none) vs).set v none = (wip σ vs).set v none
    rw [wip_set, wip_idem σ vs, List.set_set]
theorem WfS.wip {n : Nat} {σ : MSt} (a : WfS n σ) : ∀ vs : List Nat, WfS n (wip σ vs)
  | [] => a
  | v :: vs => fun w hw => by
    rcases List.mem_or_eq_of_mem_set (show some w ∈ (Mc.wip σ vs).set v none from hw) with q | q
    · exact WfS.wip a vs w q
    · cases q
/-- the list at d is filled; σ: the slots with the own names wiped -/
def collM (J : ItM) (g : MGx) (t : MTx) (e : MEx) (σ : MSt) (vs : List Nat) (d : Nat) : Nat → Nat → Mh → Option Mh
  | 0, _, h => if J.fin h then some h else none
  | n + 1, i, h => match J.at_ i h with
    | none => none
    | some (w, h1) => match g w σ h1 with
      | none => none
      | some (σ1, h2) => if wip σ1 vs = wip σ vs then (match rok (t σ1 h2) with
        | none => none
        | some (k, h3) => if k then (match rok (e σ1 h3) with
          | none => none
          | some (y, h4) => match h4[d]? with
            | some (.lst acc) => if acc.length < lim then collM J g t e σ vs d n (i + 1) (h4.set d (.lst (acc ++ [y]))) else none
            | _ => none) else collM J g t e σ vs d n (i + 1) h3) else none
def mLc (mi : MIx) (g : MGx) (t : MTx) (e : MEx) (vs : List Nat) : MEx := fun σ h => (mi σ h).bind fun J h1 => match collM J g t e (wip σ vs) vs h1.length J.n 0 (h1 ++ [.lst []]) with
  | some h2 => .ok (.ref h1.length) h2
  | none => .no
def tYs : MTx := fun _ h => .ok true h
section
variable {X : Cx} {Wx : WX} {K : Frag}
theorem mts_nil : PTs X [] (lT X.K Wx tYs) := ⟨fun pins s σV H Q I ⟨ρ, h, σ, rp, wf, e, g⟩ => pts_nil.run pins s σV H Q I (g ρ H pre_rfl rp trivial)⟩
theorem lT_rok {m : MTx} {ρ : List Addr} {h h' : Mh} {H : Hp} {σ : MSt} {w : Bool} {Q : Bool → Hp → Prop} (rp : Rep K ρ h H) (wf : WfS h.length σ) (e : rok (m σ h) = some (w, h')) (q : ∀ ρ' H', ρ <+: ρ' → Rep K ρ' h' H' → Q w H') : lT K Wx m (cS K ρ σ) H Q := by
  refine ⟨ρ, h, σ, rp, wf, rfl, ?_⟩
  cases r : m σ h with
  | ok a h2 => rw [r] at e; cases e; exact fun ρ' H' l r _ => q ρ' H' l r
  | ex x h2 => rw [r] at e; cases e
  | no => rw [r] at e; cases e
theorem lE_lc {mi : MIx} {g : MGx} {t : MTx} {e : MEx} {vs : List Nat} {σV : L2.St} {H : Hp} {Q : VK} (q0 : lE K Wx (mLc mi g t e vs) σV H Q) : tLc (lI K Wx mi) (lG K g) (lT K W0 t) (lE K W0 e) vs σV H Q := by
  obtain ⟨ρ, h, σ, rp, wf, hs, q0⟩ := q0
  subst hs
  refine ⟨ρ, h, σ, rp, wf, rfl, q0.bind.imp fun ρ1 h1 J H1 l1 r1 _ g1 V hV D hD => ?_⟩
  have r2 := r1.alloc (o := .lst []) hD rfl (fun z hz => by cases hz)
  have l2 : ρ1 <+: ρ1 ++ [D] := ⟨_, rfl⟩
  have eD : ∀ {ρ' : List Addr}, ρ1 ++ [D] <+: ρ' → ρ'.getD h1.length 0 = D := fun {ρ'} l => by
    rw [getD_pre l (by rw [List.length_append, r1.len]; simp), ← r1.len, getD_last]
  have w1 : WfS h1.length (wip σ vs) := (wf.mono (rp.up r1 l1)).wip vs
  have es : ∀ {ρ' : List Addr}, ρ1 <+: ρ' → wipe (cS K ρ σ) vs = cS K ρ' (wip σ vs) := fun {ρ'} l => by
    rw [← cS_wip, ← cS_pre (K := K) (l1.trans l) ((rp.wfS wf).wip vs)]
  refine ⟨fun i n H' => ∃ ρ' h', ρ1 ++ [D] <+: ρ' ∧ Rep K ρ' h' H' ∧ i + n = J.n ∧ Gd K (fun c d H' => Wx c d (cS K ρ σ) H') ρ' wfV (match collM J g t e (wip σ vs) vs h1.length n i h' with
      | some h2 => R.ok (W.ref h1.length) h2
      | none => R.no) (fun ρ' _ w H' => Q (cV K ρ' w) H'), ⟨J.n, ρ1 ++ [D], h1 ++ [.lst []], pre_rfl, r2, Nat.zero_add _, g1.pre l2⟩, ?_⟩
  rintro i n H' ⟨ρ', h', l', r', hn, g'⟩
  have lA : ρ1 <+: ρ' := l2.trans l'
  have hlen : h1.length < h'.length := by
    have := l'.length_le
    rw [List.length_append, r1.len, r'.len, List.length_singleton] at this
    exact this
  cases n with
  | zero =>
    unfold collM at g'
    split at g'
    · rename_i hq
      split at hq
      · rename_i hf
        cases hq
        have ei : i = J.n := hn
        subst ei
        have fin : Q (cV K ρ' (.ref h1.length)) H' := g' ρ' H' pre_rfl r' hlen
        rw [show cV K ρ' (.ref h1.length) = .ref D from congrArg L2.V.ref (eD l')] at fin
        exact .inl ⟨hV.stop ρ' h' H' lA r' hf, fin⟩
      · cases hq
    · exact g'.elim
  | succ n =>
    unfold collM at g'
    cases qa : J.at_ i h' with
    | none => rw [qa] at g'; exact g'.elim
    | some p =>
      obtain ⟨w, h2⟩ := p
      rw [qa] at g'
      obtain ⟨hgo, hyl⟩ := hV.go i ρ' h' h2 H' w (by omega) lA r' qa
      refine .inr ⟨hgo, fun H'' => ∃ ρ' h', ρ1 ++ [D] <+: ρ' ∧ Rep K ρ' h' H'' ∧ i + 1 + n = J.n ∧ Gd K (fun c d H' => Wx c d (cS K ρ σ) H') ρ' wfV (match collM J g t e (wip σ vs) vs h1.length n (i + 1) h' with
        | some h2 => R.ok (W.ref h1.length) h2
        | none => R.no) (fun ρ' _ w H' => Q (cV K ρ' w) H'), fun H'' hN => ⟨n, Nat.lt_succ_self n, hN⟩, fun x H2 hy => ?_⟩
      obtain ⟨ρ2, lρ2, rr2, ww, rfl, hle⟩ := hyl x H2 hy
      have w2 : WfS h2.length (wip σ vs) := w1.mono (by omega)
      refine ⟨ρ2, h2, wip σ vs, w, rr2, w2, ww, es (lA.trans lρ2), rfl, ?_⟩
      simp only at g'
      cases qg : g w (wip σ vs) h2 with
      | none => rw [qg] at g'; exact g'.elim
      | some p2 =>
        obtain ⟨σ1, h3⟩ := p2
        rw [qg] at g'
        simp only at g' ⊢
        intro ρ3 H3 l3 r3 w3
        have lB : ρ1 <+: ρ3 := (lA.trans lρ2).trans l3
        by_cases hw : wip σ1 vs = wip (wip σ vs) vs
        · rw [if_pos hw] at g'
          have idem : wip (wip σ vs) vs = wip σ vs := wip_idem σ vs
          refine ⟨?_, ?_⟩
          · rw [← cS_wip, hw, idem, es lB]
          · cases qt : rok (t σ1 h3) with
            | none => rw [qt] at g'; exact g'.elim
            | some p3 =>
              obtain ⟨k, h4⟩ := p3
              rw [qt] at g'
              simp only at g'
              refine lT_rok r3 w3 qt fun ρ4 H4 l4 r4 => ?_
              have lC : ρ1 ++ [D] <+: ρ4 := ((l'.trans lρ2).trans l3).trans l4
              cases k with
              | false => exact ⟨ρ4, h4, lC, r4, by omega, g'.pre ((lρ2.trans l3).trans l4)⟩
              | true =>
                rw [if_pos rfl] at g'
                refine iteT ?_
                rw [← cS_pre l4 (r3.wfS w3)]
                cases qe : rok (e σ1 h4) with
                | none => rw [qe] at g'; exact g'.elim
                | some p4 =>
                  obtain ⟨y, h5⟩ := p4
                  rw [qe] at g'
                  simp only at g'
                  refine lE_rok r4 (w3.mono (r3.up r4 l4)) qe fun ρ5 H5 l5 r5 wy => ?_
                  have lD : ρ1 ++ [D] <+: ρ5 := lC.trans l5
                  cases qd : h5[h1.length]? with
                  | none => simp only [qd] at g'; exact g'.elim
                  | some o =>
                    cases o with
                    | lst acc =>
                      simp only [qd] at g'
                      split at g'
                      · rename_i hq
                        split at hq
                        · rename_i hl
                          obtain ⟨z1, z2⟩ := r5.lstAt qd
                          rw [eD lD] at z1
                          refine ⟨_, z1, by rw [List.length_map]; exact lim_lt (Nat.le_of_lt hl), ρ5, h5.set h1.length (.lst (acc ++ [y])), lD, ?_, by omega, ?_⟩
                          · have z := r5.set (o' := .lst (acc ++ [y])) qd rfl rfl (z2.app fun v hv => by rw [List.mem_singleton.mp hv]; exact wy)
                            rw [eD lD, show cO K ρ5 (.lst (acc ++ [y])) = .lst (cL K ρ5 acc ++ [cV K ρ5 y]) from congrArg HO.lst List.map_append] at z
                            exact z
                          · rw [hq]; exact g'.pre (((lρ2.trans l3).trans l4).trans l5)
                        · cases hq
                      · exact g'.elim
                    | _ => simp only [qd] at g'; exact g'.elim
        · rw [if_neg hw] at g'; exact g'.elim
theorem me_lc {elt tg iter : Expr} {ifs : List Expr} {scope : Scope} {own : List (Str × Nat)} {pos : Pos} {mi : MIx} {g : MGx} {t : MTx} {e : MEx} (hc : X.calm = true) (hN : X.N.Nodup) (hi : MI X Wx tg iter mi) (ok : BlkOk X.N X.env.scope scope own)
    (hg : ∀ (s : Shared) (H : Hp) (C : Addr) (cl : List (Str × Addr)) (fp : List Addr), MG (X.blk s H scope (compEnvC scope cl C X.env) fp) tg g) (ht : ∀ (s : Shared) (H : Hp) (C : Addr) (cl : List (Str × Addr)) (fp : List Addr), PTs (X.blk s H scope (compEnvC scope cl C X.env) fp) ifs (lT X.K W0 t))
    (he : ∀ (s : Shared) (H : Hp) (C : Addr) (cl : List (Str × Addr)) (fp : List Addr), ME (X.blk s H scope (compEnvC scope cl C X.env) fp) W0 elt e) (hs : ∀ x, foldedSetIterable iter X.env x = pure x := by intro _; rfl) :
    ME X Wx (.ListComp elt [⟨tg, iter, ifs, 0⟩] scope pos) (mLc mi g t e (own.map (·.2))) := peI (pe_lc hc hN hi ok hg ht he hs) fun _ _ _ q => lE_lc q
theorem ms_setLc {i : Nat} {y : Str} {py : Pos} {elt tg iter : Expr} {ifs : List Expr} {scope : Scope} {own : List (Str × Nat)} {pos spos : Pos} {mi : MIx} {g : MGx} {t : MTx} {e : MEx} (hc : X.calm = true) (hN : X.N.Nodup) (hy : X.N[i]? = some y) (hyl : X.env.scope.names.lookup y = some .local)
    (hsw : swapsWith (.ListComp elt [⟨tg, iter, ifs, 0⟩] scope pos) (some (.Name y py)) spos.line X.env = pure true) (hi : MI X Wx tg iter mi) (ok : BlkOk X.N X.env.scope scope own)
    (hg : ∀ (s : Shared) (H : Hp) (C : Addr) (cl : List (Str × Addr)) (fp : List Addr), MG (X.blk s H scope (compEnvC scope cl C X.env) fp) tg g) (ht : ∀ (s : Shared) (H : Hp) (C : Addr) (cl : List (Str × Addr)) (fp : List Addr), PTs (X.blk s H scope (compEnvC scope cl C X.env) fp) ifs (lT X.K W0 t))
    (he : ∀ (s : Shared) (H : Hp) (C : Addr) (cl : List (Str × Addr)) (fp : List Addr), ME (X.blk s H scope (compEnvC scope cl C X.env) fp) W0 elt e) (hs : ∀ x, foldedSetIterable iter X.env x = pure x := by intro _; rfl) :
    MS X Wx (.Assign [.Name y py] (.ListComp elt [⟨tg, iter, ifs, 0⟩] scope pos) spos) (sAsg (mLc mi g t e (own.map (·.2))) (gN i)) := psI (ps_setLc hc hN hy hyl hsw hi ok hg ht he hs) fun D σV H q => by
  have z := lS_set q
  exact lE_lc z
theorem mts_one {c : Expr} {t : MTx} (hh : MT X Wx c t) : PTs X [c] (lT X.K Wx t) := pts_one hh
end
end Mc

namespace Mc
open PySem PySem.Spec PyProof.Rows L2

/-! ### defs -/
structure RoomG (k : Nat) (A : Around) : Prop where
  rm : Room k A
  gd : A.guards = some []
theorem RoomG.mono {j k : Nat} {A : Around} (r : RoomG k A) (l : j ≤ k) : RoomG j A := ⟨r.rm.mono l, r.gd⟩
abbrev Fm := List W → Mh → R W
abbrev Mg := Str → Option Value
structure FnM (P : Program) (w : World) (K : Frag) (mg : Mg) (base : Heap) (k : Nat) (f : Addr) (fd : FuncData) (ps : List Str) (F : Fm) : Prop where
  run : ∀ (A : Around) (outer : List Env) (s : Shared) (H : Hp) (args : Args) (us : List Value) (ρ : List Addr) (h : Mh) (ws : List W) (Q : VK) (E : XK), RoomG k A → Env0 P w K mg base A outer s H → BindsTo s fd args (ps.zip us) →
    Vals (cL K ρ ws) us → ws.length = ps.length → Rep K ρ h H → WfL h.length ws → Gd K E ρ wfV (F ws h) (fun ρ' _ w H' => Q (cV K ρ' w) H') → codeAny (model P w) A (.call (.ref f) args) (CR (L2.CX P w) outer P w H s Q E) s
def startW (n : Nat) (ws : List W) : MSt := ws.map some ++ List.replicate (n - ws.length) none
def fnRun (n : Nat) (m : MSx) : Fm := fun ws h => match m (startW n ws) h with
  | some (.rt w, h') => .ok w h'
  | some (.nx _, h') => .ok .non h'
  | some (.xc x _, h') => .ex x h'
  | _ => .no
theorem start_c {K : Frag} {ρ : List Addr} {N : List Str} {ws : List W} : start N (cL K ρ ws) = cS K ρ (startW N.length ws) := by
  unfold L2.start startW cS cL
  rw [List.map_append, List.map_map, List.map_map, List.map_replicate, List.length_map] <;> rfl
theorem startW_wf {n : Nat} {N : Nat} {ws : List W} (a : WfL n ws) : WfS n (startW N ws) := fun v hv => by
  unfold startW at hv
  rcases List.mem_append.mp hv with q | q
  · obtain ⟨x, hx, e⟩ := List.mem_map.mp q
    cases e
    exact a v hx
  · have := List.eq_of_mem_replicate q
    cases this
abbrev wE (E : XK) : WX := fun c d _ H => E c d H
section
variable {P : Program} {w : World} {K : Frag} {mg : Mg} {base : Heap} {x qual : Str} {params : Arguments} {body : List Stmt} {scope : Scope} {dvs : List V} {kws : List (Str × V)} {f : Addr} {fd : FuncData}
theorem FunD_okM {N ps : List Str} {k : Nat} {m : MSx} (F : FunD K x qual params body scope dvs kws f fd) (S : FnScope N ps scope)
    (hbody : ∀ (cdv : Value) (A : Around) (outer : List Env) (s : Shared) (H : Hp) (E : XK), RoomG k (A.deeper (envOfC qual scope s.heap.objs.size f cdv)) → MSs (cxOf (L2.CX P w) P w K mg base N qual scope f cdv A outer s H E) (wE E) body m) :
    FnM P w K mg base (k + 1) f fd ps (fnRun N.length m) := by
  obtain ⟨oc, od, dV, kV, doc, pm, an, cdv, ct, osl, rfl, lk, hcd, _, _⟩ := F.ex
  refine ⟨fun A outer s H args us ρ h ws Q E hr e0 hb r hl rp wf gd => ?_⟩
  have hlv : (cL K ρ ws).length = ps.length := by rw [List.length_map]; exact hl
  have KX : K.In s.heap := e0.mod.kin.keeps fun b o e => (e0.bs b o e).1
  have limit : s.heap.NoLimit := e0.mod.nolimit.keeps fun b o e => (e0.bs b o e).1
  refine codeAny_call_function hr.rm.depth (KX _ _ lk) rfl S.co S.gen rfl (PySem.W.codeRec_of KX hcd) (hb _ _ _ _ ?_)
  refine wpAny_newFunctionEnv_cells S.kind (fun ⟨n, v⟩ hy => ?_) fun env he s1 xx => ?_
  · rcases S.par n (List.of_mem_zip hy).1 with q | q
    · exact .inl q
    · exact .inr ⟨q, PySem.W.cellsFrom_some _ _ _ (.inl q)⟩
  subst he
  refine ⟨limit.keeps xx.toInCall.keep, codeAny_func ?_⟩
  have rg : RoomG k (A.deeper (envOfC qual scope s.heap.objs.size f cdv)) := ⟨hr.rm.deeper _, hr.gd⟩
  have I0 := inv_start (CX := L2.CX P w) (N := N) (E := E) S hr.rm.hd e0 hlv r xx
  have mm := hbody cdv A outer s H E rg
  have body_ok : lS K (wE E) m { nx := fun _ H' => Q .non H', rt := Q } (start N (cL K ρ ws)) H := by
    rw [start_c]
    refine ⟨ρ, h, startW N.length ws, rp, startW_wf wf, rfl, ?_⟩
    unfold fnRun at gd
    cases q : m (startW N.length ws) h with
    | none => rw [q] at gd; exact gd.elim
    | some p =>
      obtain ⟨fl, h'⟩ := p
      rw [q] at gd
      cases fl with
      | nx σ' => exact fun ρ' H' l' r' _ => gd ρ' H' l' r' trivial
      | rt v => exact fun ρ' H' l' r' w' => gd ρ' H' l' r' w'
      | bk σ' => exact gd.elim
      | ct σ' => exact gd.elim
      | xc y σ' => exact fun ρ' H' l' r' _ => gd ρ' H' l' r'
  refine wpAny_mono (mm.run [] s1 (start N (cL K ρ ws)) H _ I0 body_ok) (fun fl s' hs => ?_) fun e s' hs => hs
  have fin : ∀ {σ' : L2.St} {H' : Hp} {v : V} {u : Value}, Inv (cxOf (L2.CX P w) P w K mg base N qual scope f cdv A outer s H E) [] σ' H' s' → RelV v u → Q v H' → CE outer P w H s Q u s' :=
    fun {σ' H' v u} J rv qq => ⟨v, H', J.os, J.bare, J.base, J.hok, rv, qq⟩
  cases fl with
  | ret u =>
    obtain ⟨v, σ', H', J, rv, qq⟩ := hs
    exact fin J rv qq
  | next =>
    obtain ⟨σ', H', J, qq⟩ := hs
    exact fin (v := V.non) (u := Value.none) J rfl qq
  | brk =>
    obtain ⟨_, _, _, qq⟩ := hs
    exact False.elim qq
  | cont =>
    obtain ⟨_, _, _, qq⟩ := hs
    exact False.elim qq
theorem FnM.mono {j k : Nat} {ps : List Str} {F : Fm} (G : FnM P w K mg base j f fd ps F) (l : j ≤ k) : FnM P w K mg base k f fd ps F := ⟨fun A outer s H args us ρ h ws Q E hr => G.run A outer s H args us ρ h ws Q E (hr.mono l)⟩
end

/-! ### how arguments come to parameters -/
def sel {α : Type} (is : List Nat) (l : List α) : List α := is.filterMap fun i => l[i]?
theorem Vals_sel {xs : List V} {us : List Value} (r : Vals xs us) : ∀ is : List Nat, Vals (sel is xs) (sel is us)
  | [] => .nil
  | i :: is => by
    unfold sel
    rw [List.filterMap_cons, List.filterMap_cons]
    cases q : xs[i]? with
    | none =>
      rw [r.none_of q]
      exact Vals_sel r is
    | some v =>
      obtain ⟨u, e, rv⟩ := r.get q
      rw [e]
      exact .cons rv (Vals_sel r is)
theorem cL_sel {K : Frag} {ρ : List Addr} {l : List W} : ∀ is : List Nat, cL K ρ (sel is l) = sel is (cL K ρ l)
  | [] => rfl
  | i :: is => by
    unfold sel cL
    rw [List.filterMap_cons, List.filterMap_cons, List.getElem?_map]
    have ih := cL_sel (K := K) (ρ := ρ) (l := l) is
    unfold sel cL at ih
    cases q : l[i]? with
    | none => exact ih
    | some v => rw [List.map_cons, ih] <;> rfl
theorem sel_wf {n : Nat} {l : List W} {is : List Nat} (a : WfL n l) : WfL n (sel is l) := fun z hz => by
  obtain ⟨i, _, e⟩ := List.mem_filterMap.mp hz
  exact a z (List.mem_of_getElem? e)
/-- n positional values, keywords ks, the constants dW behind them; parameter j takes the place is[j] -/
structure Bd (K : Frag) (fd : FuncData) (ps : List Str) (n : Nat) (ks : List Str) (dW : List W) (is : List Nat) : Prop where
  flat : ∀ z ∈ dW, ∀ m, wfV m z
  to : ∃ ds, Vals (cL K [] dW) ds ∧ ∀ (s : Shared) (us ws : List Value), K.In s.heap → us.length = n → ws.length = ks.length → BindsTo s fd ⟨us, ks.zip ws⟩ (ps.zip (sel is (us ++ ws ++ ds)))
def mCall (F : Fm) (n nk np : Nat) (dW : List W) (is : List Nat) (ma mk : MAx) : MEx := fun σ h => (ma σ h).bind fun vs h1 => (mk σ h1).bind fun zs h2 =>
  if vs.length = n ∧ zs.length = nk ∧ (sel is (vs ++ zs ++ dW)).length = np then F (sel is (vs ++ zs ++ dW)) h2 else .no
theorem cL_flat {K : Frag} {ρ : List Addr} {dW : List W} (a : ∀ z ∈ dW, ∀ m, wfV m z) : cL K ρ dW = cL K [] dW := List.map_congr_left fun z hz => cV_pre (List.nil_prefix) (a z hz _)
/-- keyword values -/
def lK (K : Frag) (Wx : WX) (m : MAx) : TA := lA K Wx m
section
variable {X : Cx} {Wx : WX} {k n : Nat} {f : Addr} {fd : FuncData} {ps ks : List Str} {F : Fm} {dW : List W} {is : List Nat} {x : Str} {p pos kpos : Pos} {e : Expr} {es : List Expr} {kws : List Keyword} {ma mk : MAx} {me : MEx} {nm : Option Str}
abbrev MK (X : Cx) (Wx : WX) (kws : List Keyword) (m : MAx) : Prop := PK X kws (lA X.K Wx m)
theorem pkI {t t' : TA} (hh : PK X kws t) (g : ∀ σ H Q, t' σ H Q → t σ H Q) : PK X kws t' := ⟨fun pos pins s σ H Q I q => hh.run pos pins s σ H Q I (g σ H Q q)⟩
theorem mk_nil : MK X Wx [] mNil := pkI pk_nil fun σV H Q ⟨ρ, h, σ, rp, wf, e, g⟩ => g ρ H pre_rfl rp (fun z hz => by cases hz)
theorem mk_cons (ha : ME X Wx e me) (hr : MK X Wx kws mk) : MK X Wx (⟨nm, e, kpos⟩ :: kws) (mCons me mk) := pkI (pk_cons ha hr) fun σV H Q ⟨ρ, h, σ, rp, wf, e, g⟩ => by
  subst e
  refine ⟨ρ, h, σ, rp, wf, rfl, g.bind.imp fun ρ1 h1 x H1 l1 r1 wx g1 => ?_⟩
  refine lA.at l1 (rp.wfS wf) r1 (g1.bind.imp fun ρ2 h2 xs H2 l2 r2 wxs g2 => ?_)
  have wx2 : wfV h2.length x := wx.mono (r1.up r2 l2)
  have q := g2 ρ2 H2 pre_rfl r2 (fun z hz => by
    rcases List.mem_cons.mp hz with e | e
    · rw [e]; exact wx2
    · exact wxs z e)
  show Q (cV X.K ρ1 x :: cL X.K ρ2 xs) H2
  rw [← r1.cv l2 wx]
  exact q
/-- the callee runs -/
theorem run_m {pins : List (Addr × Obj)} {σV : L2.St} {H : Hp} {s : Shared} {Q : VK} {us us' : List Value} {kw : List (Str × Value)} {ρ : List Addr} {h : Mh} {ws : List W} (G : FnM X.prog X.w X.K X.mg X.base k f fd ps F) (hr : RoomG k X.A) (tk : Takes X Wx) (I : Inv X pins σV H s)
    (hb : BindsTo s fd ⟨us, kw⟩ (ps.zip us')) (r : Vals (cL X.K ρ ws) us') (hl : ws.length = ps.length) (rp : Rep X.K ρ h H) (wf : WfL h.length ws) (g : Gd X.K (fun c d H' => Wx c d σV H') ρ wfV (F ws h) (fun ρ' _ w H' => Q (cV X.K ρ' w) H')) :
    wpAny (model X.prog X.w) X.A (call (.ref f) us kw) (EP X pins σV Q) X.xe s := by
  refine wpAny_call (codeAny_mono (G.run X.A X.stack s H ⟨us, kw⟩ us' ρ h ws Q _ hr I.env0 hb r hl rp wf g) fun rr s' hq => ?_)
  cases rr with
  | error e => exact tk e s' (XE.of_call I (fun _ _ _ z => z) hq)
  | ok fl =>
    cases fl with
    | ret u => exact I.after hq
    | next => exact False.elim hq
    | brk => exact False.elim hq
    | cont => exact False.elim hq
/-- arguments are run -/
theorem ma_run {σ : MSt} {pins : List (Addr × Obj)} {s : Shared} {ρ : List Addr} {h : Mh} {H : Hp} {Q : List Addr → Mh → List W → Hp → Prop} (ha : MA X Wx es ma) (I : Inv X pins (cS X.K ρ σ) H s) (rp : Rep X.K ρ h H) (wf : WfS h.length σ)
    (g : Gd X.K (fun c d H' => Wx c d (cS X.K ρ σ) H') ρ WfL (ma σ h) Q) : wpAny (model X.prog X.w) X.A (spliced (backTo pos (starEach es X.env))) (fun us s1 => ∃ ρ1 h1 ws H1, ρ <+: ρ1 ∧ Rep X.K ρ1 h1 H1 ∧ WfL h1.length ws ∧ Inv X pins (cS X.K ρ σ) H1 s1 ∧ Vals (cL X.K ρ1 ws) us ∧ Q ρ1 h1 ws H1) X.xe s := by
  refine thn (ha.run pos pins s _ H (fun vs H' => ∃ ρ1 h1 ws, ρ <+: ρ1 ∧ Rep X.K ρ1 h1 H' ∧ WfL h1.length ws ∧ vs = cL X.K ρ1 ws ∧ Q ρ1 h1 ws H') I ⟨ρ, h, σ, rp, wf, rfl, g.imp fun ρ1 h1 w H1 l r1 w1 q => ⟨ρ1, h1, w, l, r1, w1, rfl, q⟩⟩) fun u s1 hq => ?_
  obtain ⟨v, H1, I1, rv, ρ1, h1, w, l, r1, w1, rfl, q⟩ := hq
  exact ⟨ρ1, h1, w, H1, l, r1, w1, I1, rv, q⟩
theorem mk_run {σ : MSt} {pins : List (Addr × Obj)} {s : Shared} {ρ : List Addr} {h : Mh} {H : Hp} {Q : List Addr → Mh → List W → Hp → Prop} {σV : L2.St} (ha : MK X Wx kws ma) (hs : σV = cS X.K ρ σ) (I : Inv X pins σV H s) (rp : Rep X.K ρ h H) (wf : WfS h.length σ)
    (g : Gd X.K (fun c d H' => Wx c d σV H') ρ WfL (ma σ h) Q) : wpAny (model X.prog X.w) X.A (evalAll ((backToKw pos (keywordEach kws X.env)).map (·.2))) (fun us s1 => ∃ ρ1 h1 ws H1, ρ <+: ρ1 ∧ Rep X.K ρ1 h1 H1 ∧ WfL h1.length ws ∧ Inv X pins σV H1 s1 ∧ Vals (cL X.K ρ1 ws) us ∧ Q ρ1 h1 ws H1) X.xe s := by
  subst hs
  refine thn (ha.run pos pins s _ H (fun vs H' => ∃ ρ1 h1 ws, ρ <+: ρ1 ∧ Rep X.K ρ1 h1 H' ∧ WfL h1.length ws ∧ vs = cL X.K ρ1 ws ∧ Q ρ1 h1 ws H') I ⟨ρ, h, σ, rp, wf, rfl, g.imp fun ρ1 h1 w H1 l r1 w1 q => ⟨ρ1, h1, w, l, r1, w1, rfl, q⟩⟩) fun u s1 hq => ?_
  obtain ⟨v, H1, I1, rv, ρ1, h1, w, l, r1, w1, rfl, q⟩ := hq
  exact ⟨ρ1, h1, w, H1, l, r1, w1, I1, rv, q⟩
/-- behind the arguments of a call -/
theorem call_m {pins : List (Addr × Obj)} {σV : L2.St} {H : Hp} {s : Shared} {Q : VK} {us ws : List Value} {ρ : List Addr} {h : Mh} {vs zs : List W} (G : FnM X.prog X.w X.K X.mg X.base k f fd ps F) (hr : RoomG k X.A) (tk : Takes X Wx) (B : Bd X.K fd ps n ks dW is) (I : Inv X pins σV H s)
    (rv : Vals (cL X.K ρ vs) us) (rz : Vals (cL X.K ρ zs) ws) (rp : Rep X.K ρ h H) (wv : WfL h.length vs) (wz : WfL h.length zs)
    (g : Gd X.K (fun c d H' => Wx c d σV H') ρ wfV (if vs.length = n ∧ zs.length = ks.length ∧ (sel is (vs ++ zs ++ dW)).length = ps.length then F (sel is (vs ++ zs ++ dW)) h else .no) (fun ρ' _ w H' => Q (cV X.K ρ' w) H')) :
    wpAny (model X.prog X.w) X.A (call (.ref f) us (ks.zip ws)) (EP X pins σV Q) X.xe s := by
  split at g
  · rename_i hz
    have l1 : us.length = n := by rw [← rv.length, List.length_map]; exact hz.1
    have l2 : ws.length = ks.length := by rw [← rz.length, List.length_map]; exact hz.2.1
    obtain ⟨ds, rd, hb⟩ := B.to
    refine run_m (ws := sel is (vs ++ zs ++ dW)) G hr tk I (hb s us ws I.kIn l1 l2) ?_ hz.2.2 rp (sel_wf ((wv.app wz).app fun z hz => B.flat z hz _)) g
    rw [cL_sel]
    refine Vals_sel ?_ is
    rw [cL, List.map_append, List.map_append]
    refine (rv.append rz).append ?_
    rw [show List.map (cV X.K ρ) dW = cL X.K [] dW from cL_flat B.flat]
    exact rd
  · exact g.elim
theorem me_call (G : FnM X.prog X.w X.K X.mg X.base k f fd ps F) (hr : RoomG k X.A) (tk : Takes X Wx) (hg : Gl X x) (hm : X.mg x = some (.ref f)) (hk : PySem.W.keepIn X.K (.ref f) = true) (B : Bd X.K fd ps n [] dW is)
    (ha : MA X Wx (e :: es) ma) (hdb : (x == ("__debug__" : Str)) = false := by decide) (he : starEach (e :: es) X.env = (false, eval e X.env) :: starEach es X.env := by rfl) (hpl : (backTo pos (starEach es X.env)).any (·.1) = false := by rfl) :
    ME X Wx (.Call (.Name x p) (e :: es) [] pos) (mCall F n 0 ps.length dW is ma mNil) := by
  refine ⟨fun pins s σV H Q I ⟨ρ, h, σ, rp, wf, hs, g⟩ => ?_⟩
  subst hs
  refine wpAny_Call_Name_kw (ld_glob I hg hm ?_ hdb)
  refine PySem.W.callWith_K (h₀ := X.base) I.ok.mod.kin hk (thn (ma_run ha I rp wf g.bind) fun us s1 hq => ?_) he hpl
  obtain ⟨ρ1, h1, vs, H1, l1, r1, w1, I1, rv, g1⟩ := hq
  exact ⟨I1.kIn, call_m (ws := []) (zs := []) G hr tk B I1 rv .nil r1 w1 (fun z hz => by cases hz) g1⟩
theorem me_call0 (G : FnM X.prog X.w X.K X.mg X.base k f fd ps F) (hr : RoomG k X.A) (tk : Takes X Wx) (hg : Gl X x) (hm : X.mg x = some (.ref f)) (hk : PySem.W.keepIn X.K (.ref f) = true) (B : Bd X.K fd ps 0 [] dW is) (hdb : (x == ("__debug__" : Str)) = false := by decide) :
    ME X Wx (.Call (.Name x p) [] [] pos) (mCall F 0 0 ps.length dW is mNil mNil) := by
  refine ⟨fun pins s σV H Q I ⟨ρ, h, σ, rp, wf, hs, g⟩ => ?_⟩
  subst hs
  refine wpAny_Call_Name_kw (ld_glob I hg hm ?_ hdb)
  exact PySem.W.callWith_K0 I.kIn hk (call_m (us := []) (ws := []) (vs := []) (zs := []) G hr tk B I .nil .nil rp (fun z hz => by cases hz) (fun z hz => by cases hz) g)
theorem me_callK (G : FnM X.prog X.w X.K X.mg X.base k f fd ps F) (hr : RoomG k X.A) (tk : Takes X Wx) (hg : Gl X x) (hm : X.mg x = some (.ref f)) (hk : PySem.W.keepIn X.K (.ref f) = true) (B : Bd X.K fd ps n ks dW is)
    (ha : MA X Wx (e :: es) ma) (hkw : MK X Wx kws mk) (hall : (backToKw pos (keywordEach kws X.env)).all (·.1.isSome) = true := by rfl) (hks : (backToKw pos (keywordEach kws X.env)).filterMap (·.1) = ks := by rfl)
    (hdb : (x == ("__debug__" : Str)) = false := by decide) (he : starEach (e :: es) X.env = (false, eval e X.env) :: starEach es X.env := by rfl)
    (hpl : ((backTo pos (starEach (e :: es) X.env)).any (·.1) || (backToKw pos (keywordEach kws X.env)).any (·.1.isNone)) = false := by rfl) :
    ME X Wx (.Call (.Name x p) (e :: es) kws pos) (mCall F n ks.length ps.length dW is ma mk) := by
  refine ⟨fun pins s σV H Q I ⟨ρ, h, σ, rp, wf, hs, g⟩ => ?_⟩
  subst hs
  refine wpAny_Call_Name_kw (ld_glob I hg hm ?_ hdb)
  refine PySem.W.callWith_KW (h₀ := X.base) I.ok.mod.kin hk hall (thn (ma_run ha I rp wf g.bind) fun us s1 hq => ?_) hpl he
  obtain ⟨ρ1, h1, vs, H1, l1, r1, w1, I1, rv, g1⟩ := hq
  refine thn (mk_run hkw (cS_pre l1 (rp.wfS wf)).symm I1 r1 (wf.mono (rp.up r1 l1)) g1.bind) fun ws s2 hq => ?_
  obtain ⟨ρ2, h2, zs, H2, l2, r2, w2, I2, rz, g2⟩ := hq
  rw [hks]
  rw [← cL_pre l2 (by rw [r1.len]; exact w1)] at rv
  exact ⟨I2.kIn, call_m G hr tk B I2 rv rz r2 (WfL.mono w1 (r1.up r2 l2)) w2 g2⟩
theorem me_callK0 (G : FnM X.prog X.w X.K X.mg X.base k f fd ps F) (hr : RoomG k X.A) (tk : Takes X Wx) (hg : Gl X x) (hm : X.mg x = some (.ref f)) (hk : PySem.W.keepIn X.K (.ref f) = true) (B : Bd X.K fd ps 0 ks dW is)
    (hkw : MK X Wx kws mk) (hall : (backToKw pos (keywordEach kws X.env)).all (·.1.isSome) = true := by rfl) (hks : (backToKw pos (keywordEach kws X.env)).filterMap (·.1) = ks := by rfl) (hdb : (x == ("__debug__" : Str)) = false := by decide)
    (hpl : ((backTo pos (starEach [] X.env)).any (·.1) || (backToKw pos (keywordEach kws X.env)).any (·.1.isNone)) = false := by rfl) :
    ME X Wx (.Call (.Name x p) [] kws pos) (mCall F 0 ks.length ps.length dW is mNil mk) := by
  refine ⟨fun pins s σV H Q I ⟨ρ, h, σ, rp, wf, hs, g⟩ => ?_⟩
  subst hs
  refine wpAny_Call_Name_kw (ld_glob I hg hm ?_ hdb)
  refine PySem.W.callWith_KW0 (h₀ := X.base) I.ok.mod.kin hk hall (thn (mk_run hkw rfl I rp wf (Gd.bind (r := mk σ h) g)) fun ws s2 hq => ?_) hpl
  obtain ⟨ρ2, h2, zs, H2, l2, r2, w2, I2, rz, g2⟩ := hq
  rw [hks]
  exact ⟨I2.kIn, call_m (us := []) (vs := []) G hr tk B I2 .nil rz r2 (fun z hz => by cases hz) w2 g2⟩
end
end Mc

namespace Mc
open PySem PySem.Spec PyProof.Rows L2

/-! ### instances: fields -/
theorem lookup_c {K : Frag} {ρ : List Addr} {f : Str} : ∀ {fs : List (Str × W)}, (fs.map fun p => (p.1, cV K ρ p.2)).lookup f = (fs.lookup f).map (cV K ρ)
  | [] => rfl
  | (g, w) :: l => by
    rw [List.map_cons, List.lookup_cons, List.lookup_cons]
    cases f == g with
    | true => rfl
    | false => exact lookup_c
theorem lookup_mem {f : Str} {v : W} : ∀ {fs : List (Str × W)}, fs.lookup f = some v → ∃ p ∈ fs, p.2 = v
  | [], e => by cases e
  | (g, w) :: l, e => by
    rw [List.lookup_cons] at e
    cases q : f == g with
    | true => rw [q] at e; cases e; exact ⟨_, List.mem_cons_self, rfl⟩
    | false =>
      rw [q] at e
      obtain ⟨p, hp, z⟩ := lookup_mem e
      exact ⟨p, List.mem_cons_of_mem _ hp, z⟩
/-- the class and the fields of an instance -/
def insAt (h : Mh) : W → Option (Str × Nat × List (Str × W))
  | .ref i => match h[i]? with
    | some (.ins C dx fs) => some (C, dx, fs)
    | _ => none
  | _ => none
theorem insAt_ok {K : Frag} {ρ : List Addr} {h : Mh} {H : Hp} {w : W} {C : Str} {dx : Nat} {fs : List (Str × W)} (rp : Rep K ρ h H) (e : insAt h w = some (C, dx, fs)) :
    ∃ i, w = .ref i ∧ h[i]? = some (.ins C dx fs) ∧ H (ρ.getD i 0) = some (.ins (He.ga K C) (ρ.getD dx 0) (fs.map fun p => (p.1, cV K ρ p.2))) ∧ dx < h.length ∧ ∀ p ∈ fs, wfV h.length p.2 := by
  cases w with
  | ref i =>
    have e : (match h[i]? with
      | some (.ins C dx fs) => some (C, dx, fs)
      | _ => none) = some (C, dx, fs) := e
    cases q : h[i]? with
    | none => rw [q] at e; cases e
    | some o =>
      rw [q] at e
      cases o with
      | ins C' dx' fs' =>
        cases e
        have wo : WfO h.length (.ins C dx fs) := r_wf rp q
        exact ⟨i, rfl, q, rp.obj i _ q, wo.1, wo.2⟩
      | _ => cases e
  | _ => cases e
where r_wf {K : Frag} {ρ : List Addr} {h : Mh} {H : Hp} {i : Nat} {o : MO} (rp : Rep K ρ h H) (q : h[i]? = some o) : WfO h.length o := rp.wf _ (List.mem_of_getElem? q)
def kFld (cs : List Str) (f : Str) (x : W) (h : Mh) : R W := match insAt h x with
  | some (C, _, fs) => if cs.contains C then (match fs.lookup f with
    | some v => .ok v h
    | none => .no) else .no
  | none => .no
/-- classes whose instances have plain fields of this name -/
def FldOk (K : Frag) (cs : List Str) (f : Str) : Prop := ∀ C ∈ cs, Cls K (He.ga K C) ∧ NoAttr K (He.ga K C) f
def putW (f : Str) (v : W) : List (Str × W) → List (Str × W)
  | [] => [(f, v)]
  | (g, w) :: l => if g = f then (g, v) :: l else (g, w) :: putW f v l
def sFldM (cs : List Str) (f : Str) (mo m : MEx) : MSx := fun σ h => (m σ h).stm σ fun y h1 => (mo σ h1).stm σ fun x h2 => match x, insAt h2 x with
  | .ref i, some (C, dx, fs) => if cs.contains C ∧ fs.length < 100 then some (.nx σ, h2.set i (.ins C dx (putW f y fs))) else none
  | _, _ => none
section
variable {X : Cx} {Wx : WX} {K : Frag} {o e : Expr} {mo m : MEx} {pos apos : Pos} {f : Str} {cs : List Str}
theorem mem_of_contains {C : Str} (e : cs.contains C = true) : C ∈ cs := List.contains_iff_mem.mp e
theorem me_fld (ho : ME X Wx o mo) (hf : FldOk X.K cs f) (hab : attributeBase o f X.env (eval o X.env) = eval o X.env := by rfl) : ME X Wx (.Attribute o f pos) (m1 (kFld cs f) mo) := peI (pe_fld ho hab) fun σV H Q ⟨ρ, h, σ, rp, wf, hs, g⟩ => by
  subst hs
  refine ⟨ρ, h, σ, rp, wf, rfl, g.bind.imp fun ρ1 h1 x H1 l1 r1 wx g1 => ?_⟩
  unfold kFld at g1
  split at g1
  · rename_i C dx fs q
    obtain ⟨i, rfl, q1, q2, q3, q4⟩ := insAt_ok r1 q
    split at g1
    · rename_i hc
      split at g1
      · rename_i v hv
        obtain ⟨h1, h2⟩ := hf C (mem_of_contains hc)
        obtain ⟨p, hp, ep⟩ := lookup_mem hv
        exact ⟨_, _, _, _, _, rfl, q2, h1, h2, by rw [lookup_c, hv] <;> rfl, gd_ok r1 g1 (ep ▸ q4 p hp)⟩
      · exact g1.elim
    · exact g1.elim
  · exact g1.elim
theorem putW_c {ρ : List Addr} {v : W} : ∀ {fs : List (Str × W)}, ((putW f v fs).map fun p => (p.1, cV K ρ p.2)) = putF f (cV K ρ v) (fs.map fun p => (p.1, cV K ρ p.2))
  | [] => rfl
  | (g, w) :: l => by
    unfold putW
    show _ = putF f (cV K ρ v) ((g, cV K ρ w) :: _)
    unfold putF
    by_cases hg : g = f
    · rw [if_pos hg, if_pos hg] <;> rfl
    · rw [if_neg hg, if_neg hg, List.map_cons, putW_c] <;> rfl
theorem putW_wf {n : Nat} {v : W} : ∀ {fs : List (Str × W)}, wfV n v → (∀ p ∈ fs, wfV n p.2) → ∀ p ∈ putW f v fs, wfV n p.2
  | [], a, _, p, hp => by rw [List.mem_singleton.mp hp]; exact a
  | (g, w) :: l, a, b, p, hp => by
    unfold putW at hp
    by_cases hg : g = f
    · rw [if_pos hg] at hp
      rcases List.mem_cons.mp hp with q | q
      · rw [q]; exact a
      · exact b p (List.mem_cons_of_mem _ q)
    · rw [if_neg hg] at hp
      rcases List.mem_cons.mp hp with q | q
      · rw [q]; exact b _ List.mem_cons_self
      · exact putW_wf a (fun z hz => b z (List.mem_cons_of_mem _ hz)) p q
theorem ms_fld (ho : ME X Wx o mo) (he : ME X Wx e m) (hf : FldOk X.K cs f) (hs : swapsWith e (some (.Attribute o f apos)) pos.line X.env = pure false := by rfl) : MS X Wx (.Assign [.Attribute o f apos] e pos) (sFldM cs f mo m) := psI (ps_fld ho he hs) fun D σV H ⟨ρ, h, σ, rp, wf, hs, g⟩ => by
  subst hs
  have w0 := rp.wfS wf
  refine ⟨ρ, h, σ, rp, wf, rfl, (GdS.stm rp w0 g (Nat.le_refl _)).imp fun ρ1 h1 y H1 l1 r1 wy g1 => ?_⟩
  have w1 : WfS h1.length σ := wf.mono (rp.up r1 l1)
  rw [← cS_pre l1 w0]
  refine ⟨ρ1, h1, σ, r1, w1, rfl, (GdS.stm r1 (r1.wfS w1) g1 (Nat.le_refl _)).imp fun ρ2 h2 x H2 l2 r2 wx g2 => ?_⟩
  have w2 : WfS h2.length σ := w1.mono (r1.up r2 l2)
  split at g2
  · rename_i i C dx fs q
    obtain ⟨_, ⟨⟩, q1, q2, q3, q4⟩ := insAt_ok r2 q
    split at g2
    · rename_i hz
      obtain ⟨z1, z2⟩ := hf C (mem_of_contains hz.1)
      refine ⟨_, _, _, _, rfl, q2, z1, z2, by rw [List.length_map]; omega, ?_⟩
      have wy2 := wy.mono (r1.up r2 l2)
      have rr := r2.set (o' := .ins C dx (putW f y fs)) q1 rfl rfl ⟨q3, putW_wf wy2 q4⟩
      have fin := g2 ρ2 _ pre_rfl rr (by rw [List.length_set]; exact w2)
      rw [cS_pre l2 (r1.wfS w1)] at fin
      rw [show cO X.K ρ2 (.ins C dx (putW f y fs)) = .ins (He.ga X.K C) (ρ2.getD dx 0) (putF f (cV X.K ρ1 y) (fs.map fun p => (p.1, cV X.K ρ2 p.2))) from by
        show HO.ins _ _ _ = HO.ins _ _ _
        rw [putW_c, r1.cv l2 wy]] at fin
      exact fin
    · exact g2.elim
  · exact g2.elim
end

/-! ### a new instance -/
theorem Rep.make {K : Frag} {ρ : List Addr} {h : Mh} {H : Hp} {C : Str} {x dx : Addr} (rp : Rep K ρ h H) (hx : H x = none) (hd : H dx = none) (ne : dx ≠ x) : Rep K (ρ ++ [x, dx]) (h ++ [.ins C (h.length + 1) [], .own h.length]) (upd (upd H dx (.own x)) x (.ins (He.ga K C) dx [])) := by
  have pre : ρ <+: ρ ++ [x, dx] := ⟨_, rfl⟩
  have gx : (ρ ++ [x, dx]).getD h.length 0 = x := by
    rw [← rp.len, List.getD_eq_getElem?_getD, List.getElem?_append_right (Nat.le_refl _), Nat.sub_self] <;> rfl
  have gd : (ρ ++ [x, dx]).getD (h.length + 1) 0 = dx := by
    rw [← rp.len, List.getD_eq_getElem?_getD, List.getElem?_append_right (Nat.le_succ _), show ρ.length + 1 - ρ.length = 1 by omega] <;> rfl
  have cases3 : ∀ {i : Nat} {o : MO}, (h ++ [MO.ins C (h.length + 1) [], MO.own h.length])[i]? = some o → (i < h.length ∧ h[i]? = some o) ∨ (i = h.length ∧ o = .ins C (h.length + 1) []) ∨ (i = h.length + 1 ∧ o = .own h.length) := fun {i o} e => by
    by_cases hi : i < h.length
    · rw [List.getElem?_append_left hi] at e; exact .inl ⟨hi, e⟩
    · rw [List.getElem?_append_right (by omega)] at e
      match q : i - h.length, e with
      | 0, e => exact .inr (.inl ⟨by omega, by simpa using e.symm⟩)
      | 1, e => exact .inr (.inr ⟨by omega, by simpa using e.symm⟩)
      | n + 2, e => simp at e
  have nex : ∀ {i : Nat} {o : MO}, h[i]? = some o → o.trk = true → ρ.getD i 0 ≠ x := fun e t => rp.ne hx e t
  have ned : ∀ {i : Nat} {o : MO}, h[i]? = some o → o.trk = true → ρ.getD i 0 ≠ dx := fun e t => rp.ne hd e t
  have old : ∀ {i : Nat}, i < h.length → (ρ ++ [x, dx]).getD i 0 = ρ.getD i 0 := fun hi => getD_pre pre (by rw [rp.len]; exact hi)
  refine ⟨by simp [rp.len], fun o ho => ?_, fun i o e => ?_, fun i j oi oj ei ej ti tj z => ?_⟩
  · rw [List.length_append]
    rcases List.mem_append.mp ho with q | q
    · exact (rp.wf o q).mono (Nat.le_add_right _ _)
    · simp at q
      rcases q with rfl | rfl
      · exact ⟨by simp, fun p hp => by cases hp⟩
      · show h.length < _; simp
  · rcases cases3 e with ⟨hi, e⟩ | ⟨rfl, rfl⟩ | ⟨rfl, rfl⟩
    · rw [old hi]
      refine ((rp.obj i o e).pre pre (rp.wfO e)).keep fun u q => ?_
      rw [upd_ne (ne_of_none q hx), upd_ne (ne_of_none q hd)]
      exact q
    · rw [gx]
      show upd _ x _ x = some (.ins _ ((ρ ++ [x, dx]).getD (h.length + 1) 0) [])
      rw [upd_same, gd]
    · rw [gd]
      show upd _ x _ dx = some (.own ((ρ ++ [x, dx]).getD h.length 0))
      rw [upd_ne ne, upd_same, gx]
  · rcases cases3 ei with ⟨hi, e1⟩ | ⟨rfl, rfl⟩ | ⟨rfl, rfl⟩ <;> rcases cases3 ej with ⟨hj, e2⟩ | ⟨rfl, rfl⟩ | ⟨rfl, rfl⟩
    · rw [old hi, old hj] at z; exact rp.inj i j oi oj e1 e2 ti tj z
    · rw [old hi, gx] at z; exact absurd z (nex e1 ti)
    · rw [old hi, gd] at z; exact absurd z (ned e1 ti)
    · rw [gx, old hj] at z; exact absurd z.symm (nex e2 tj)
    · rfl
    · rw [gx, gd] at z; exact absurd z.symm ne
    · rw [gd, old hj] at z; exact absurd z.symm (ned e2 tj)
    · rw [gd, gx] at z; exact absurd z ne
    · rfl
/-- C(..): r is what __init__ leaves at the new instance -/
def newR (n : Nat) (r : R W) : R W := r.bind fun v h' => match v with
  | .non => .ok (.ref n) h'
  | _ => .no
abbrev newH (C : Str) (h : Mh) : Mh := h ++ [.ins C (h.length + 1) [], .own h.length]
def mMake (C : Str) (F : Fm) (n nk np : Nat) (dW : List W) (is : List Nat) (ma mk : MAx) : MEx := fun σ h => (ma σ h).bind fun vs h1 => (mk σ h1).bind fun zs h2 =>
  if vs.length = n ∧ zs.length = nk ∧ (sel is (.ref h2.length :: vs ++ zs ++ dW)).length = np then newR h2.length (F (sel is (.ref h2.length :: vs ++ zs ++ dW)) (newH C h2)) else .no
theorem RoomG.make {k : Nat} {A : Around} (r : RoomG (k + 1) A) (C : Addr) (us : List Value) (kw : List (Str × Value)) : RoomG k (A.under (.builtin "type.__call__" ⟨.ref C :: us, kw⟩)) :=
  ⟨r.rm.make C us kw, by first | exact r.gd | (simpa [Around.under, Code.guards, Code.isGuard, pushGuards, guardIds] using r.gd)⟩
section
variable {X : Cx} {Wx : WX} {k n : Nat} {f : Addr} {C : Str} {fd : FuncData} {ps ks : List Str} {F : Fm} {dW : List W} {is : List Nat} {x : Str} {p pos : Pos} {e : Expr} {es : List Expr} {kws : List Keyword} {ma mk : MAx}
theorem run_make_m {pins : List (Addr × Obj)} {σV : L2.St} {H : Hp} {s : Shared} {Q : VK} {us us' : List Value} {kw : List (Str × Value)} {ρ : List Addr} {h : Mh} {ws : List W} (M : Mk X.K (He.ga X.K C) f) (G : FnM X.prog X.w X.K X.mg X.base k f fd ps F) (hr : RoomG (k + 1) X.A) (tk : Takes X Wx) (I : Inv X pins σV H s)
    (hb : ∀ s' : Shared, X.K.In s'.heap → BindsTo s' fd ⟨.ref (s.heap.objs.size + 1) :: us, kw⟩ (ps.zip us')) (r : Vals (cL X.K (ρ ++ [s.heap.objs.size + 1, s.heap.objs.size]) ws) us') (hl : ws.length = ps.length) (rp : Rep X.K ρ h H) (wf : WfL (newH C h).length ws)
    (g : Gd X.K (fun c d H' => Wx c d σV H') ρ wfV (newR h.length (F ws (newH C h))) (fun ρ' _ w H' => Q (cV X.K ρ' w) H')) : wpAny (model X.prog X.w) X.A (call (.ref (He.ga X.K C)) us kw) (EP X pins σV Q) X.xe s := by
  have I2 := Inv.made (C := He.ga X.K C) I
  have hx := I.hok.fresh (Nat.le_succ s.heap.objs.size)
  have hd := I.hok.fresh (Nat.le_refl s.heap.objs.size)
  have r2 := Rep.make (C := C) rp hx hd (Nat.ne_of_lt (Nat.lt_succ_self _))
  have pre : ρ <+: ρ ++ [s.heap.objs.size + 1, s.heap.objs.size] := ⟨_, rfl⟩
  have lh : h.length < (newH C h).length := by simp
  have ex : cV X.K (ρ ++ [s.heap.objs.size + 1, s.heap.objs.size]) (.ref h.length) = .ref (s.heap.objs.size + 1) := by
    show V.ref _ = _
    rw [← rp.len, List.getD_eq_getElem?_getD, List.getElem?_append_right (Nat.le_refl _), Nat.sub_self] <;> rfl
  have g2 := (Gd.pre pre g).bind (wf := wfV)
  refine wpAny_call (make_map (f := f) I.kIn M.makes M.init (beq_iff_eq.mp M.fn) (codeAny_mono (G.run _ X.stack _ _ ⟨Value.ref (s.heap.objs.size + 1) :: us, kw⟩ us' (ρ ++ [s.heap.objs.size + 1, s.heap.objs.size]) (newH C h) ws
    (fun v H' => v = .non ∧ Q (.ref (s.heap.objs.size + 1)) H') (fun c d H' => Wx c d σV H') (hr.make (He.ga X.K C) us kw) (I2.env0.make (He.ga X.K C) us kw) (hb _ I2.kIn) r hl r2 wf (g2.imp fun ρ' h' v H' l' r' w' gv => ?_)) fun rr s' hq => ?_))
  · cases v with
    | non =>
      refine ⟨rfl, ?_⟩
      have fin : Q (cV X.K ρ' (.ref h.length)) H' := gv ρ' H' pre_rfl r' (by
        have := r'.len ▸ l'.length_le
        rw [List.length_append, rp.len] at this
        show h.length < h'.length
        simp at this
        omega)
      rw [show cV X.K ρ' (.ref h.length) = .ref (s.heap.objs.size + 1) from by
        rw [← ex]
        exact cV_pre l' (by rw [r2.len]; exact lh)] at fin
      exact fin
    | _ => exact gv.elim
  · cases rr with
    | error e => exact tk e s' (XE.of_call I2 (fun _ _ _ z => z) hq)
    | ok fl =>
      cases fl with
      | ret u =>
        obtain ⟨v, H', I3, rv, ev, q3⟩ := I2.after hq
        subst ev
        exact ⟨rv, ⟨V.ref (s.heap.objs.size + 1), H', I3, rfl, q3⟩⟩
      | next => exact False.elim hq
      | brk => exact False.elim hq
      | cont => exact False.elim hq
theorem make_m {pins : List (Addr × Obj)} {σV : L2.St} {H : Hp} {s : Shared} {Q : VK} {us ws : List Value} {ρ : List Addr} {h : Mh} {vs zs : List W} (M : Mk X.K (He.ga X.K C) f) (G : FnM X.prog X.w X.K X.mg X.base k f fd ps F) (hr : RoomG (k + 1) X.A) (tk : Takes X Wx) (B : Bd X.K fd ps (n + 1) ks dW is) (I : Inv X pins σV H s)
    (rv : Vals (cL X.K ρ vs) us) (rz : Vals (cL X.K ρ zs) ws) (rp : Rep X.K ρ h H) (wv : WfL h.length vs) (wz : WfL h.length zs)
    (g : Gd X.K (fun c d H' => Wx c d σV H') ρ wfV (if vs.length = n ∧ zs.length = ks.length ∧ (sel is (.ref h.length :: vs ++ zs ++ dW)).length = ps.length then newR h.length (F (sel is (.ref h.length :: vs ++ zs ++ dW)) (newH C h)) else .no) (fun ρ' _ w H' => Q (cV X.K ρ' w) H')) :
    wpAny (model X.prog X.w) X.A (call (.ref (He.ga X.K C)) us (ks.zip ws)) (EP X pins σV Q) X.xe s := by
  split at g
  · rename_i hz
    have l1 : us.length = n := by rw [← rv.length, List.length_map]; exact hz.1
    have l2 : ws.length = ks.length := by rw [← rz.length, List.length_map]; exact hz.2.1
    obtain ⟨ds, rd, hb⟩ := B.to
    have pre : ρ <+: ρ ++ [s.heap.objs.size + 1, s.heap.objs.size] := ⟨_, rfl⟩
    have ex : cV X.K (ρ ++ [s.heap.objs.size + 1, s.heap.objs.size]) (.ref h.length) = .ref (s.heap.objs.size + 1) := by
      show V.ref _ = _
      rw [← rp.len, List.getD_eq_getElem?_getD, List.getElem?_append_right (Nat.le_refl _), Nat.sub_self] <;> rfl
    have lh : h.length ≤ (newH C h).length := by simp
    refine run_make_m (ws := sel is (.ref h.length :: vs ++ zs ++ dW)) (us' := sel is (.ref (s.heap.objs.size + 1) :: us ++ ws ++ ds)) M G hr tk I (fun s' k' => hb s' (.ref (s.heap.objs.size + 1) :: us) ws k' (by simp [l1]) l2) ?_ hz.2.2 rp (sel_wf ((WfL.app (fun z hz => ?_) (wz.mono lh)).app fun z hz => B.flat z hz _)) g
    · rw [cL_sel]
      refine Vals_sel ?_ is
      rw [cL, List.map_append, List.map_append]
      refine Vals.append (Vals.append ?_ ?_) ?_
      · show Vals (cV X.K _ (.ref h.length) :: cL X.K _ vs) _
        rw [ex, cL_pre pre (by rw [rp.len]; exact wv)]
        exact .cons rfl rv
      · show Vals (cL X.K _ zs) _
        rw [cL_pre pre (by rw [rp.len]; exact wz)]
        exact rz
      · rw [show List.map (cV X.K (ρ ++ [s.heap.objs.size + 1, s.heap.objs.size])) dW = cL X.K [] dW from cL_flat B.flat]
        exact rd
    · rcases List.mem_cons.mp hz with q | q
      · rw [q]; show h.length < _; simp
      · exact (wv z q).mono lh
  · exact g.elim
theorem me_make (M : Mk X.K (He.ga X.K C) f) (G : FnM X.prog X.w X.K X.mg X.base k f fd ps F) (hr : RoomG (k + 1) X.A) (tk : Takes X Wx) (hg : Gl X x) (hm : X.mg x = some (.ref (He.ga X.K C))) (B : Bd X.K fd ps (n + 1) [] dW is)
    (ha : MA X Wx (e :: es) ma) (hdb : (x == ("__debug__" : Str)) = false := by decide) (he : starEach (e :: es) X.env = (false, eval e X.env) :: starEach es X.env := by rfl) (hpl : (backTo pos (starEach es X.env)).any (·.1) = false := by rfl) :
    ME X Wx (.Call (.Name x p) (e :: es) [] pos) (mMake C F n 0 ps.length dW is ma mNil) := by
  refine ⟨fun pins s σV H Q I ⟨ρ, h, σ, rp, wf, hs, g⟩ => ?_⟩
  subst hs
  refine wpAny_Call_Name_kw (ld_glob I hg hm ?_ hdb)
  refine PySem.W.callWith_K (h₀ := X.base) I.ok.mod.kin M.kp (thn (ma_run ha I rp wf g.bind) fun us s1 hq => ?_) he hpl
  obtain ⟨ρ1, h1, vs, H1, l1, r1, w1, I1, rv, g1⟩ := hq
  exact ⟨I1.kIn, make_m (ws := []) (zs := []) M G hr tk B I1 rv .nil r1 w1 (fun z hz => by cases hz) g1⟩
theorem me_make0 (M : Mk X.K (He.ga X.K C) f) (G : FnM X.prog X.w X.K X.mg X.base k f fd ps F) (hr : RoomG (k + 1) X.A) (tk : Takes X Wx) (hg : Gl X x) (hm : X.mg x = some (.ref (He.ga X.K C))) (B : Bd X.K fd ps 1 [] dW is) (hdb : (x == ("__debug__" : Str)) = false := by decide) :
    ME X Wx (.Call (.Name x p) [] [] pos) (mMake C F 0 0 ps.length dW is mNil mNil) := by
  refine ⟨fun pins s σV H Q I ⟨ρ, h, σ, rp, wf, hs, g⟩ => ?_⟩
  subst hs
  refine wpAny_Call_Name_kw (ld_glob I hg hm ?_ hdb)
  exact PySem.W.callWith_K0 I.kIn M.kp (make_m (us := []) (ws := []) (vs := []) (zs := []) M G hr tk B I .nil .nil rp (fun z hz => by cases hz) (fun z hz => by cases hz) g)
theorem me_makeK0 (M : Mk X.K (He.ga X.K C) f) (G : FnM X.prog X.w X.K X.mg X.base k f fd ps F) (hr : RoomG (k + 1) X.A) (tk : Takes X Wx) (hg : Gl X x) (hm : X.mg x = some (.ref (He.ga X.K C))) (B : Bd X.K fd ps 1 ks dW is)
    (hkw : MK X Wx kws mk) (hall : (backToKw pos (keywordEach kws X.env)).all (·.1.isSome) = true := by rfl) (hks : (backToKw pos (keywordEach kws X.env)).filterMap (·.1) = ks := by rfl) (hdb : (x == ("__debug__" : Str)) = false := by decide)
    (hpl : ((backTo pos (starEach [] X.env)).any (·.1) || (backToKw pos (keywordEach kws X.env)).any (·.1.isNone)) = false := by rfl) :
    ME X Wx (.Call (.Name x p) [] kws pos) (mMake C F 0 ks.length ps.length dW is mNil mk) := by
  refine ⟨fun pins s σV H Q I ⟨ρ, h, σ, rp, wf, hs, g⟩ => ?_⟩
  subst hs
  refine wpAny_Call_Name_kw (ld_glob I hg hm ?_ hdb)
  refine PySem.W.callWith_KW0 (h₀ := X.base) I.ok.mod.kin M.kp hall (thn (mk_run hkw rfl I rp wf (Gd.bind (r := mk σ h) g)) fun ws s2 hq => ?_) hpl
  obtain ⟨ρ2, h2, zs, H2, l2, r2, w2, I2, rz, g2⟩ := hq
  rw [hks]
  exact ⟨I2.kIn, make_m (us := []) (vs := []) M G hr tk B I2 .nil rz r2 (fun z hz => by cases hz) w2 g2⟩
end
end Mc

namespace Mc
open PySem PySem.Spec PyProof.Rows L2

/-! ### methods of own classes -/
def mMeth (C : Str) (m : Str) (F : Fm) (n nk np : Nat) (dW : List W) (is : List Nat) (mo : MEx) (ma mk : MAx) : MEx := fun σ h => (mo σ h).bind fun x h0 => match insAt h0 x with
  | some (C', _, fs) => if C' = C ∧ fs.lookup m = none then (ma σ h0).bind fun vs h1 => (mk σ h1).bind fun zs h2 =>
      if vs.length = n ∧ zs.length = nk ∧ (sel is (x :: vs ++ zs ++ dW)).length = np then F (sel is (x :: vs ++ zs ++ dW)) h2 else .no
    else .no
  | none => .no
section
variable {X : Cx} {Wx : WX} {k n : Nat} {f : Addr} {C m : Str} {fd : FuncData} {ps ks : List Str} {F : Fm} {dW : List W} {is : List Nat} {p pos apos : Pos} {o e : Expr} {es : List Expr} {kws : List Keyword} {mo : MEx} {ma mk : MAx}
theorem meth_m {pins : List (Addr × Obj)} {σV : L2.St} {H : Hp} {s : Shared} {Q : VK} {us ws : List Value} {u : Value} {ρ : List Addr} {h : Mh} {x : W} {vs zs : List W} (G : FnM X.prog X.w X.K X.mg X.base k f fd ps F) (hr : RoomG k X.A) (tk : Takes X Wx) (B : Bd X.K fd ps (n + 1) ks dW is) (I : Inv X pins σV H s)
    (ru : RelV (cV X.K ρ x) u) (rv : Vals (cL X.K ρ vs) us) (rz : Vals (cL X.K ρ zs) ws) (rp : Rep X.K ρ h H) (wx : wfV h.length x) (wv : WfL h.length vs) (wz : WfL h.length zs)
    (g : Gd X.K (fun c d H' => Wx c d σV H') ρ wfV (if vs.length = n ∧ zs.length = ks.length ∧ (sel is (x :: vs ++ zs ++ dW)).length = ps.length then F (sel is (x :: vs ++ zs ++ dW)) h else .no) (fun ρ' _ w H' => Q (cV X.K ρ' w) H')) :
    wpAny (model X.prog X.w) X.A (call (.ref f) (u :: us) (ks.zip ws)) (EP X pins σV Q) X.xe s := by
  refine call_m (vs := x :: vs) (zs := zs) G hr tk B I (.cons ru rv) rz rp (fun z hz => ?_) wz ?_
  · rcases List.mem_cons.mp hz with q | q
    · rw [q]; exact wx
    · exact wv z q
  · split at g
    · rename_i hz
      rw [if_pos ⟨by rw [List.length_cons, hz.1], hz.2⟩]
      exact g
    · exact g.elim
theorem me_meth {pl : Sem Bool} (ho : ME X Wx o mo) (c : Cls X.K (He.ga X.K C)) (hm : Meth X.K (He.ga X.K C) m f) (G : FnM X.prog X.w X.K X.mg X.base k f fd ps F) (hr : RoomG k X.A) (tk : Takes X Wx) (B : Bd X.K fd ps (n + 1) [] dW is) (ha : MA X Wx (e :: es) ma)
    (hst : starEach (e :: es) X.env = (false, eval e X.env) :: starEach es X.env := by rfl) (hpl : (backTo pos (starEach es X.env)).any (·.1) = false := by rfl)
    (ht : eval (.Call (.Attribute o m apos) (e :: es) [] pos) X.env = (do
      let ov ← eval o X.env
      standAt apos.atName
      let (f, first) ← holding [ov] (getMethod ov m pl)
      callWith pos f first (backTo pos (starEach (e :: es) X.env)) (backToKw pos (keywordEach [] X.env))) := by rfl) :
    ME X Wx (.Call (.Attribute o m apos) (e :: es) [] pos) (mMeth C m F n 0 ps.length dW is mo ma mNil) := by
  refine ⟨fun pins s σV H Q I ⟨ρ, h, σ, rp, wf, hs, g⟩ => ?_⟩
  subst hs
  refine PySem.W.methodCall_KW (pl := pl) (thn (me_run ho I rp wf g.bind) fun u s1 hq => ?_) ht
  obtain ⟨ρ1, h1, x, H1, l1, r1, wx, I1, ru, g1⟩ := hq
  split at g1
  · rename_i C' dx fs q
    obtain ⟨i, rfl, q1, q2, q3, q4⟩ := insAt_ok r1 q
    obtain rfl : u = Value.ref (ρ1.getD i 0) := ru
    split at g1
    · rename_i hz
      obtain ⟨rfl, hl⟩ := hz
      refine getmeth_ok I1 q2 c hm (by rw [lookup_c, hl] <;> rfl) ?_
      have w1 := wf.mono (rp.up r1 l1)
      have es := cS_pre (K := X.K) l1 (rp.wfS wf)
      rw [← es] at I1
      refine PySem.W.callWith_K (first := [.ref (ρ1.getD i 0)]) (h₀ := X.base) I.ok.mod.kin hm.kp (thn (ma_run (Wx := Wx) (pos := pos) ha I1 r1 w1 (by rw [es]; exact g1.bind)) fun us s2 hq => ?_) hst hpl
      obtain ⟨ρ2, h2, vs, H2, l2, r2, w2, I2, rv, g2⟩ := hq
      rw [es] at I2
      have wx2 := wx.mono (r1.up r2 l2)
      have ru2 : RelV (cV X.K ρ2 (.ref i)) (Value.ref (ρ1.getD i 0)) := by rw [r1.cv l2 wx]; rfl
      exact ⟨I2.kIn, meth_m (ws := []) (zs := []) G hr tk B I2 ru2 rv .nil r2 wx2 w2 (fun z hz => by cases hz) g2⟩
    · exact g1.elim
  · exact g1.elim
theorem me_meth0 {pl : Sem Bool} (ho : ME X Wx o mo) (c : Cls X.K (He.ga X.K C)) (hm : Meth X.K (He.ga X.K C) m f) (G : FnM X.prog X.w X.K X.mg X.base k f fd ps F) (hr : RoomG k X.A) (tk : Takes X Wx) (B : Bd X.K fd ps 1 [] dW is)
    (ht : eval (.Call (.Attribute o m apos) [] [] pos) X.env = (do
      let ov ← eval o X.env
      standAt apos.atName
      let (f, first) ← holding [ov] (getMethod ov m pl)
      callWith pos f first (backTo pos (starEach [] X.env)) (backToKw pos (keywordEach [] X.env))) := by rfl) :
    ME X Wx (.Call (.Attribute o m apos) [] [] pos) (mMeth C m F 0 0 ps.length dW is mo mNil mNil) := by
  refine ⟨fun pins s σV H Q I ⟨ρ, h, σ, rp, wf, hs, g⟩ => ?_⟩
  subst hs
  refine PySem.W.methodCall_KW (pl := pl) (thn (me_run ho I rp wf g.bind) fun u s1 hq => ?_) ht
  obtain ⟨ρ1, h1, x, H1, l1, r1, wx, I1, ru, g1⟩ := hq
  split at g1
  · rename_i C' dx fs q
    obtain ⟨i, rfl, q1, q2, q3, q4⟩ := insAt_ok r1 q
    have ru0 := ru
    obtain rfl : u = Value.ref (ρ1.getD i 0) := ru
    split at g1
    · rename_i hz
      obtain ⟨rfl, hl⟩ := hz
      refine getmeth_ok I1 q2 c hm (by rw [lookup_c, hl] <;> rfl) ?_
      exact PySem.W.callWith_K0 (first := [.ref (ρ1.getD i 0)]) I1.kIn hm.kp (meth_m (us := []) (ws := []) (vs := []) (zs := []) G hr tk B I1 ru0 .nil .nil r1 wx (fun z hz => by cases hz) (fun z hz => by cases hz) g1)
    · exact g1.elim
  · exact g1.elim
end

/-! ### properties -/
def mProp (C : Str) (F : Fm) (mo : MEx) : MEx := fun σ h => (mo σ h).bind fun x h0 => match insAt h0 x with
  | some (C', _, _) => if C' = C then (match F [x] h0 with
    | .ok v h1 => .ok v h1
    | _ => .no) else .no
  | none => .no
theorem RoomG.in1 {k : Nat} {A : Around} (r : RoomG (k + 1) A) : RoomG k A.in1 := ⟨r.rm.in1, r.gd⟩
section
variable {X : Cx} {Wx : WX} {k : Nat} {C f : Str} {p g : Addr} {fd : FuncData} {ps : List Str} {F : Fm} {dW : List W} {is : List Nat} {o e : Expr} {pos : Pos} {mo : MEx}
theorem me_prop (ho : ME X Wx o mo) (c : Cls X.K (He.ga X.K C)) (hp : PropOf X.K (He.ga X.K C) f p g) (G : FnM X.prog X.w X.K X.mg X.base k g fd ps F) (hr : RoomG (k + 1) X.A) (B : Bd X.K fd ps 1 [] [] [0]) (h1 : ps.length = 1)
    (hab : attributeBase o f X.env (eval o X.env) = eval o X.env := by rfl) : ME X Wx (.Attribute o f pos) (mProp C F mo) := by
  refine ⟨fun pins s σV H Q I ⟨ρ, h, σ, rp, wf, hs, g0⟩ => ?_⟩
  subst hs
  refine attr_of hab (thn (me_run ho I rp wf g0.bind) fun u s1 hq => ?_)
  obtain ⟨ρ1, h1', x, H1, l1, r1, wx, I1, ru, g1⟩ := hq
  split at g1
  · rename_i C' dx fs q
    obtain ⟨i, rfl, q1, q2, q3, q4⟩ := insAt_ok r1 q
    have ru0 := ru
    obtain rfl : u = Value.ref (ρ1.getD i 0) := ru
    split at g1
    · rename_i hz
      subst hz
      obtain ⟨mA, O, _, _, _, _⟩ := ins_get I1.hok q2
      obtain ⟨od, J, _⟩ := O.look
      obtain ⟨rest, hrec⟩ := hp.rec_
      have I2 := I1.tok (s1.toks + 1)
      have hc : (PySem.W.clsIn X.K (He.ga X.K C')).isSome = true := by
        obtain ⟨cd, hcd, _⟩ := PySem.W.any_some c.hd
        rw [hcd] <;> rfl
      obtain ⟨ds, rd, hb⟩ := B.to
      cases rd
      have plain := PySem.W.plainGet_of (c.get f)
      refine PySem.W.get_bind I1.kIn J plain.1 (PySem.W.findObj_data hc hp.at_ hp.get hp.tak) plain.2 (wpAny_call (PySem.W.prop_get (s := { s1 with toks := s1.toks + 1 }) I1.kIn hrec ?_))
      cases qF : F [.ref i] h1' with
      | no => rw [qF] at g1; exact g1.elim
      | ex y hh => rw [qF] at g1; exact g1.elim
      | ok v h2 =>
        rw [qF] at g1
        refine codeAny_mono (G.run X.A.in1 X.stack { s1 with toks := s1.toks + 1 } H1 ⟨[.ref (ρ1.getD i 0)], []⟩ [.ref (ρ1.getD i 0)] ρ1 h1' [.ref i] Q (fun _ _ _ => False) hr.in1 I2.env0.in1 (hb _ [.ref (ρ1.getD i 0)] [] I2.kIn rfl rfl) (.cons rfl .nil) (by rw [h1] <;> rfl) r1 (fun z hz => by rw [List.mem_singleton.mp hz]; exact wx) (by rw [qF]; exact g1)) fun rr s' hq => ?_
        cases rr with
        | error er =>
          obtain ⟨_, _, _, _, _, _, _, _, _, _, _, _, z⟩ := hq
          exact z.elim
        | ok fl =>
          cases fl with
          | ret u =>
            obtain ⟨v3, H3, I3, rv3, q3⟩ := I2.after hq
            show wpAny _ _ (handedOut u) _ _ _
            rw [PySem.W.handedOut_of (handed_of rv3)]
            exact wpAny_pure ⟨v3, H3, I3, rv3, q3⟩
          | next => exact False.elim hq
          | brk => exact False.elim hq
          | cont => exact False.elim hq
    · exact g1.elim
  · exact g1.elim
end
end Mc

namespace Mc
open PySem PySem.Spec PyProof.Rows L2

/-! ### isinstance -/
/-- a class: a built-in's name, an own one's -/
inductive Ty where
  | b (n : String) | c (x : Str)
  deriving DecidableEq
def Ty.v (K : Frag) : Ty → Value
  | .b n => .type n
  | .c x => .ref (He.ga K x)
def Ty.w : Ty → W
  | .b n => .ty n
  | .c x => .glo x
/-- the class of a value -/
def tyOf (h : Mh) : W → Option Ty
  | .non => some (.b "NoneType")
  | .bl _ => some (.b "bool")
  | .int _ => some (.b "int")
  | .str _ => some (.b "str")
  | .ref i => match h[i]? with
    | some (.lst _) => some (.b "list")
    | some (.tup _) => some (.b "tuple")
    | some (.dK _) => some (.b "dict")
    | some (.ins C _ _) => some (.c C)
    | _ => none
  | _ => none
/-- what isinstance looks at in an own class -/
structure ClsI (K : Frag) (C : Str) : Prop where
  cl : Cls K (He.ga K C)
  ha : PySem.W.findIn K (.ref (He.ga K C)) "__class__" = some (some (.builtin "object.__class__"))
  hn : PySem.W.specialIn K (.builtin "object.__class__") "__get__" = some (some (.builtin "getset_descriptor.__get__"))
  tk : PySem.W.takesIn K (.builtin "object.__class__") = some true
  hm : PySem.W.mroIn K (He.ga K C) (.type "object") = some true
theorem tyOf_ok {K : Frag} {ρ : List Addr} {h : Mh} {H : Hp} {w : W} {t : Ty} (rp : Rep K ρ h H) (e : tyOf h w = some t) (hc : ∀ C, t = .c C → ClsI K C) : TyX K H (cV K ρ w) (t.v K) := by
  refine .base ?_
  cases w with
  | non => cases e; exact .non
  | bl b => cases e; exact .bl b
  | int i => cases e; exact .int i
  | str x => cases e; exact .str x
  | ref i =>
    have e : (match h[i]? with
      | some (.lst _) => some (Ty.b "list")
      | some (.tup _) => some (Ty.b "tuple")
      | some (.dK _) => some (Ty.b "dict")
      | some (.ins C _ _) => some (Ty.c C)
      | _ => none) = some t := e
    cases q : h[i]? with
    | none => rw [q] at e; cases e
    | some o =>
      have ob := rp.obj i o q
      rw [q] at e
      cases o with
      | lst xs => cases e; exact .lst ob
      | tup xs => cases e; exact .tup ob
      | dK xs => cases e; exact .dK ob
      | ins C dx fs => cases e; exact .ins ob (hc C rfl).cl (hc C rfl).ha (hc C rfl).hn (hc C rfl).tk (hc C rfl).hm
      | _ => cases e
  | _ => cases e
/-- isa: the answers, told for the classes that may be met -/
def kIsi (isa : Ty → Ty → Option Bool) (u : Ty) (x : W) (h : Mh) : R W := match tyOf h x with
  | some t => (match isa t u with
    | some b => .ok (.bl b) h
    | none => .no)
  | none => .no
def mIsi (isa : Ty → Ty → Option Bool) (u : Ty) (m : MEx) : MEx := m1 (kIsi isa u) m
def IsaOk (K : Frag) (isa : Ty → Ty → Option Bool) (u : Ty) : Prop := ∀ t b, isa t u = some b → PySem.W.kitOne K (t.v K) (u.v K) = some b ∧ ∀ C, t = .c C → ClsI K C
def kIsi2 (isa : Ty → Ty → Option Bool) (u : Ty) (ws : List W) (h : Mh) : R W := match ws with
  | [x, y] => if y = u.w then kIsi isa u x h else .no
  | _ => .no
section
variable {X : Cx} {Wx : WX} {a b : Expr} {ma : MEx} {p pos : Pos} {u : Ty} {isa : Ty → Ty → Option Bool}
theorem me_isi (hi : IsaOk X.K isa u) (hg : Gl X "isinstance") (hm : X.mg "isinstance" = none) (ha : ME X Wx a ma) (hb : ME X Wx b (mC u.w)) (he : starEach [a, b] X.env = (false, eval a X.env) :: starEach [b] X.env := by rfl) (hpl : (backTo pos (starEach [b] X.env)).any (·.1) = false := by rfl)
    (he2 : starEach [b] X.env = (false, eval b X.env) :: starEach [] X.env := by rfl) : ME X Wx (.Call (.Name "isinstance" p) [a, b] [] pos) (mIsi isa u ma) := by
  refine peI (me_callB (k := kIsi2 isa u) call_isi (fun E ρ h H ws Q rp wf gd => ?_) hg hm (by decide +kernel) (ma_cons ha (ma_cons hb ma_nil he2) he) (by decide) (by decide) he hpl) fun σV H Q ⟨ρ, h, σ, rp, wf, hs, g⟩ => ⟨ρ, h, σ, rp, wf, hs, ?_⟩
  · unfold kIsi2 at gd
    split at gd
    · rename_i x y
      split at gd
      · rename_i hy
        subst hy
        unfold kIsi at gd
        split at gd
        · rename_i t ht
          split at gd
          · rename_i bb hb
            refine ⟨_, _, t.v X.K, u.v X.K, bb, rfl, ?_, tyOf_ok rp ht (hi t bb hb).2, (hi t bb hb).1, gd_ok rp gd trivial⟩
            cases u with
            | b n => exact .ty n
            | c x => exact .own _
          · exact gd.elim
        · exact gd.elim
      · exact gd.elim
    · exact gd.elim
  · unfold mIsi m1 at g
    unfold mArg mCons mNil mC
    cases q : ma σ h with
    | no => rw [q] at g; exact g
    | ex y hh => rw [q] at g; exact g
    | ok w h1 =>
      rw [q] at g
      simp only [R.bind, kIsi2, if_true]
      exact g
end

/-! ### repr -/
def kRepr (ws : List W) (h : Mh) : R W := match ws with
  | [x] => match rd 40 h x with
    | some d => if d.showable && decide (d.depth ≤ 64) && decide (d.shown.length ≤ lim) && !d.hasDict then .ok (.str d.shown) h else .no
    | none => .no
  | _ => .no
section
variable {X : Cx} {Wx : WX} {e : Expr} {m : MAx} {p pos : Pos} {k : Nat}
def rReprD (K : Frag) : List V → Hp → VK → Prop := fun xs H Q => ∃ (x : V) (d : PyData), xs = [x] ∧ Dp K H x d ∧ d.showable = true ∧ d.depth ≤ 64 ∧ d.shown.length ≤ sizeLine ∧ d.hasDict = false ∧ Q (.str d.shown) H
theorem call_reprD (hr : RoomG k X.A) : CallR X (.builtin "repr") (rReprD X.K) := by
  intro pins s σ H xs us Q I r h
  obtain ⟨x, d, rfl, hd, hs, hdp, hz, hnd, q⟩ := h
  obtain ⟨u, rfl, rx⟩ := vals1 r
  have hu := hr.rm.un
  obtain ⟨as, rr⟩ := Dp.reads I d x u hd rx
  cases x with
  | ref a =>
    cases rx
    refine repr_of_reads' rr hs (PyData.noDict_hsm hnd) hr.gd (by omega) (fun b o e => e) (fun h' u' tk hk => ?_) hz
    exact I.after ⟨.str d.shown, H, rfl, I.bare, Un.kept hk, I.hok.kept hk, ⟨_, rfl⟩, q⟩
  | non =>
    cases (show u = Value.none from rx)
    cases hd
    exact PySem.P.repr_of_none ⟨.str _, H, I.tok _, ⟨_, rfl⟩, q⟩
  | bl b =>
    cases (show u = Value.bool b from rx)
    cases hd
    exact PySem.P.repr_of_bool ⟨.str _, H, I.tok _, ⟨_, rfl⟩, q⟩
  | int i =>
    obtain ⟨t, e⟩ := (show ∃ t, u = Value.int i t from rx)
    cases e
    cases hd
    exact PySem.P.repr_of_int (of_decide_eq_true hs) ⟨.str _, H, I.tok _, ⟨_, rfl⟩, q⟩
  | str x =>
    obtain ⟨t, e⟩ := (show ∃ t, u = Value.str x t from rx)
    cases e
    cases hd
    exact PySem.P.repr_of_str ⟨.str _, H, I.tok _, ⟨_, rfl⟩, q⟩ hz
  | _ => cases hd
theorem cm_repr {K : Frag} : CallM K (rReprD K) kRepr := fun E ρ h H ws Q rp wf gd => by
  unfold kRepr at gd
  split at gd
  · split at gd
    · rename_i d hd
      split at gd
      · rename_i hz
        simp only [Bool.and_eq_true, decide_eq_true_eq, Bool.not_eq_true'] at hz
        obtain ⟨⟨⟨z1, z2⟩, z3⟩, z4⟩ := hz
        exact ⟨_, d, rfl, rd_ok rp _ _ _ hd, z1, z2, lim_sz z3, z4, gd_ok rp gd trivial⟩
      · exact gd.elim
    · exact gd.elim
  · exact gd.elim
theorem me_repr (hr : RoomG k X.A) (hg : Gl X "repr") (hm : X.mg "repr" = none) (ha : MA X Wx [e] m) (he : starEach [e] X.env = (false, eval e X.env) :: starEach [] X.env := by rfl) (hpl : (backTo pos (starEach [] X.env)).any (·.1) = false := by rfl) : ME X Wx (.Call (.Name "repr" p) [e] [] pos) (mArg kRepr m) :=
  me_callB (call_reprD hr) cm_repr hg hm (by decide +kernel) ha (by decide) (by decide) he hpl
end

/-! ### len, of an own class's instances too -/
/-- ls: the classes with a __len__ of their own, and what it gives -/
def kLenO (ls : List (Str × Fm)) (ws : List W) (h : Mh) : R W := match ws with
  | [w] => match insAt h w with
    | some (C, _, _) => (match ls.lookup C with
      | some F => (F [w] h).bind fun v h' => match v with
        | .int n => if 0 ≤ n ∧ n < 1000000000 then .ok (.int n) h' else .no
        | _ => .no
      | none => .no)
    | none => kLen ws h
  | _ => .no
structure LenD (P : Program) (w : World) (K : Frag) (mg : Mg) (base : Heap) (k : Nat) (C : Str) (F : Fm) : Prop where
  ex : ∃ (f : Addr) (fd : FuncData) (ps : List Str), PySem.W.findIn K (.ref (He.ga K C)) "__len__" = some (some (.ref f)) ∧ PySem.W.isFn K (.ref f) = true ∧ FnM P w K mg base k f fd ps F ∧ Bd K fd ps 1 [] [] [0] ∧ ps.length = 1
section
variable {X : Cx} {Wx : WX} {e : Expr} {m : MAx} {p pos : Pos} {k : Nat} {ls : List (Str × Fm)}
theorem lookup_mem2 {C : Str} {F : Fm} : ∀ {l : List (Str × Fm)}, l.lookup C = some F → (C, F) ∈ l
  | [], e => by cases e
  | (D, G) :: l, e => by
    rw [List.lookup_cons] at e
    cases q : C == D with
    | true => rw [q] at e; cases e; rw [beq_iff_eq.mp q]; exact List.mem_cons_self
    | false => rw [q] at e; exact List.mem_cons_of_mem _ (lookup_mem2 e)
theorem me_len (hr : RoomG (k + 1) X.A) (tk : Takes X Wx) (hL : ∀ q ∈ ls, LenD X.prog X.w X.K X.mg X.base k q.1 q.2) (hg : Gl X "len") (hm : X.mg "len" = none) (ha : MA X Wx [e] m)
    (he : starEach [e] X.env = (false, eval e X.env) :: starEach [] X.env := by rfl) (hpl : (backTo pos (starEach [] X.env)).any (·.1) = false := by rfl) : ME X Wx (.Call (.Name "len" p) [e] [] pos) (mArg (kLenO ls) m) := by
  refine ⟨fun pins s σV H Q I ⟨ρ, h, σ, rp, wf, hs, g⟩ => ?_⟩
  subst hs
  refine wpAny_Call_Name_kw (ld_blt I hg hm PySem.boot_len ?_ (by decide) (by decide))
  refine PyProof.Rows.callWith_builtin1 (thn (ma_run ha I rp wf g.bind) fun us s1 hq => ?_) he hpl
  obtain ⟨ρ1, h1, ws, H1, l1, r1, w1, I1, rv, g1⟩ := hq
  unfold kLenO at g1
  split at g1
  · rename_i w
    split at g1
    · rename_i C dx fs q
      obtain ⟨i, rfl, q1, q2, q3, q4⟩ := insAt_ok r1 q
      have rv0 := rv
      obtain ⟨u, rfl, ru⟩ := vals1 rv
      obtain rfl : u = Value.ref (ρ1.getD i 0) := ru
      split at g1
      · rename_i F hF
        obtain ⟨f, fd, ps, f1, f2, G, B, hp⟩ := (hL _ (lookup_mem2 hF)).ex
        obtain ⟨mA, O, _, _, _, _⟩ := ins_get I1.hok q2
        obtain ⟨od, J, _⟩ := O.look
        obtain ⟨mf, Fr0⟩ := I1.fr
        obtain ⟨ds, rd, hb⟩ := B.to
        cases rd
        refine PySem.W.len_K Fr0 I1.mod.kin J f1 f2 (wpAny_call ?_)
        have g2 := Gd.bind (wf := wfV) g1
        refine codeAny_mono (G.run X.A.in1 X.stack s1 H1 ⟨[.ref (ρ1.getD i 0)], []⟩ [.ref (ρ1.getD i 0)] ρ1 h1 [.ref i] (fun v H' => ∃ n : Int, v = .int n ∧ (0 ≤ n ∧ n < 2 ^ 63) ∧ Q (.int n) H') _ hr.in1 I1.env0.in1 (hb _ [.ref (ρ1.getD i 0)] [] I1.kIn rfl rfl) rv0 (by rw [hp] <;> rfl) r1 w1 (g2.imp fun ρ2 h2 v H2 l2 r2 w2 g3 => ?_)) fun rr s' hq => ?_
        · cases v with
          | int n =>
            have g3 : Gd X.K _ ρ2 wfV (if 0 ≤ n ∧ n < 1000000000 then R.ok (W.int n) h2 else R.no) _ := g3
            split at g3
            · rename_i hz
              exact ⟨n, rfl, ⟨hz.1, by omega⟩, gd_ok r2 g3 trivial⟩
            · exact g3.elim
          | _ => exact g3.elim
        · cases rr with
          | error er => exact tk er s' (XE.of_call I1 (fun _ _ _ z => z) hq)
          | ok fl =>
            cases fl with
            | ret u =>
              obtain ⟨v3, H3, I3, rv3, n, rfl, hn, q3⟩ := I1.after hq
              obtain ⟨t, e⟩ := (show ∃ t, u = Value.int n t from rv3)
              cases e
              exact ⟨hn, .int n, H3, I3.tok _, ⟨_, rfl⟩, q3⟩
            | next => exact False.elim hq
            | brk => exact False.elim hq
            | cont => exact False.elim hq
      · exact g1.elim
    · exact call_len pins s1 _ H1 _ us Q I1 rv (cm_len _ ρ1 h1 H1 _ Q r1 w1 g1)
  · exact g1.elim
end
end Mc

/-! enumerate of a tuple -/
namespace Mc
open PySem PySem.Spec PyProof.Rows L2
theorem isTuple_of {h : Heap} {a : Addr} {xs : Array Value} (p : IsTup h a xs) : h.IsTuple a xs := p
theorem meets_enum1 {v : Value} {ob : Obj} {Hd : Heap → Prop} (B : Begins v ob Hd) :
    Meets (Builtin.«enumerate.__new__» ⟨[.type "enumerate", v], []⟩) (fun _ R s => Hd s.heap ∧
      R (.ok (.ret (.ref (s.heap.push ob).objs.size))) { s with heap := (s.heap.push ob).push { cls := .type "enumerate", data := .fields #[.none, .bool false, .ref s.heap.objs.size, rawInt 0, .none, .none] } }) :=
  .of_wp fun prog w A R s hh => by
    obtain ⟨hp, g, d, tk, os⟩ := s
    obtain ⟨h1, hh⟩ := hh
    have hsub := sub_enumerate
    have itr : ∀ {A' : Around} {E : Value → Shared → Prop} {Q : Value → Shared → Prop}, Q (.ref hp.objs.size) ⟨hp.push ob, g, d, tk, os⟩ → wpAny (model prog w) A' (pyIter v) Q E ⟨hp, g, d, tk, os⟩ := fun q => B.iter prog w _ _ ⟨hp, g, d, tk, os⟩ _ h1 q
    wp_walk using itr
    refine wpAny_stack_any fun st => wpAny_pure ?_
    split
    · rename_i c _ _ _ _ _
      cases (c == Value.type "enumerate") <;> (wp_walk using itr; exact ⟨_, rfl, hh⟩)
    · wp_walk using itr
      exact ⟨_, rfl, hh⟩
theorem call_enum1 {prog : Program} {w : World} {A : Around} {E : Value → Shared → Prop} {s : Shared} {v : Value} {ob : Obj} {Hd : Heap → Prop} {Q : Value → Shared → Prop} (B : Begins v ob Hd) (h1 : Hd s.heap)
    (hq : ∀ h', IsEnum h' (s.heap.objs.size + 1) s.heap.objs.size 0 .none → h'.get? s.heap.objs.size = some ob → (∀ b o, s.heap.get? b = some o → h'.get? b = some o) → Q (.ref (s.heap.objs.size + 1)) { s with heap := h' }) :
    wpAny (model prog w) A (call (.type "enumerate") [v]) Q E s := by
  refine callType_new F.called_enumerate (by decide) (F.typeCall_enumerate_1 _) (F.newCall_enumerate_1 _) (fun obj => F.args_object_init_2 obj _) F.entry_enumerate_new (meets_enum1 B) ⟨h1, ?_⟩
  have sz : (s.heap.push ob).objs.size = s.heap.objs.size + 1 := Heap.size_push ..
  show _ ∧ _
  rw [sz]
  have hen : IsEnum ((s.heap.push ob).push { cls := .type "enumerate", data := .fields #[.none, .bool false, .ref s.heap.objs.size, rawInt 0, .none, .none] }) (s.heap.objs.size + 1) s.heap.objs.size 0 .none := by
    have z := Heap.get?_push_size (s.heap.push ob) (o := { cls := .type "enumerate", data := .fields #[.none, .bool false, .ref s.heap.objs.size, rawInt 0, .none, .none] }) rfl
    rw [sz] at z
    exact z
  exact ⟨⟨_, hen, rfl⟩, hq _ hen (Heap.get?_push_of_some _ (Heap.get?_push_size _ B.free)) fun b o x => Heap.get?_push_of_some _ (Heap.get?_push_of_some _ x)⟩
/-- the tuple at a, each item in a new pair -/
def IteT (K : Frag) (a : Addr) : It :=
  ⟨fun i H => ∃ (xs : List V) (x : V), SqT K H a xs ∧ xs[i]? = some x, fun i H v H' => ∃ T x, v = .ref T ∧ H T = none ∧ H' = upd H T (.tup [.int (i : Nat), x]) ∧ ∀ xs, SqT K H a xs → xs[i]? = some x, fun i H => ∃ xs : List V, SqT K H a xs ∧ xs.length = i⟩
theorem tup_inj {X : Cx} {pins : List (Addr × Obj)} {σ : L2.St} {H : Hp} {s : Shared} {a : Addr} {xs ys : List V} (I : Inv X pins σ H s) (h1 : SqT X.K H a xs) (h2 : SqT X.K H a ys) : xs = ys := I.tuple_inj h1 h2
theorem turn_enumT {P : Program} {w : World} {K : Frag} {elts : List Expr} {kk : Nat} {tpos : Pos} (a e it : Addr) :
    Turn P w K (.Tuple elts kk tpos) (IteT K a) [e, it] e (fun i h => (∃ old, IsEnum h e it ((i : Nat) : Int) old) ∧ h.IsTupleIter it a i ∧ e ≠ it ∧ a ≠ it ∧ e ≠ a) where
  mem := by simp
  obj := fun i h st b hb => by
    obtain ⟨⟨old, he⟩, ⟨o, ho, hc, hd⟩, _⟩ := st
    rcases (show b = e ∨ b = it by simpa using hb) with z | z
    · rw [z]; exact ⟨_, he, fun v q => nomatch q⟩
    · rw [z]; exact ⟨o, ho, fun v q => by rw [hd] at q; cases q⟩
  keep := fun i h h' st k => let ⟨⟨old, he⟩, hi, hne⟩ := st; ⟨⟨old, k e (by simp) _ he⟩, hi.at fun o q => k it (by simp) o q, hne⟩
  item := by
    intro X hP hw hK hc i pins s σ H E I hf st hg
    subst hP hw hK
    obtain ⟨⟨old, he⟩, hit, hne, hai, hea⟩ := st
    obtain ⟨xs, x, hq, hx⟩ := hg
    obtain ⟨its, rv, p, hz⟩ := I.tuple hq
    obtain ⟨u, hu, ru⟩ := rv.get hx
    have hel : e < s.heap.objs.size := Heap.lt_size he
    have hil : it < s.heap.objs.size := by obtain ⟨_, q, _⟩ := hit; exact Heap.lt_size q
    have D := Draws.tuple (prog := X.prog) (w := X.w) (A := X.A.in1) (I.ok.hd hc) it a hai its.toArray
    have hlt : i < its.toArray.size := by
      have := (List.getElem?_eq_some_iff.mp hu).1
      simpa using this
    refine wpAny_pyNext_enum_itemC D he ⟨hit, isTuple_of p⟩ hlt hne (by simp [hne, hea]) fun x' h' tk hx' ho hit' hT hsz hk => ?_
    have ex : x' = u := by
      have h1 : its[i]? = some x' := by simpa using hx'
      rw [hu] at h1
      exact (Option.some.inj h1).symm
    subst ex
    refine ⟨_, rfl, wpAny_letOwnedTupleGo_enum (s := { s with heap := h', toks := tk + 1 }) ho fun h'' he' sb => ?_⟩
    have hT2 : h''.get? s.heap.objs.size = some { cls := .type "tuple", data := .seq #[.int i tk, x'] } := (sb.2 _ (Nat.ne_of_gt hel)).trans hT
    have new : ObjOk X.prog X.w (upd H s.heap.objs.size (.tup [.int (i : Nat), x])) h'' s.heap.objs.size (.tup [.int (i : Nat), x]) :=
      ⟨by show 2 ≤ sizeLine; decide, [.int i tk, x'], .cons ⟨_, rfl⟩ (.cons ru .nil), ⟨_, hT2, rfl, _, rfl⟩⟩
    have I1 : Inv X pins σ (upd H s.heap.objs.size (.tup [.int (i : Nat), x])) { s with heap := h'', toks := tk + 1 } :=
      I.turnedNew (ch := [e, it]) (fun b ob hb q => (sb.2 b (fun z => hb (by simp [z]))).trans (hk b ob (fun z => hb (by simp [z])) (fun z => hb (by simp [z])) q)) hf (Nat.le_refl _) new
    refine ⟨.ref s.heap.objs.size, _, I1, rfl, ⟨_, x, rfl, I.hok.fresh (Nat.le_refl _), rfl, fun ys hy => by rw [tup_inj I hy hq]; exact hx⟩, ⟨⟨x', ?_⟩, hit'.1.at fun o q => (sb.2 it (Ne.symm hne)).trans q, hne, hai, hea⟩, fun b hb => ?_⟩
    · have e1 : ((i + 1 : Nat) : Int) = (i : Int) + 1 := by omega
      rw [e1]; exact he'
    · have hb' : b < s.heap.objs.size := by
        rcases (show b = e ∨ b = it by simpa using hb) with z | z
        · rw [z]; exact hel
        · rw [z]; exact hil
      rw [upd_ne (Nat.ne_of_lt hb')]
      exact (hf b hb).1
  done := by
    intro X hP hw hK hc i pins s σ H E I hf st hg
    subst hP hw hK
    obtain ⟨⟨old, he⟩, hit, hne, hai, hea⟩ := st
    obtain ⟨xs, hq, hx⟩ := hg
    obtain ⟨its, rv, p, hz⟩ := I.tuple hq
    obtain ⟨f0, f1, f2, f3, f4, f5⟩ := hf it (by simp)
    have hl := rv.length
    have D := Draws.tuple (prog := X.prog) (w := X.w) (A := X.A.in1) (I.ok.hd hc) it a hai its.toArray
    have ei : its.toArray.size = i := by simp; omega
    subst ei
    exact wpAny_pyNext_enum_endD D he ⟨hit, isTuple_of p⟩ fun h' eb => ⟨rfl, I.turned (t' := s.toks) (fun b o hb q => eb b o hb q) f0 f1 f3 f4 f5⟩
  self := fun A i s Q E st h => let ⟨⟨_, he⟩, _⟩ := st; wpAny_pyIter_enum he h
def iEnumT (K : Frag) (ta : TA) : TI := fun σ H R => ta σ H fun vs H1 => ∃ a xs, vs = [.ref a] ∧ SqT K H1 a xs ∧ R (IteT K a) H1
theorem pi_enumT {X : Cx} {e : Expr} {ta : TA} {p pos tpos : Pos} {elts : List Expr} {kk : Nat} (hg : Gl X "enumerate") (hm : X.mg "enumerate" = none) (ha : PA X [e] ta) (hs : starEach [e] X.env = [(false, eval e X.env)] := by rfl) :
    PI X (.Tuple elts kk tpos) (.Call (.Name "enumerate" p) [e] [] pos) (iEnumT X.K ta) := by
  refine ⟨fun pins s σ H R I h => ?_⟩
  refine Call_ (ld_blt I hg hm boot_enumerate (PyProof.Rows.callWith_type1 (thn (ha.run pos pins s σ H _ I h) fun us s1 ⟨vs, H1, I1, r1, q1⟩ => ?_) hs rfl))
  obtain ⟨a, xs, ex, hq, q⟩ := q1
  subst ex
  cases r1 with
  | cons r rr =>
    cases rr
    cases r
    obtain ⟨its, rv, p', hz⟩ := I1.tuple hq
    have hal : a < s1.heap.objs.size := p'.lt
    refine call_enum1 (begins_tuple a its.toArray) (isTuple_of p') fun h' he hit hk => wpAny_pyIter_enum he ?_
    have I2 : Inv X pins σ H1 { s1 with heap := h' } := I1.kept (t' := s1.toks) hk
    refine ⟨s1.heap.objs.size + 1, [s1.heap.objs.size + 1, s1.heap.objs.size], _, _, H1, rfl, I2, turn_enumT a (s1.heap.objs.size + 1) s1.heap.objs.size, ⟨⟨.none, he⟩, ⟨_, hit, rfl, rfl⟩, Nat.succ_ne_self _, Nat.ne_of_lt hal, (Nat.ne_of_lt (Nat.lt_succ_of_lt hal)).symm⟩, fun b hb => ?_, q⟩
    have hle : s1.heap.objs.size ≤ b := by
      rcases (show b = s1.heap.objs.size + 1 ∨ b = s1.heap.objs.size by simpa using hb) with z | z
      · rw [z]; exact Nat.le_add_right _ _
      · rw [z]; exact Nat.le_refl _
    exact I1.fpOk hle (I1.hok.fresh hle)
/-! ### enumerate in the machine -/
def jEnL (a : W) (xs : List W) : ItM := ⟨xs.length, fun i h => if seqL h a = some xs then (xs[i]?).map fun w => (.ref h.length, h ++ [.tup [.int i, w]]) else none, fun h => decide (seqL h a = some xs)⟩
def jEnT (a : W) (xs : List W) : ItM := ⟨xs.length, fun i h => if seqT h a = some xs then (xs[i]?).map fun w => (.ref h.length, h ++ [.tup [.int i, w]]) else none, fun h => decide (seqT h a = some xs)⟩
def iEn (m : MAx) : MIx := fun σ h => (m σ h).bind fun ws h' => match ws with
  | [w] => match seqL h' w with
    | some xs => .ok (jEnL w xs) h'
    | none => match seqT h' w with
      | some xs => .ok (jEnT w xs) h'
      | none => .no
  | _ => .no
/-- a new pair each turn -/
theorem new_pair {K : Frag} {ρ : List Addr} {h : Mh} {H : Hp} {T : Addr} {ws : List W} (rp : Rep K ρ h H) (nT : H T = none) (ww : WfL h.length ws) : ∃ ρ', ρ <+: ρ' ∧ Rep K ρ' (h ++ [.tup ws]) (upd H T (.tup (cL K ρ ws))) ∧ wfV (h ++ [MO.tup ws]).length (.ref h.length) ∧ V.ref T = cV K ρ' (.ref h.length) ∧ h.length ≤ (h ++ [MO.tup ws]).length := by
  refine ⟨ρ ++ [T], ⟨_, rfl⟩, rp.alloc (o := .tup ws) nT rfl ww, by show h.length < _; simp, ?_, by simp⟩
  show _ = V.ref _
  rw [← rp.len, getD_last]
section
variable {K : Frag}
theorem itr_enL {ρ0 : List Addr} {h0 : Mh} {H0 : Hp} {j : Nat} {xs : List W} (r0 : Rep K ρ0 h0 H0) (hj : j < h0.length) : ItR K ρ0 (jEnL (.ref j) xs) (Ite K (ρ0.getD j 0)) := by
  refine ⟨fun i ρ h h' H w hi l r e => ?_, fun ρ h H l r e => ?_⟩
  · have e : (if seqL h (.ref j) = some xs then (xs[i]?).map fun w => (W.ref h.length, h ++ [MO.tup [.int i, w]]) else none) = some (w, h') := e
    split at e
    · rename_i q
      obtain ⟨_, ⟨⟩, _, s, ww⟩ := seqL_ok r q
      rw [getD_pre l (by rw [r0.len]; exact hj)] at s
      cases qx : xs[i]? with
      | none => rw [qx] at e; cases e
      | some v =>
        rw [qx] at e
        cases e
        refine ⟨⟨_, _, s, by rw [List.getElem?_map, qx] <;> rfl⟩, fun x H' hy => ?_⟩
        obtain ⟨T, y, rfl, nT, rfl, hx⟩ := hy
        have hx := hx _ s
        rw [List.getElem?_map, qx] at hx
        obtain rfl := (Option.some.inj hx).symm
        exact new_pair (ws := [.int i, v]) r nT (fun z hz => by
          rcases (show z = .int i ∨ z = v by simpa using hz) with rfl | rfl
          · trivial
          · exact ww _ (List.mem_of_getElem? qx))
    · cases e
  · have q : seqL h (.ref j) = some xs := of_decide_eq_true e
    obtain ⟨_, ⟨⟩, _, s, ww⟩ := seqL_ok r q
    rw [getD_pre l (by rw [r0.len]; exact hj)] at s
    exact ⟨_, s, by rw [List.length_map]; exact Nat.le_refl _⟩
theorem itr_enT {ρ0 : List Addr} {h0 : Mh} {H0 : Hp} {j : Nat} {xs : List W} (r0 : Rep K ρ0 h0 H0) (hj : j < h0.length) : ItR K ρ0 (jEnT (.ref j) xs) (IteT K (ρ0.getD j 0)) := by
  refine ⟨fun i ρ h h' H w hi l r e => ?_, fun ρ h H l r e => ?_⟩
  · have e : (if seqT h (.ref j) = some xs then (xs[i]?).map fun w => (W.ref h.length, h ++ [MO.tup [.int i, w]]) else none) = some (w, h') := e
    split at e
    · rename_i q
      obtain ⟨_, ⟨⟩, _, s, ww⟩ := seqT_ok r q
      rw [getD_pre l (by rw [r0.len]; exact hj)] at s
      cases qx : xs[i]? with
      | none => rw [qx] at e; cases e
      | some v =>
        rw [qx] at e
        cases e
        refine ⟨⟨_, _, s, by rw [List.getElem?_map, qx] <;> rfl⟩, fun x H' hy => ?_⟩
        obtain ⟨T, y, rfl, nT, rfl, hx⟩ := hy
        have hx := hx _ s
        rw [List.getElem?_map, qx] at hx
        obtain rfl := (Option.some.inj hx).symm
        exact new_pair (ws := [.int i, v]) r nT (fun z hz => by
          rcases (show z = .int i ∨ z = v by simpa using hz) with rfl | rfl
          · trivial
          · exact ww _ (List.mem_of_getElem? qx))
    · cases e
  · have q : seqT h (.ref j) = some xs := of_decide_eq_true e
    obtain ⟨_, ⟨⟩, _, s, ww⟩ := seqT_ok r q
    rw [getD_pre l (by rw [r0.len]; exact hj)] at s
    exact ⟨_, s, by rw [List.length_map] <;> rfl⟩
theorem mi_enum {X : Cx} {Wx : WX} {e : Expr} {m : MAx} {p pos tpos : Pos} {elts : List Expr} {kk : Nat} (hg : Gl X "enumerate") (hm : X.mg "enumerate" = none) (ha : MA X Wx [e] m) (hs : starEach [e] X.env = [(false, eval e X.env)] := by rfl) :
    MI X Wx (.Tuple elts kk tpos) (.Call (.Name "enumerate" p) [e] [] pos) (iEn m) := piI (piOr (pi_enum hg hm ha hs) (pi_enumT hg hm ha hs)) fun σV H Q ⟨ρ, h, σ, rp, wf, hs, g⟩ => by
  subst hs
  unfold iEn at g
  cases q : m σ h with
  | no => rw [q] at g; exact g.elim
  | ex x h' => rw [q] at g; exact .inl ⟨ρ, h, σ, rp, wf, rfl, by rw [q]; exact g⟩
  | ok ws h' =>
    rw [q] at g
    simp only [R.bind] at g
    split at g
    · rename_i w
      split at g
      · rename_i xs q1
        refine .inl ⟨ρ, h, σ, rp, wf, rfl, ?_⟩
        rw [q]
        intro ρ' H' l' r' ww
        obtain ⟨j, rfl, _, s, _⟩ := seqL_ok r' q1
        exact ⟨_, _, rfl, s, g ρ' H' l' r' trivial _ (itr_enL r' (ww _ List.mem_cons_self))⟩
      · split at g
        · rename_i xs q1
          refine .inr ⟨ρ, h, σ, rp, wf, rfl, ?_⟩
          rw [q]
          intro ρ' H' l' r' ww
          obtain ⟨j, rfl, _, s, _⟩ := seqT_ok r' q1
          exact ⟨_, _, rfl, s, g ρ' H' l' r' trivial _ (itr_enT r' (ww _ List.mem_cons_self))⟩
        · exact g.elim
    · exact g.elim
end
end Mc

/-! tests that store a name -/
namespace Mc
open PySem PySem.Spec PyProof.Rows L2
abbrev MTWx := MSt → Mh → R (Bool × MSt)
abbrev wfBS (n : Nat) (p : Bool × MSt) : Prop := WfS n p.2
/-- no exception leaves such a test -/
def lTw (K : Frag) (m : MTWx) : TTw := fun σV H Q => ∃ ρ h σ, Rep K ρ h H ∧ WfS h.length σ ∧ σV = cS K ρ σ ∧ Gd K (fun _ _ _ => False) ρ wfBS (m σ h) fun ρ' _ p H' => Q p.1 (cS K ρ' p.2) H'
abbrev MTW (X : Cx) (e : Expr) (m : MTWx) : Prop := PTw X e (lTw X.K m)
def nx {α : Type} (r : R α) : R α := match r with
  | .ok a h => .ok a h
  | _ => .no
def twOf (m : MTx) : MTWx := fun σ h => (nx (m σ h)).bind fun b h' => .ok (b, σ) h'
def twNt (m : MTWx) : MTWx := fun σ h => (m σ h).bind fun p h' => .ok (!p.1, p.2) h'
def twOr (a : MTx) (b : MTWx) : MTWx := fun σ h => (nx (a σ h)).bind fun k h' => if k then .ok (true, σ) h' else b σ h'
/-- f((x := e), ..) as a test -/
def twCall (F : Fm) (n np : Nat) (dW : List W) (is : List Nat) (i : Nat) (m : MEx) (ma : MAx) : MTWx := fun σ h => (nx (m σ h)).bind fun x h1 => (nx (ma (σ.set i (some x)) h1)).bind fun vs h2 =>
  if vs.length + 1 = n ∧ (sel is (x :: vs ++ dW)).length = np then (nx (F (sel is (x :: vs ++ dW)) h2)).bind fun v h3 => match v with
    | .bl b => .ok (b, σ.set i (some x)) h3
    | _ => .no else .no
def sIfW (c : MTWx) (a b : MSx) : MSx := fun σ h => match c σ h with
  | .ok (k, σ') h' => if k then a σ' h' else b σ' h'
  | _ => none
theorem nx_ok {α : Type} {r : R α} {K : Frag} {E : XK} {ρ : List Addr} {wf : Nat → α → Prop} {Q : List Addr → Mh → α → Hp → Prop} {E' : XK} (g : Gd K E ρ wf (nx r) Q) : Gd K E' ρ wf r Q := by
  cases r with
  | ok a h => exact g
  | ex x h => exact g.elim
  | no => exact g
section
variable {X : Cx} {Wx : WX} {a b c e : Expr} {es : List Expr} {pos p : Pos} {ms mt : MSx} {m : MEx} {ma : MAx}
theorem ptwI {t t' : TTw} (hh : PTw X e t) (f : ∀ σ H Q, t' σ H Q → t σ H Q) : PTw X e t' := ⟨fun pins s σ H Q I q => hh.run pins s σ H Q I (f σ H Q q)⟩
theorem mtw_of {mc : MTx} (hh : MT X W0 c mc) : MTW X c (twOf mc) := ptwI (ptw_of hh) fun σV H Q ⟨ρ, h, σ, rp, wf, hs, g⟩ => by
  subst hs
  refine ⟨ρ, h, σ, rp, wf, rfl, (nx_ok g.bind).imp fun ρ1 h1 k H1 l1 r1 _ g1 => ?_⟩
  have fin : Q k (cS X.K ρ1 σ) H1 := g1 ρ1 H1 pre_rfl r1 (wf.mono (rp.up r1 l1))
  rw [cS_pre l1 (rp.wfS wf)] at fin
  exact fin
theorem mtw_not {mc : MTWx} (hh : MTW X c mc) : MTW X (.UnaryOp .Not c pos) (twNt mc) := ptwI (ptw_not hh) fun σV H Q ⟨ρ, h, σ, rp, wf, hs, g⟩ =>
  ⟨ρ, h, σ, rp, wf, hs, g.bind.imp fun ρ1 h1 k H1 l1 r1 wk g1 => g1 ρ1 H1 pre_rfl r1 wk⟩
theorem ms_ifW {mc : MTWx} {u v : List Stmt} (hc : MTW X c mc) (ha : MSs X Wx u ms) (hb : MSs X Wx v mt) : MS X Wx (.If c u v pos) (sIfW mc ms mt) := psI (ps_ifW hc ha hb) fun D σV H ⟨ρ, h, σ, rp, wf, hs, g⟩ => by
  subst hs
  refine ⟨ρ, h, σ, rp, wf, rfl, ?_⟩
  unfold sIfW at g
  cases q : mc σ h with
  | no => rw [q] at g; exact g.elim
  | ex x h' => rw [q] at g; exact g.elim
  | ok pr h' =>
    obtain ⟨k, σ'⟩ := pr
    rw [q] at g
    intro ρ' H' l' r' w'
    cases k with
    | true => exact iteT ⟨ρ', h', σ', r', w', rfl, GdS.pre l' g⟩
    | false => exact iteF ⟨ρ', h', σ', r', w', rfl, GdS.pre l' g⟩
theorem mtw_or {mc : MTx} {md : MTWx} (ha : MT X W0 a mc) (hb : MTW X b md) : MTW X (.BoolOp .Or [a, b] pos) (twOr mc md) := by
  refine ⟨fun pins s σV H Q I ⟨ρ, h, σ, rp, wf, hs, g⟩ => ?_⟩
  subst hs
  have ga : lT X.K W0 mc (cS X.K ρ σ) H (fun k H1 => ∃ ρ1 h1, ρ <+: ρ1 ∧ Rep X.K ρ1 h1 H1 ∧ Gd X.K (fun _ _ _ => False) ρ1 wfBS (if k then .ok (true, σ) h1 else md σ h1) fun ρ' _ p H' => Q p.1 (cS X.K ρ' p.2) H') :=
    ⟨ρ, h, σ, rp, wf, rfl, (nx_ok (wf := wfB) g.bind).imp fun ρ1 h1 k H1 l1 r1 _ g1 => ⟨ρ1, h1, l1, r1, g1⟩⟩
  refine isTrue_or (thn (ha.run pins s _ H _ I ga) fun k s1 ⟨H1, I1, ρ1, h1, l1, r1, g1⟩ => ?_)
  have w1 := wf.mono (rp.up r1 l1)
  have es := cS_pre (K := X.K) l1 (rp.wfS wf)
  rw [← es] at I1
  cases k with
  | true => exact ⟨_, H1, I1, g1 ρ1 H1 pre_rfl r1 w1⟩
  | false =>
    refine isTrue_or (thn (hb.run pins s1 _ H1 Q I1 ⟨ρ1, h1, σ, r1, w1, rfl, g1⟩) fun k s2 q => ?_)
    cases k with
    | false => exact isTrue_or_nil q
    | true => exact q
theorem mtw_call {k n i : Nat} {f : Addr} {fd : FuncData} {ps : List Str} {F : Fm} {dW : List W} {is : List Nat} {x y : Str} {py pn : Pos} (G : FnM X.prog X.w X.K X.mg X.base k f fd ps F) (hr : RoomG k X.A) (hN : X.N.Nodup) (hg : Gl X x) (hm : X.mg x = some (.ref f)) (hk : PySem.W.keepIn X.K (.ref f) = true) (B : Bd X.K fd ps n [] dW is)
    (hi : X.N[i]? = some y) (hy : Loc X.env.scope y) (he : ME X.nox W0 e m) (ha : MA X.nox W0 es ma) (hf : X.fn y = true ∨ X.env.scope.names.lookup y = some .local := by first | exact .inl rfl | exact .inr rfl | assumption) (hdb : (x == ("__debug__" : Str)) = false := by decide)
    (hst : starEach (.NamedExpr (.Name y py) e pn :: es) X.env = (false, eval (.NamedExpr (.Name y py) e pn) X.env) :: starEach es X.env := by rfl) (hpl : (backTo pos (starEach es X.env)).any (·.1) = false := by rfl) (tk : Takes X W0) :
    MTW X (.Call (.Name x p) (.NamedExpr (.Name y py) e pn :: es) [] pos) (twCall F n ps.length dW is i m ma) := by
  refine ⟨fun pins s σV H Q I ⟨ρ, h, σ, rp, wf, hs, g⟩ => ?_⟩
  subst hs
  have noxE : ∀ {α : Type} {t : Sem α} {P : α → Shared → Prop} {s' : Shared}, wpAny (model X.prog X.w) X.A t P (fun _ _ => False) s' → wpAny (model X.prog X.w) X.A t P X.xe s' := fun q => wpAny_mono q (fun _ _ z => z) fun _ _ z => False.elim z
  refine isTrue_plain ?_ (by rfl)
  refine wpAny_Call_Name_kw (ld_glob I hg hm ?_ hdb)
  refine PySem.W.callWith_K (h₀ := X.base) I.ok.mod.kin hk ?_ hst hpl
  rw [hst]
  show wpAny _ _ (spliced ((false, eval (.NamedExpr (.Name y py) e pn) X.env) :: backTo pos (starEach es X.env))) _ _ s
  refine Calls.spliced_cons (wpAny_NamedExpr (thn (noxE (me_run (X := X.nox) he (I.wish _) rp wf (nx_ok g.bind))) fun u s1 hq => ?_))
  obtain ⟨ρ1, h1, v, H1, l1, r1, wv, I1, ru, g1⟩ := hq
  have I1 := I1.unwish
  have w1 := wf.mono (rp.up r1 l1)
  have es := cS_pre (K := X.K) l1 (rp.wfS wf)
  refine wpAny_assign_Name (store_ok I1 hN hi hy ru (fun s2 I2 => ?_) hf)
  have e2 : (cS X.K ρ σ).set i (some (cV X.K ρ1 v)) = cS X.K ρ1 (σ.set i (some v)) := by rw [cS_set, es]
  rw [e2] at I2
  have ws : WfS h1.length (σ.set i (some v)) := w1.set wv
  refine thn (noxE (ma_run (X := X.nox) (pos := pos) ha (I2.wish _) r1 ws (nx_ok g1.bind))) fun us s3 hq => ?_
  obtain ⟨ρ2, h2, vs, H2, l2, r2, w2, I3, rvs, g2⟩ := hq
  have I3 := I3.unwish
  refine ⟨I3.kIn, ?_⟩
  split at g2
  · rename_i hz
    have wx2 := wv.mono (r1.up r2 l2)
    have rv2 : RelV (cV X.K ρ2 v) u := by rw [r1.cv l2 wv]; exact ru
    have gF : Gd X.K (fun c d H' => W0 c d (cS X.K ρ1 (σ.set i (some v))) H') ρ2 wfV (F (sel is (v :: vs ++ dW)) h2) (fun ρ' h' w H' => ∃ b, w = .bl b ∧ Gd X.K (fun _ _ _ => False) ρ' wfBS (R.ok (b, σ.set i (some v)) h') fun ρ' _ p H' => Q p.1 (cS X.K ρ' p.2) H') := by
      refine (nx_ok (wf := wfV) g2.bind).imp fun ρ3 h3 w H3 l3 r3 w3 g3 => ?_
      cases w with
      | bl b => exact ⟨b, rfl, g3⟩
      | _ => exact g3.elim
    refine thn (call_m (Q := fun w H' => ∃ ρ3 h3 b, ρ2 <+: ρ3 ∧ Rep X.K ρ3 h3 H' ∧ w = .bl b ∧ Gd X.K (fun _ _ _ => False) ρ3 wfBS (R.ok (b, σ.set i (some v)) h3) fun ρ' _ p H' => Q p.1 (cS X.K ρ' p.2) H') (vs := v :: vs) (zs := []) (ws := []) G hr tk B I3 (.cons rv2 rvs) .nil r2 (fun z hz => ?_) (fun z hz => by cases hz) ?_) fun z s4 hq => ?_
    · rcases List.mem_cons.mp hz with q | q
      · rw [q]; exact wx2
      · exact w2 z q
    · rw [if_pos ⟨by rw [List.length_cons]; exact hz.1, rfl, by rw [List.append_nil]; exact hz.2⟩, List.append_nil]
      refine gF.imp fun ρ3 h3 w H3 l3 r3 w3 hq => ?_
      obtain ⟨b, rfl, g3⟩ := hq
      exact ⟨ρ3, h3, b, l3, r3, rfl, g3⟩
    · obtain ⟨w, H4, I4, rw4, ρ3, h3, b, l3, r3, rfl, g3⟩ := hq
      cases rw4
      refine wpAny_truthy_bool ⟨_, H4, ?_, g3 ρ3 H4 pre_rfl r3 (ws.mono (r1.up r3 (l2.trans l3)))⟩
      rw [cS_pre (K := X.K) (l2.trans l3) (r1.wfS ws)]
      exact I4
  · exact g2.elim
end
end Mc

namespace Mc
open PySem PySem.Spec PyProof.Rows L2
section
variable {X : Cx} {Wx : WX} {K : Frag} {a b e k v : Expr} {ma mb m : MEx} {p p2 pos pos2 : Pos}
/-! list(range(a, b)) -/
def rgW (a b : Int) : List W := (List.range (b - a).toNat).map fun i => W.int (a + (i : Nat))
theorem rgW_c {ρ : List Addr} {i j : Int} : cL K ρ (rgW i j) = rgV i j := by unfold cL rgW rgV; rw [List.map_map] <;> rfl
def kLrg (x y : W) (h : Mh) : R W := match x, y with
  | .int i, .int j => if inR i && inR j && decide ((j - i).toNat ≤ lim) then al (.lst (rgW i j)) h else .no
  | _, _ => .no
theorem lrg_ok {ρ : List Addr} {h : Mh} {H : Hp} {E : XK} {x y : W} {Q : VK} (rp : Rep K ρ h H) (g : Gd K E ρ wfV (kLrg x y h) fun ρ' _ w H' => Q (cV K ρ' w) H') : ∃ i j, cV K ρ x = .int i ∧ cV K ρ y = .int j ∧ RgOk i j ∧ ∀ q, H q = none → Q (.ref q) (upd H q (.lst (rgV i j))) := by
  unfold kLrg at g
  split at g
  · rename_i i j
    split at g
    · rename_i hz
      simp only [Bool.and_eq_true, decide_eq_true_eq] at hz
      obtain ⟨⟨z1, z2⟩, z3⟩ := hz
      refine ⟨i, j, rfl, rfl, ⟨(inR_ok z1).1, (inR_ok z1).2, (inR_ok z2).1, (inR_ok z2).2, Nat.le_trans z3 (by decide)⟩, fun q hq => ?_⟩
      have z := gd_al (o := .lst (rgW i j)) rp rfl (fun z hz => by obtain ⟨n, _, e⟩ := List.mem_map.mp hz; rw [← e]; trivial) g hq
      rw [show cO K ρ (.lst (rgW i j)) = .lst (rgV i j) from congrArg HO.lst rgW_c] at z
      exact z
    · exact g.elim
  · exact g.elim
def mLrg1 (ma : MEx) : MEx := m1 (fun y h => kLrg (.int 0) y h) ma
def mLrg2 (ma mb : MEx) : MEx := m2 kLrg ma mb
theorem me_lrg1 (hc : X.calm = true) (hg : Gl X "list") (hm : X.mg "list" = none) (hg2 : Gl X "range") (hm2 : X.mg "range" = none) (ha : ME X Wx a ma) (na : starEach [a] X.env = (false, eval a X.env) :: starEach [] X.env := by rfl)
    (nb : starEach [.Call (.Name "range" p2) [a] [] pos2] X.env = (false, eval (.Call (.Name "range" p2) [a] [] pos2) X.env) :: starEach [] X.env := by rfl) : ME X Wx (.Call (.Name "list" p) [.Call (.Name "range" p2) [a] [] pos2] [] pos) (mLrg1 ma) :=
  peI (pe_listRg hc hg hm (prg_1 hg2 hm2 ha na) nb) fun σV H Q ⟨ρ, h, σ, rp, wf, hs, g⟩ => by
    subst hs
    refine ⟨ρ, h, σ, rp, wf, rfl, g.bind.imp fun ρ1 h1 y H1 l1 r1 wy g1 => ?_⟩
    obtain ⟨i, j, e1, e2, z1, z2⟩ := lrg_ok r1 g1
    cases e1
    exact ⟨j, e2, z1, z2⟩
theorem me_lrg2 (hc : X.calm = true) (hg : Gl X "list") (hm : X.mg "list" = none) (hg2 : Gl X "range") (hm2 : X.mg "range" = none) (ha : ME X Wx a ma) (hb : ME X Wx b mb) (na : starEach [a, b] X.env = (false, eval a X.env) :: starEach [b] X.env := by rfl)
    (na2 : starEach [b] X.env = (false, eval b X.env) :: starEach [] X.env := by rfl) (na3 : (backTo pos2 (starEach [b] X.env)).any (·.1) = false := by rfl)
    (nb : starEach [.Call (.Name "range" p2) [a, b] [] pos2] X.env = (false, eval (.Call (.Name "range" p2) [a, b] [] pos2) X.env) :: starEach [] X.env := by rfl) : ME X Wx (.Call (.Name "list" p) [.Call (.Name "range" p2) [a, b] [] pos2] [] pos) (mLrg2 ma mb) :=
  peI (pe_listRg hc hg hm (prg_2 hg2 hm2 ha hb na na2 na3) nb) fun σV H Q ⟨ρ, h, σ, rp, wf, hs, g⟩ => by
    subst hs
    refine ⟨ρ, h, σ, rp, wf, rfl, g.bind.imp fun ρ1 h1 x H1 l1 r1 wx g1 => ?_⟩
    refine lE.at l1 (rp.wfS wf) r1 (g1.bind.imp fun ρ2 h2 y H2 l2 r2 wy g2 => ?_)
    obtain ⟨i, j, e1, e2, z1, z2⟩ := lrg_ok r2 g2
    rw [r1.cv l2 wx] at e1
    exact ⟨i, j, e1, e2, z1, z2⟩
/-! dicts -/
def mDict0 : MEx := fun _ h => al (.dK []) h
theorem me_dict0 : ME X Wx (.Dict [] [] pos) mDict0 := peI pe_dnewK fun σV H Q ⟨ρ, h, σ, rp, wf, hs, g⟩ p hp => gd_al (o := .dK []) rp rfl (fun z hz => by cases hz) g hp
/-- {k: v}, both written -/
def mDict1 (kk : Key) (w : W) : MEx := fun _ h => al (.dK [(kk, w)]) h
theorem me_dict1 {kk : Key} {w : W} (hk : PE X k (tC (kV kk))) (hv : PE X v (tC (cV X.K [] w))) (hw : ∀ n, wfV n w) : ME X Wx (.Dict [some k] [v] pos) (mDict1 kk w) := by
  refine peI (pe_disp (pps_cons hk hv pps_nil) rfl rfl (fun z => by cases z) (by show 1 ≤ 15; decide)) fun σV H Q ⟨ρ, h, σ, rp, wf, hs, g⟩ p hp => ?_
  refine ⟨upd_same, [(kk, cV X.K [] w)], rfl, by show 1 ≤ 15; decide, ?_⟩
  have z := gd_al (o := .dK [(kk, w)]) rp rfl (fun z hz => by rw [List.mem_singleton.mp hz]; exact hw _) g hp
  rw [upd_upd]
  rw [show cO X.K ρ (.dK [(kk, w)]) = .dK (mergeK [] [(kk, cV X.K [] w)]) from by
    show HO.dK [(kk, cV X.K ρ w)] = HO.dK (putK [] kk (cV X.K [] w))
    rw [cV_pre (List.nil_prefix) (hw _)] <;> rfl] at z
  exact z
/-! a = b = e -/
def sAsg2 (m : MEx) (g1 g2 : MGx) : MSx := fun σ h => (m σ h).stm σ fun w h1 => match g1 w σ h1 with
  | some (σ1, h2) => match g2 w σ1 h2 with
    | some (σ2, h3) => some (.nx σ2, h3)
    | none => none
  | none => none
theorem ms_asg2 {t1 t2 : Expr} {g1 g2 : MGx} (he : ME X Wx e m) (h1 : MG X t1 g1) (h2 : MG X t2 g2) (ha : (assignEach [t1, t2] X.env).map (·.2) = [assign t1 X.env, assign t2 X.env] := by rfl) (hw : swappedStores [t1, t2] e X.env = pure none := by rfl) : MS X Wx (.Assign [t1, t2] e pos) (sAsg2 m g1 g2) :=
  psI (ps_asg2 he h1 h2 ha hw) fun D σV H ⟨ρ, h, σ, rp, wf, hs, g⟩ => by
    subst hs
    have w0 := rp.wfS wf
    refine ⟨ρ, h, σ, rp, wf, rfl, (GdS.stm rp w0 g (Nat.le_refl _)).imp fun ρ1 h1 w H1 l1 r1 ww g1' => ?_⟩
    refine ⟨ρ1, h1, σ, w, r1, wf.mono (rp.up r1 l1), ww, (cS_pre l1 w0).symm, rfl, ?_⟩
    cases q1 : g1 w σ h1 with
    | none => simp only [q1] at g1'; exact g1'
    | some p1 =>
      obtain ⟨σ1, h2'⟩ := p1
      simp only [q1] at g1'
      intro ρ2 H2 l2 r2 w2
      refine ⟨ρ2, h2', σ1, w, r2, w2, ww.mono (r1.up r2 l2), rfl, (r1.cv l2 ww).symm, ?_⟩
      cases q2 : g2 w σ1 h2' with
      | none => simp only [q2] at g1'; exact g1'
      | some p2 => simp only [q2] at g1'; exact fun ρ3 H3 l3 r3 w3 => g1' ρ3 H3 (l2.trans l3) r3 w3
/-! a value's truth -/
def kTru (w : W) (h : Mh) : R Bool := match w with
  | .non => .ok false h
  | .bl b => .ok b h
  | .int i => .ok (i != 0) h
  | .str y => if y.length ≤ lim then .ok ((y.length : Int) != 0) h else .no
  | w => match seqA h w with
    | some xs => .ok (!xs.isEmpty) h
    | none => .no
theorem mt_tru (he : ME X Wx e m) (hq : ∀ whole, isTrue e X.env whole = (do let v ← whole; standAt e.pos; holding [v] (truthy v)) := by intro _; rfl) : MT X Wx e (fun σ h => (m σ h).bind kTru) := ptI (pt_truth he hq) fun σV H Q ⟨ρ, h, σ, rp, wf, hs, g⟩ => by
  subst hs
  refine ⟨ρ, h, σ, rp, wf, rfl, g.bind.imp fun ρ1 h1 w H1 l1 r1 ww g1 => ?_⟩
  unfold kTru at g1
  split at g1
  · exact ⟨_, rfl, g1 ρ1 H1 pre_rfl r1 trivial⟩
  · exact ⟨_, rfl, g1 ρ1 H1 pre_rfl r1 trivial⟩
  · exact ⟨_, rfl, g1 ρ1 H1 pre_rfl r1 trivial⟩
  · split at g1
    · rename_i hz
      exact ⟨_, ⟨lim_sz hz, rfl⟩, g1 ρ1 H1 pre_rfl r1 trivial⟩
    · exact g1.elim
  · split at g1
    · rename_i xs q
      obtain ⟨i, rfl, _, s, _⟩ := seqA_ok r1 q
      have ee : (!xs.isEmpty) = !(cL X.K ρ1 xs).isEmpty := by cases xs <;> rfl
      refine ⟨!xs.isEmpty, ?_, g1 ρ1 H1 pre_rfl r1 trivial⟩
      rcases s with s | s
      · exact .inl ⟨_, s, ee⟩
      · exact .inr (.inl ⟨_, s, ee⟩)
    · exact g1.elim
end

/-! ### how defs without defaults bind -/
section
variable {K : Frag} {x qual : Str} {params : Arguments} {body : List Stmt} {scope : Scope} {kws : List (Str × V)} {f : Addr} {fd : FuncData} {ps : List Str}
theorem bd_no (F : FunD K x qual params body scope [] kws f fd) (n : Nat) (ks : List Str) (is : List Nat)
    (hh : ∀ (kV doc pm : Value) (an : Option Addr) (cdv ct : Value) (us ws : List Value), us.length = n → ws.length = ks.length → bindArgs (PySem.W.fnOf x qual params body scope .none kV doc pm an cdv ct) ⟨us, ks.zip ws⟩ = pure (ps.zip (sel is (us ++ ws)))) : Bd K fd ps n ks [] is := by
  obtain ⟨oc, od, dV, kV, doc, pm, an, cdv, ct, osl, rfl, lk, hcd, hD, hK⟩ := F.ex
  rcases hD with ⟨_, rfl⟩ | ⟨z, _⟩
  · refine ⟨(fun z hz => by cases hz), ⟨[], .nil, fun s us ws _ h1 h2 => ?_⟩⟩
    rw [List.append_nil]
    exact .of_eq (hh kV doc pm an cdv ct us ws h1 h2)
  · exact absurd rfl z
end
/-- nothing is told of a def that can't run -/
theorem FnM_no {P : Program} {w : World} {K : Frag} {mg : Mg} {base : Heap} {k : Nat} {f : Addr} {fd : FuncData} {ps : List Str} : FnM P w K mg base k f fd ps (fun _ _ => .no) := ⟨fun A outer s H args us ρ h ws Q E hr e0 hb r hl rp wf g => g.elim⟩
/-! ### the end: the law -/
/-- the law's def is called; as HandS.Ends has it, with the guards known -/
theorem law_runS {Sm : Heap → Prop} {P : Program} {w : World} {K : Frag} {mg mb : Mg} {k : Nat} {fa a : Addr} {fd : FuncData} {x : Str} {Fl : Fm} {s₁ : Shared} {vs : List Value} {ns : List Int}
    (KX : K.In s₁.heap) (hns : s₁.heap.Ns mainGlobals mg) (hb : s₁.heap.Ns builtinsNs mb) (hbb : ∀ x : Str, x ≠ "__name__" → mb x = bootBuiltins x) (hlim : s₁.heap.NoLimit) (hg : s₁.gens = #[])
    (ha : s₁.heap.get? a = some { cls := .type "list", data := .seq vs.toArray }) (hi : IntsAre vs ns) (hl : ns.length ≤ sizeLine) (hr : Room k callerA)
    (hSm : ∀ H : Hp, (∀ b, H b ≠ none → b = a) → Sm (hidT s₁.heap H)) (F : ∀ base : Heap, K.In base → base.Ns mainGlobals mg → Sm base → FnM P w K mg base k fa fd [x] Fl) (hbind : ∀ (s : Shared) (u : Value), BindsTo s fd ⟨[u], []⟩ [(x, u)])
    (hsp : ∃ h', Fl [.ref 0] [.frl (ns.map W.int)] = .ok (.bl true) h') :
    codeAny (model P w) callerA (.call (.ref fa) ⟨[.ref a], []⟩) (fun r s' => r = .ok (.ret (.bool true)) ∧ OldK s₁.heap s'.heap ∧ s'.os = s₁.os ∧ AllBare s'.gens) s₁ := by
  have rv := vals_ints hi
  have lenV := hi.length
  have main : ∀ H : Hp, Only H → SqL K H a (ns.map V.int) → HOk P w H s₁.heap → (∀ b, H b ≠ none → b = a) → (H a ≠ none → K.lookup a = none) →
      codeAny (model P w) callerA (.call (.ref fa) ⟨[.ref a], []⟩) (fun r s' => r = .ok (.ret (.bool true)) ∧ OldK s₁.heap s'.heap ∧ s'.os = s₁.os ∧ AllBare s'.gens) s₁ := by
    intro H hO hS hok hA hK
    have keepB : ∀ {b : Addr} {o : Obj}, s₁.heap.get? b = some o → H b = none → (hidT s₁.heap H).get? b = some o := fun e n => hidT_get e n
    have noT : ∀ {b : Addr} {o : Obj} {es : Array DictEntry} {ep : Nat}, s₁.heap.get? b = some o → o.data = .dict es ep → H b = none := fun {b o es ep} e d => by
      cases q : H b with
      | none => rfl
      | some u =>
        have eb : b = a := hA b (by rw [q]; simp)
        subst eb
        rw [ha] at e
        cases e
        exact nomatch (show Data.seq vs.toArray _ = Data.dict es ep from d)
    have nsB : ∀ {b : Addr} {m : Mg}, s₁.heap.Ns b m → (hidT s₁.heap H).Ns b m := fun {b m} ⟨o, es, ep, e, d, r⟩ => ⟨o, es, ep, keepB e (noT e d), d, r⟩
    have hKb : K.In (hidT s₁.heap H) := fun b o e => keepB (KX b o e) (by
      cases q : H b with
      | none => rfl
      | some u =>
        have eb : b = a := hA b (by rw [q]; simp)
        subst eb
        rw [hK (by rw [q]; simp)] at e
        cases e)
    have hM : Mod K mg (hidT s₁.heap H) := ⟨hKb, nsB hns, ⟨mb, nsB hb, hbb⟩, let ⟨mc, h1, h2⟩ := hlim; ⟨mc, nsB h1, h2⟩⟩
    have e0 : Env0 P w K mg (hidT s₁.heap H) callerA [] s₁ H := ⟨rfl, hM, fun b o e => of_hidT e, Nat.le_of_eq (hidT_size _ _), trivial, fun b hb => absurd (show b ∈ ([] : List Addr) from hb) (by simp), hok, .of_eq hg⟩
    have rp : Rep K [a] [.frl (ns.map W.int)] H := by
      refine ⟨rfl, fun o ho => ?_, fun i o e => ?_, fun i j oi oj ei ej ti tj z => ?_⟩
      · rw [List.mem_singleton.mp ho]
        intro z hz
        obtain ⟨n, _, e⟩ := List.mem_map.mp hz
        rw [← e]
        trivial
      · cases i with
        | zero =>
          have e : MO.frl (ns.map W.int) = o := by simpa using e
          subst e
          show (∃ ob, H a = some (.frz ob (.lst (cL K [a] (ns.map W.int))))) ∨ ∀ H', SqL K H' a (cL K [a] (ns.map W.int))
          rw [cL_ints]
          rcases hS with (q | ⟨o, q⟩) | q
          · rcases hO a with z | ⟨o, xs, z⟩
            · rw [q] at z; cases z
            · rw [q] at z; cases z
          · exact .inl ⟨o, q⟩
          · exact .inr fun H' => .inr q
        | succ i => simp at e
      · cases i with
        | zero =>
          have e : MO.frl (ns.map W.int) = oi := by simpa using ei
          subst e
          cases ti
        | succ i => simp at ei
    obtain ⟨h', hF⟩ := hsp
    refine codeAny_mono ((F _ hKb (nsB hns) (hSm H hA)).run callerA [] s₁ H ⟨[.ref a], []⟩ [.ref a] [a] [.frl (ns.map W.int)] [.ref 0] (fun v _ => v = .bl true) (fun _ _ _ => False) ⟨hr, rfl⟩ e0 (hbind s₁ (.ref a)) (.cons rfl .nil) rfl rp (fun z hz => by rw [List.mem_singleton.mp hz]; show 0 < 1; decide) (by rw [hF]; exact fun _ _ _ _ _ => rfl)) fun r s' hq => ?_
    cases r with
    | error e =>
      obtain ⟨_, _, _, _, _, _, _, _, _, _, _, _, z⟩ := hq
      exact z.elim
    | ok fl =>
      cases fl with
      | next => exact False.elim hq
      | brk => exact False.elim hq
      | cont => exact False.elim hq
      | ret u =>
        obtain ⟨v, H', os, bare, un, hok', r', q⟩ := hq
        have q' : v = .bl true := q
        subst q'
        obtain rfl : u = Value.bool true := r'
        refine ⟨rfl, OldK.of_keep fun b o e => ?_, os, bare⟩
        cases q : H b with
        | none => exact un.keep b o e q (by intro z; exact absurd (show b ∈ ([] : List Addr) from z) (by simp)) (by simp)
        | some u =>
          rcases hO b with z | ⟨ob, xs, z⟩
          · rw [q] at z; cases z
          · have z2 := un.frzs b ob _ z
            obtain ⟨e1, _⟩ := hok b _ z
            obtain ⟨e2, _⟩ := hok' b _ z2
            rw [e] at e1
            cases e1
            exact e2
  cases hk : K.lookup a with
  | some o =>
    have e := KX a o hk
    rw [ha] at e
    cases e
    refine main (fun _ => none) (fun _ => .inl rfl) (.inr ⟨_, vs.toArray, _, hk, rfl, rfl, rfl, by rw [List.size_toArray, lenV]; exact hl, by simpa using rv⟩) (fun b u z => by have z' : (none : Option HO) = some u := z; cases z') (fun b z => absurd rfl z) fun z => absurd rfl z
  | none =>
    refine main (fun b => if b = a then some (.frz { cls := .type "list", data := .seq vs.toArray } (.lst (ns.map V.int))) else none) (fun b => ?_) (.inl (.inr ⟨{ cls := .type "list", data := .seq vs.toArray }, if_pos rfl⟩)) (fun b u z => ?_) (fun b z => ?_) fun _ => hk
    · by_cases hb : b = a
      · exact .inr ⟨_, _, if_pos hb⟩
      · exact .inl (if_neg hb)
    · by_cases hb : b = a
      · have z' := (if_pos hb).symm.trans z
        cases z'
        subst hb
        exact ⟨ha, by rw [List.length_map]; exact hl, vs, _, rv, ha⟩
      · have z' := (if_neg hb).symm.trans z
        cases z'
    · by_cases hb : b = a
      · exact hb
      · exact absurd (if_neg hb) z
theorem law_run {P : Program} {w : World} {K : Frag} {mg mb : Mg} {k : Nat} {fa a : Addr} {fd : FuncData} {x : Str} {Fl : Fm} {s₁ : Shared} {vs : List Value} {ns : List Int}
    (KX : K.In s₁.heap) (hns : s₁.heap.Ns mainGlobals mg) (hb : s₁.heap.Ns builtinsNs mb) (hbb : ∀ x : Str, x ≠ "__name__" → mb x = bootBuiltins x) (hlim : s₁.heap.NoLimit) (hg : s₁.gens = #[])
    (ha : s₁.heap.get? a = some { cls := .type "list", data := .seq vs.toArray }) (hi : IntsAre vs ns) (hl : ns.length ≤ sizeLine) (hr : Room k callerA)
    (F : ∀ base : Heap, K.In base → base.Ns mainGlobals mg → FnM P w K mg base k fa fd [x] Fl) (hbind : ∀ (s : Shared) (u : Value), BindsTo s fd ⟨[u], []⟩ [(x, u)])
    (hsp : ∃ h', Fl [.ref 0] [.frl (ns.map W.int)] = .ok (.bl true) h') :
    codeAny (model P w) callerA (.call (.ref fa) ⟨[.ref a], []⟩) (fun r s' => r = .ok (.ret (.bool true)) ∧ OldK s₁.heap s'.heap ∧ s'.os = s₁.os ∧ AllBare s'.gens) s₁ :=
  law_runS (Sm := fun _ => True) KX hns hb hbb hlim hg ha hi hl hr (fun _ _ => trivial) (fun base h1 h2 _ => F base h1 h2) hbind hsp
/-- from a law's def in the machine -/
theorem law_end {l : PySem.W.OpenLaw} {n k : Nat} {q : Program} {loose : List Str} {XP : (Str → Option Value) → Heap → Prop} {YP : World → Heap → Prop} {d : DefRec} {x : Str}
    (hn : l.most = some n) (hn2 : n ≤ sizeLine) (hdf : d.params.defaults = []) (hr : Room k callerA)
    (F : ∀ (w : World) (mg : Mg) (fa : Addr) (h : Heap), YP w h → h.Ns mainGlobals mg → mg d.name = some (.ref fa) →
      ∃ (K : Frag) (fd : FuncData) (Fl : Fm), K.In h ∧ (∀ (s : Shared) (u : Value), BindsTo s fd ⟨[u], []⟩ [(x, u)]) ∧
        (∀ ns : List Int, ns.length ≤ n → ∃ h', Fl [.ref 0] [.frl (ns.map W.int)] = .ok (.bl true) h') ∧
        ∀ base : Heap, K.In base → base.Ns mainGlobals mg → FnM l.prog w K mg base k fa fd [x] Fl) :
    PySem.W.WalkO q loose XP YP l.row.toRowW d [] (fun f vs => PySem.call f vs) := by
  refine Att.attach_call hn hdf fun w s₀ s₁ mg mb fa o pm cd doc a vs ns G Y ho hd hcd hmg hobj hints hlen hg => ?_
  obtain ⟨K, fd, Fl, KX, hb, hsp, hF⟩ := F w mg fa _ Y G.T.g hmg
  exact law_run KX G.T.g G.T.b G.T.builtins G.T.nolimit hg hobj hints (Nat.le_trans hlen hn2) hr hF hb (hsp ns hlen)
end Mc

/-! names, tables of isinstance, and what the head tells -/
namespace Mc
open PySem PySem.Spec PyProof.Rows L2
section
variable {X : Cx} {Wx : WX} {x : Str} {pos : Pos}
theorem me_bty {n : String} (hg : Gl X x) (hm : X.mg x = none) (hv : bootBuiltins x = some (.type n)) (hn : x ≠ "__name__" := by decide) (hd : (x == ("__debug__" : Str)) = false := by decide) : ME X Wx (.Name x pos) (mC (.ty n)) :=
  me_c (t := tC (.ty n)) (pe_bltn (v := .ty n) hg hm hv rfl hn hd) (fun _ => rfl) fun _ => trivial
theorem me_gcls (hg : Gl X x) (hm : X.mg x = some (.ref (He.ga X.K x))) (hd : (x == ("__debug__" : Str)) = false := by decide) : ME X Wx (.Name x pos) (mC (.glo x)) :=
  me_glob (v := .ref (He.ga X.K x)) hg hm rfl (fun _ => rfl) (fun _ => trivial) hd
theorem me_gint {i : Int} (hg : Gl X x) (hm : ∃ t, X.mg x = some (.int i t)) (hd : (x == ("__debug__" : Str)) = false := by decide) : ME X Wx (.Name x pos) (mC (.int i)) := by
  obtain ⟨t, hm⟩ := hm
  exact me_glob (v := .int i) hg hm ⟨t, rfl⟩ (fun _ => rfl) (fun _ => trivial) hd
theorem me_gstr {z : Str} (hg : Gl X x) (hm : ∃ t, X.mg x = some (.str z t)) (hd : (x == ("__debug__" : Str)) = false := by decide) : ME X Wx (.Name x pos) (mC (.str z)) := by
  obtain ⟨t, hm⟩ := hm
  exact me_glob (v := .str z) hg hm ⟨t, rfl⟩ (fun _ => rfl) (fun _ => trivial) hd
end
/-! ### the table of isinstance -/
abbrev Tb := List ((Ty × Ty) × Bool)
def isaOf : Tb → Ty → Ty → Option Bool
  | [], _, _ => none
  | p :: l, t, u => if p.1 = (t, u) then some p.2 else isaOf l t u
def clsB (K : Frag) (C : Str) : Bool := He.eqO (PySem.W.findIn K (.ref (He.ga K C)) "__class__") (some (some (.builtin "object.__class__"))) && (He.eqO (PySem.W.specialIn K (.builtin "object.__class__") "__get__") (some (some (.builtin "getset_descriptor.__get__"))) &&
  (decide (PySem.W.takesIn K (.builtin "object.__class__") = some true) && decide (PySem.W.mroIn K (He.ga K C) (.type "object") = some true)))
def isaB (tb : Tb) (cs : List Str) (K : Frag) : Bool := (tb.all fun p => decide (PySem.W.kitOne K (p.1.1.v K) (p.1.2.v K) = some p.2)) && cs.all (clsB K)
def tbIn (tb : Tb) (cs : List Str) : Bool := tb.all fun p => match p.1.1 with
  | .c C => decide (C ∈ cs)
  | _ => true
theorem isaOf_mem {t u : Ty} {b : Bool} : ∀ {l : Tb}, isaOf l t u = some b → ((t, u), b) ∈ l
  | [], e => by cases e
  | (c, d) :: l, e => by
    unfold isaOf at e
    split at e
    · rename_i q
      cases e
      rw [← show c = (t, u) from q]
      exact List.mem_cons_self
    · exact List.mem_cons_of_mem _ (isaOf_mem e)
theorem isa_ok {K : Frag} {tb : Tb} {cs : List Str} (h : isaB tb cs K = true) (hc : ∀ C ∈ cs, Cls K (He.ga K C)) (hi : tbIn tb cs = true) (u : Ty) : IsaOk K (isaOf tb) u := fun t b e => by
  obtain ⟨h1, h2⟩ := He.ba h
  have m := isaOf_mem e
  refine ⟨of_decide_eq_true (List.all_eq_true.mp h1 _ m), fun C hC => ?_⟩
  have hm := List.all_eq_true.mp hi _ m
  subst hC
  have hm : C ∈ cs := of_decide_eq_true hm
  have hb := List.all_eq_true.mp h2 C hm
  obtain ⟨b1, hb⟩ := He.ba hb
  obtain ⟨b2, hb⟩ := He.ba hb
  obtain ⟨b3, b4⟩ := He.ba hb
  exact ⟨hc C hm, He.eqO_ok b1, He.eqO_ok b2, of_decide_eq_true b3, of_decide_eq_true b4⟩
/-! ### properties -/
def prA (K : Frag) (C f : Str) : Addr := match PySem.W.findIn K (.ref (He.ga K C)) f with
  | some (some (.ref p)) => p
  | _ => 0
def prG (K : Frag) (C f : Str) : Addr := match PySem.W.recIn K (prA K C f) "property" with
  | some (.ref g :: _) => g
  | _ => 0
def propB (K : Frag) (C f : Str) : Bool := He.eqO (PySem.W.findIn K (.ref (He.ga K C)) f) (some (some (.ref (prA K C f)))) && (He.eqO (PySem.W.specialIn K (.ref (prA K C f)) "__get__") (some (some (.builtin "property.__get__"))) && (decide (PySem.W.takesIn K (.ref (prA K C f)) = some true) && match PySem.W.recIn K (prA K C f) "property" with
  | some (.ref g :: _) => true
  | _ => false))
theorem prop_ok {K : Frag} {C f : Str} (h : propB K C f = true) : PropOf K (He.ga K C) f (prA K C f) (prG K C f) := by
  obtain ⟨h1, h⟩ := He.ba h
  obtain ⟨h2, h⟩ := He.ba h
  obtain ⟨h3, h4⟩ := He.ba h
  refine ⟨He.eqO_ok h1, He.eqO_ok h2, of_decide_eq_true h3, ?_⟩
  unfold prG
  split at h4
  · rename_i g rest q
    exact ⟨rest, by rw [q]⟩
  · cases h4
/-! ### a def that is told, with what it does -/
def Fd (P : Program) (w : World) (K : Frag) (mg : Mg) (base : Heap) (k : Nat) (d : He.DefD) (ps : List Str) (F : Fm) : Prop :=
  ∃ fd, FunD K d.name d.qual d.params d.body d.scope (d.dvs K) (d.kws K) (He.fAd K d.at_) fd ∧ FnM P w K mg base k (He.fAd K d.at_) fd ps F
theorem len_ok {P : Program} {w : World} {K : Frag} {mg : Mg} {base : Heap} {k : Nat} {C : Str} {f : Addr} {fd : FuncData} {ps : List Str} {F : Fm} (hm : Meth K (He.ga K C) "__len__" f) (G : FnM P w K mg base k f fd ps F) (B : Bd K fd ps 1 [] [] [0]) (h1 : ps.length = 1) : LenD P w K mg base k C F :=
  ⟨f, fd, ps, hm.at_, hm.fn, G, B, h1⟩
end Mc

namespace Mc
open PySem PySem.Spec PyProof.Rows L2
def tTr (m : MEx) : MTx := fun σ h => (m σ h).bind kTru
section
variable {X : Cx} {Wx : WX} {o e : Expr} {mo : MEx} {m : MAx} {apos cpos : Pos}
theorem me_extend (ho : ME X Wx o mo) (ha : MA X Wx [e] m) (hbase : attributeBase o "extend" X.env (eval o X.env) = eval o X.env := by rfl)
    (hfew : ((backTo cpos (starEach [e] X.env)).all (fun x => !x.1) && (backToKw cpos (keywordEach [] X.env)).all (fun x => x.1.isSome) && decide (([e] : List Expr).length + ([] : List Keyword).length + (if ([] : List Keyword).isEmpty then 0 else 1) < 30)) = true := by rfl)
    (hline : (apos.endLine == cpos.line) = true := by rfl) (hs : starEach [e] X.env = (false, eval e X.env) :: starEach [] X.env := by rfl) (hplain : (backTo cpos (starEach [] X.env)).any (·.1) = false := by rfl) :
    ME X Wx (.Call (.Attribute o "extend" apos) [e] [] cpos) (mMt "list" kExtend mo m) := me_mt PySem.F.plainAttrs_list PySem.F.slot_list_extend PySem.F.type_list_extend mt_extend mm_extend ho ha hbase hfew hline hs hplain
theorem me_index (ho : ME X Wx o mo) (ha : MA X Wx [e] m) (hbase : attributeBase o "index" X.env (eval o X.env) = eval o X.env := by rfl)
    (hfew : ((backTo cpos (starEach [e] X.env)).all (fun x => !x.1) && (backToKw cpos (keywordEach [] X.env)).all (fun x => x.1.isSome) && decide (([e] : List Expr).length + ([] : List Keyword).length + (if ([] : List Keyword).isEmpty then 0 else 1) < 30)) = true := by rfl)
    (hline : (apos.endLine == cpos.line) = true := by rfl) (hs : starEach [e] X.env = (false, eval e X.env) :: starEach [] X.env := by rfl) (hplain : (backTo cpos (starEach [] X.env)).any (·.1) = false := by rfl) :
    ME X Wx (.Call (.Attribute o "index" apos) [e] [] cpos) (mMt "list" kIndex mo m) := me_mt PySem.F.plainAttrs_list PySem.F.slot_list_index PySem.F.type_list_index mt_index mm_index ho ha hbase hfew hline hs hplain
end
section
variable {P : Program} {w : World} {K : Frag} {mg : Mg} {base : Heap} {k : Nat} {C : Str} {F : Fm} {ls : List (Str × Fm)}
theorem lens_nil : ∀ q ∈ ([] : List (Str × Fm)), LenD P w K mg base k q.1 q.2 := fun _ z => by cases z
theorem lens_cons (h : LenD P w K mg base k C F) (r : ∀ q ∈ ls, LenD P w K mg base k q.1 q.2) : ∀ q ∈ (C, F) :: ls, LenD P w K mg base k q.1 q.2 := fun q hq => by
  rcases List.mem_cons.mp hq with e | e
  · rw [e]; exact h
  · exact r q e
theorem FunD_same {x y qx qy : Str} {p1 p2 : Arguments} {b1 b2 : List Stmt} {s1 s2 : Scope} {dv1 dv2 : List V} {kw1 kw2 : List (Str × V)} {f : Addr} {fd1 fd2 : FuncData} {ps : List Str} (h1 : FunD K x qx p1 b1 s1 dv1 kw1 f fd1) (h2 : FunD K y qy p2 b2 s2 dv2 kw2 f fd2)
    (G : FnM P w K mg base k f fd1 ps F) : FnM P w K mg base k f fd2 ps F := by
  obtain ⟨_, _, _, _, _, _, _, _, _, _, _, e1, _⟩ := h1.ex
  obtain ⟨_, _, _, _, _, _, _, _, _, _, _, e2, _⟩ := h2.ex
  rw [e1] at e2
  cases e2
  exact G
end
/-! == of ints and of texts, else of data -/
def kEq2 (x y : W) (h : Mh) : R W := match x, y with
  | .int i, .int j => .ok (.bl (decide (i = j))) h
  | .str a, .str b => .ok (.bl (decide (a = b))) h
  | x, y => kEq x y h
def kNe2 (x y : W) (h : Mh) : R W := match x, y with
  | .int i, .int j => .ok (.bl (!decide (i = j))) h
  | .str a, .str b => .ok (.bl (!decide (a = b))) h
  | x, y => kNe x y h
theorem om_eq2 {K : Frag} : OpM K (fun x y H Q => rEq x y H Q ∨ rEqD K x y H Q) kEq2 := fun E ρ h H x y Q rp wx wy gd => by
  unfold kEq2 at gd
  split at gd
  · rename_i i j
    refine .inl ⟨rfl, ?_⟩
    rw [show decide (cV K ρ (.int i) = cV K ρ (.int j)) = decide (i = j) from by simp [cV]]
    exact gd_ok rp gd trivial
  · rename_i a b
    refine .inl ⟨rfl, ?_⟩
    rw [show decide (cV K ρ (.str a) = cV K ρ (.str b)) = decide (a = b) from by simp [cV]]
    exact gd_ok rp gd trivial
  · exact .inr (om_eq E ρ h H _ _ Q rp wx wy gd)
theorem om_ne2 {K : Frag} : OpM K (fun x y H Q => rNe x y H Q ∨ rNeD K x y H Q) kNe2 := fun E ρ h H x y Q rp wx wy gd => by
  unfold kNe2 at gd
  split at gd
  · rename_i i j
    refine .inl ⟨rfl, ?_⟩
    rw [show decide (cV K ρ (.int i) = cV K ρ (.int j)) = decide (i = j) from by simp [cV]]
    exact gd_ok rp gd trivial
  · rename_i a b
    refine .inl ⟨rfl, ?_⟩
    rw [show decide (cV K ρ (.str a) = cV K ρ (.str b)) = decide (a = b) from by simp [cV]]
    exact gd_ok rp gd trivial
  · exact .inr (om_ne E ρ h H _ _ Q rp wx wy gd)
end Mc

/-! sums of tuples -/
namespace Mc
open PySem PySem.Spec PyProof.Rows L2
section
variable {X : Cx} {K : Frag}
def rSumT (K : Frag) : List V → Hp → VK → Prop := fun vs H Q => ∃ (a : Addr) (ns : List Int), vs = [V.ref a] ∧ SqT K H a (ns.map V.int) ∧ Q (.int ns.sum) H
theorem cr_sumT (hc : X.calm = true) : CallR X (.builtin "sum") (rSumT X.K) := by
  intro pins s σ H vs us Q I r h
  obtain ⟨a, ns, rfl, hs, q⟩ := h
  obtain ⟨its, rv, hl, _⟩ := I.tuple hs
  rw [Vals.ref1 r]
  have hi := rv.ints
  obtain ⟨xs, e⟩ := hi.allInts.items
  have hn : numsOf (intItems xs).toList = ns := by rw [← e]; exact hi.numsOf
  rw [nums_intItems] at hn
  have hl2 : s.heap.IsTuple a (intItems xs) := by rw [← e]; exact hl
  refine PySem.W.ktm_sumG (I.ok.hd hc) hl2 fun h' tk t' hk => ?_
  rw [preSum_eq, List.take_of_length_le (by simp), hn]
  exact ⟨.int _, H, I.kept hk, ⟨_, rfl⟩, q⟩
def kSumA (ws : List W) (h : Mh) : R W := match ws with
  | [w] => match (seqA h w).bind intsOf with
    | some ns => .ok (.int ns.sum) h
    | none => .no
  | _ => .no
theorem cm_sumA : CallM K (fun vs H Q => rSum K vs H Q ∨ rSumT K vs H Q) kSumA := fun E ρ h H ws Q rp wf gd => by
  unfold kSumA at gd
  split at gd
  · rename_i w
    cases q : seqL h w with
    | some xs =>
      have e : seqA h w = some xs := by simp only [seqA, q]
      rw [e, Option.bind_some] at gd
      split at gd
      · rename_i ns q2
        obtain ⟨i, rfl, s⟩ := intL_ok rp (show intL h w = some ns by unfold intL; rw [q]; exact q2)
        exact .inl ⟨_, _, rfl, s, gd_ok rp gd trivial⟩
      · exact gd.elim
    | none =>
      cases q3 : seqT h w with
      | some xs =>
        have e : seqA h w = some xs := by simp only [seqA, q, q3]
        rw [e, Option.bind_some] at gd
        split at gd
        · rename_i ns q2
          obtain ⟨i, rfl, _, s, _⟩ := seqT_ok rp q3
          rw [intsOf_eq q2, cL_ints] at s
          exact .inr ⟨_, _, rfl, s, gd_ok rp gd trivial⟩
        · exact gd.elim
      | none =>
        have e : seqA h w = none := by simp only [seqA, q, q3]
        rw [e] at gd
        exact gd.elim
  · exact gd.elim
end
end Mc

/-! keyword-only parameters that have defaults -/
namespace Mc
open PySem PySem.Spec PyProof.Rows L2
section
variable {K : Frag} {x qual : Str} {params : Arguments} {body : List Stmt} {scope : Scope} {kws : List (Str × V)} {f : Addr} {fd : FuncData} {ps : List Str}
theorem bd_kw (F : FunD K x qual params body scope [] kws f fd) (hk : kws ≠ []) (n : Nat) (ks : List Str) (ms : List (Str × W)) (is : List Nat) (hms : ∀ q ∈ ms, (q.1, cV K [] q.2) ∈ kws) (hfl : ∀ q ∈ ms, ∀ m, wfV m q.2)
    (hh : ∀ (D : Addr) (doc pm : Value) (an : Option Addr) (cdv ct : Value) (us ws mv : List Value), us.length = n → ws.length = ks.length → mv.length = ms.length →
      KwChain D ((ms.map (·.1)).zip mv) (bindArgs (PySem.W.fnOf x qual params body scope .none (.ref D) doc pm an cdv ct) ⟨us, ks.zip ws⟩) (ps.zip (sel is (us ++ ws ++ mv)))) : Bd K fd ps n ks (ms.map (·.2)) is := by
  obtain ⟨oc, od, dV, kV, doc, pm, an, cdv, ct, osl, rfl, lk, hcd, hD, hK⟩ := F.ex
  rcases hD with ⟨_, rfl⟩ | ⟨z, _⟩
  · rcases hK with e | ⟨D, rfl, hq⟩
    · exact absurd e hk
    · obtain ⟨mv, hl, rk, hks⟩ := kwd_vals (K := K) (D := D) (ms := ms.map fun q => (q.1, cV K [] q.2)) fun q hm => by
        obtain ⟨r, hr, rfl⟩ := List.mem_map.mp hm
        exact hq _ (hms r hr)
      have e1 : (ms.map fun q => (q.1, cV K [] q.2)).map (·.2) = cL K [] (ms.map (·.2)) := by simp [cL, List.map_map, Function.comp_def]
      have e2 : (ms.map fun q => (q.1, cV K [] q.2)).map (·.1) = ms.map (·.1) := by simp [List.map_map, Function.comp_def]
      rw [e1] at rk
      rw [e2] at hks
      refine ⟨fun z hz m => ?_, ⟨mv, rk, fun s us ws X h1 h2 => ?_⟩⟩
      · obtain ⟨q, hq', rfl⟩ := List.mem_map.mp hz
        exact hfl q hq' m
      · exact BindsTo.of_looks fun M => KwChain.looks X hks (hh D doc pm an cdv ct us ws mv h1 h2 (by simpa using hl))
  · exact absurd rfl z
end
end Mc

/-! comprehensions of two loops -/
namespace Mc
open PySem PySem.Spec PyProof.Rows L2
def collM2 (J : ItM) (g : MGx) (t : MTx) (mi1 : MIx) (g1 : MGx) (t1 : MTx) (e : MEx) (σ : MSt) (vs vs1 : List Nat) (d : Nat) : Nat → Nat → Mh → Option Mh
  | 0, _, h => if J.fin h then some h else none
  | n + 1, i, h => match J.at_ i h with
    | none => none
    | some (w, h1) => match g w σ h1 with
      | none => none
      | some (σ1, h2) => if wip σ1 vs = wip σ vs then (match rok (t σ1 h2) with
        | none => none
        | some (k, h3) => if k then (match rok (mi1 σ1 h3) with
          | none => none
          | some (J1, h4) => match collM J1 g1 t1 e (wip σ1 vs1) vs1 d J1.n 0 h4 with
            | some h5 => collM2 J g t mi1 g1 t1 e σ vs vs1 d n (i + 1) h5
            | none => none) else collM2 J g t mi1 g1 t1 e σ vs vs1 d n (i + 1) h3) else none
def mLc2 (mi : MIx) (g : MGx) (t : MTx) (mi1 : MIx) (g1 : MGx) (t1 : MTx) (e : MEx) (vs vs1 : List Nat) : MEx := fun σ h => (mi σ h).bind fun J h1 => match collM2 J g t mi1 g1 t1 e (wip σ vs) vs vs1 h1.length J.n 0 (h1 ++ [.lst []]) with
  | some h2 => .ok (.ref h1.length) h2
  | none => .no
section
variable {X : Cx} {Wx : WX} {K : Frag}
theorem lI_rok {m : MIx} {ρ : List Addr} {h h' : Mh} {H : Hp} {σ : MSt} {J : ItM} {Q : It → Hp → Prop} (rp : Rep K ρ h H) (wf : WfS h.length σ) (e : rok (m σ h) = some (J, h')) (q : ∀ ρ' H', ρ <+: ρ' → Rep K ρ' h' H' → ∀ V, ItR K ρ' J V → Q V H') : lI K Wx m (cS K ρ σ) H Q := by
  refine ⟨ρ, h, σ, rp, wf, rfl, ?_⟩
  cases r : m σ h with
  | ok a h2 => rw [r] at e; cases e; exact fun ρ' H' l r _ => q ρ' H' l r
  | ex x h2 => rw [r] at e; cases e
  | no => rw [r] at e; cases e
theorem lc_inner {ρ4 : List Addr} {h4 : Mh} {H4 : Hp} {J1 : ItM} {V1 : It} {σ2 : MSt} {d : Nat} {D : Addr} {Nx : Hp → Prop} {g1 : MGx} {t1 : MTx} {e : MEx} {vs1 : List Nat} (Fin : Mh → Prop) (r4 : Rep K ρ4 h4 H4) (w4 : WfS h4.length σ2) (hV : ItR K ρ4 J1 V1)
    (eD : ∀ ρ', ρ4 <+: ρ' → ρ'.getD d 0 = D) (fin : ∀ ρ' h' H', ρ4 <+: ρ' → Rep K ρ' h' H' → Fin h' → Nx H') (go : match collM J1 g1 t1 e (wip σ2 vs1) vs1 d J1.n 0 h4 with | some h5 => Fin h5 | none => False) :
    ∃ W1 : Nat → Nat → Hp → Prop, (∃ m, W1 0 m H4) ∧ ∀ j k H, W1 j k H → (V1.stop j H ∧ Nx H) ∨ (V1.go j H ∧ ∃ Nx1 : Hp → Prop, (∀ H', Nx1 H' → ∃ k', k' < k ∧ W1 (j + 1) k' H') ∧ ∀ x H', V1.yld j H x H' → lG K g1 x (wipe (cS K ρ4 σ2) vs1) H' fun σ3 H5 => wipe σ3 vs1 = wipe (cS K ρ4 σ2) vs1 ∧ lT K W0 t1 σ3 H5 fun b H6 =>
      if b = true then lE K W0 e σ3 H6 fun y H7 => ∃ acc, H7 D = some (.lst acc) ∧ acc.length < sizeLine ∧ Nx1 (upd H7 D (.lst (acc ++ [y]))) else Nx1 H6) := by
  have es : ∀ {ρ' : List Addr}, ρ4 <+: ρ' → wipe (cS K ρ4 σ2) vs1 = cS K ρ' (wip σ2 vs1) := fun {ρ'} l => by
    rw [← cS_wip, ← cS_pre (K := K) l ((r4.wfS w4).wip vs1)]
  refine ⟨fun j k H => ∃ ρ' h', ρ4 <+: ρ' ∧ Rep K ρ' h' H ∧ j + k = J1.n ∧ (match collM J1 g1 t1 e (wip σ2 vs1) vs1 d k j h' with | some h5 => Fin h5 | none => False), ⟨J1.n, ρ4, h4, pre_rfl, r4, Nat.zero_add _, go⟩, ?_⟩
  rintro i n H' ⟨ρ', h', lA, r', hn, g'⟩
  have hle4 : h4.length ≤ h'.length := r4.up r' lA
  cases n with
  | zero =>
    unfold collM at g'
    split at g'
    · rename_i hq
      split at hq
      · rename_i hf
        cases hq
        have ei : i = J1.n := hn
        subst ei
        exact .inl ⟨hV.stop ρ' h' H' lA r' hf, fin ρ' h' H' lA r' g'⟩
      · cases hq
    · exact g'.elim
  | succ n =>
    unfold collM at g'
    cases qa : J1.at_ i h' with
    | none => rw [qa] at g'; exact g'.elim
    | some p =>
      obtain ⟨w, h2⟩ := p
      rw [qa] at g'
      obtain ⟨hgo, hyl⟩ := hV.go i ρ' h' h2 H' w (by omega) lA r' qa
      refine .inr ⟨hgo, fun H'' => ∃ ρ' h', ρ4 <+: ρ' ∧ Rep K ρ' h' H'' ∧ i + 1 + n = J1.n ∧ (match collM J1 g1 t1 e (wip σ2 vs1) vs1 d n (i + 1) h' with | some h5 => Fin h5 | none => False), fun H'' hN => ⟨n, Nat.lt_succ_self n, hN⟩, fun x H2 hy => ?_⟩
      obtain ⟨ρ2, lρ2, rr2, ww, rfl, hle⟩ := hyl x H2 hy
      have w2 : WfS h2.length (wip σ2 vs1) := (w4.wip vs1).mono (by omega)
      refine ⟨ρ2, h2, wip σ2 vs1, w, rr2, w2, ww, es (lA.trans lρ2), rfl, ?_⟩
      simp only at g'
      cases qg : g1 w (wip σ2 vs1) h2 with
      | none => rw [qg] at g'; exact g'.elim
      | some p2 =>
        obtain ⟨σ1, h3⟩ := p2
        rw [qg] at g'
        simp only at g' ⊢
        intro ρ3 H3 l3 r3 w3
        have lB : ρ4 <+: ρ3 := (lA.trans lρ2).trans l3
        by_cases hw : wip σ1 vs1 = wip (wip σ2 vs1) vs1
        · rw [if_pos hw] at g'
          have idem : wip (wip σ2 vs1) vs1 = wip σ2 vs1 := wip_idem σ2 vs1
          refine ⟨?_, ?_⟩
          · rw [← cS_wip, hw, idem, es lB]
          · cases qt : rok (t1 σ1 h3) with
            | none => rw [qt] at g'; exact g'.elim
            | some p3 =>
              obtain ⟨k, h4'⟩ := p3
              rw [qt] at g'
              simp only at g'
              refine lT_rok r3 w3 qt fun ρ5 H5 l5 r5 => ?_
              have lC : ρ4 <+: ρ5 := lB.trans l5
              cases k with
              | false => exact ⟨ρ5, h4', lC, r5, by omega, g'⟩
              | true =>
                rw [if_pos rfl] at g'
                refine iteT ?_
                rw [← cS_pre l5 (r3.wfS w3)]
                cases qe : rok (e σ1 h4') with
                | none => rw [qe] at g'; exact g'.elim
                | some p4 =>
                  obtain ⟨y, h5⟩ := p4
                  rw [qe] at g'
                  simp only at g'
                  refine lE_rok r5 (w3.mono (r3.up r5 l5)) qe fun ρ6 H6 l6 r6 wy => ?_
                  have lD : ρ4 <+: ρ6 := lC.trans l6
                  cases qd : h5[d]? with
                  | none => simp only [qd] at g'
                  | some o =>
                    cases o with
                    | lst acc =>
                      simp only [qd] at g'
                      split at g'
                      · rename_i hq
                        split at hq
                        · rename_i hl
                          obtain ⟨z1, z2⟩ := r6.lstAt qd
                          rw [eD _ lD] at z1
                          refine ⟨_, z1, by rw [List.length_map]; exact lim_lt (Nat.le_of_lt hl), ρ6, h5.set d (.lst (acc ++ [y])), lD, ?_, by omega, ?_⟩
                          · have z := r6.set (o' := .lst (acc ++ [y])) qd rfl rfl (z2.app fun v hv => by rw [List.mem_singleton.mp hv]; exact wy)
                            rw [eD _ lD, show cO K ρ6 (.lst (acc ++ [y])) = .lst (cL K ρ6 acc ++ [cV K ρ6 y]) from congrArg HO.lst List.map_append] at z
                            exact z
                          · rw [hq]; exact g'
                        · cases hq
                      · exact g'.elim
                    | _ => simp only [qd] at g'
        · rw [if_neg hw] at g'; exact g'.elim
theorem lE_lc2 {mi mi1 : MIx} {g g1 : MGx} {t t1 : MTx} {e : MEx} {vs vs1 : List Nat} {σV : L2.St} {H : Hp} {Q : VK} (q0 : lE K Wx (mLc2 mi g t mi1 g1 t1 e vs vs1) σV H Q) : tLc2 (lI K Wx mi) (lG K g) (lT K W0 t) (lI K W0 mi1) (lG K g1) (lT K W0 t1) (lE K W0 e) vs vs1 σV H Q := by
  obtain ⟨ρ, h, σ, rp, wf, hs, q0⟩ := q0
  subst hs
  refine ⟨ρ, h, σ, rp, wf, rfl, q0.bind.imp fun ρ1 h1 J H1 l1 r1 _ g0 V hV D hD => ?_⟩
  have r2 := r1.alloc (o := .lst []) hD rfl (fun z hz => by cases hz)
  have l2 : ρ1 <+: ρ1 ++ [D] := ⟨_, rfl⟩
  have eD : ∀ {ρ' : List Addr}, ρ1 ++ [D] <+: ρ' → ρ'.getD h1.length 0 = D := fun {ρ'} l => by
    rw [getD_pre l (by rw [List.length_append, r1.len]; simp), ← r1.len, getD_last]
  have w1 : WfS h1.length (wip σ vs) := (wf.mono (rp.up r1 l1)).wip vs
  have es : ∀ {ρ' : List Addr}, ρ1 <+: ρ' → wipe (cS K ρ σ) vs = cS K ρ' (wip σ vs) := fun {ρ'} l => by
    rw [← cS_wip, ← cS_pre (K := K) (l1.trans l) ((rp.wfS wf).wip vs)]
  refine ⟨fun i n H' => ∃ ρ' h', ρ1 ++ [D] <+: ρ' ∧ Rep K ρ' h' H' ∧ i + n = J.n ∧ Gd K (fun c d H' => Wx c d (cS K ρ σ) H') ρ' wfV (match collM2 J g t mi1 g1 t1 e (wip σ vs) vs vs1 h1.length n i h' with
      | some h2 => R.ok (W.ref h1.length) h2
      | none => R.no) (fun ρ' _ w H' => Q (cV K ρ' w) H'), ⟨J.n, ρ1 ++ [D], h1 ++ [.lst []], pre_rfl, r2, Nat.zero_add _, g0.pre l2⟩, ?_⟩
  rintro i n H' ⟨ρ', h', l', r', hn, g'⟩
  have lA : ρ1 <+: ρ' := l2.trans l'
  have hlen : h1.length < h'.length := by
    have := l'.length_le
    rw [List.length_append, r1.len, r'.len, List.length_singleton] at this
    exact this
  cases n with
  | zero =>
    unfold collM2 at g'
    split at g'
    · rename_i hq
      split at hq
      · rename_i hf
        cases hq
        have ei : i = J.n := hn
        subst ei
        have fin : Q (cV K ρ' (.ref h1.length)) H' := g' ρ' H' pre_rfl r' hlen
        rw [show cV K ρ' (.ref h1.length) = .ref D from congrArg L2.V.ref (eD l')] at fin
        exact .inl ⟨hV.stop ρ' h' H' lA r' hf, fin⟩
      · cases hq
    · exact g'.elim
  | succ n =>
    unfold collM2 at g'
    cases qa : J.at_ i h' with
    | none => rw [qa] at g'; exact g'.elim
    | some p =>
      obtain ⟨w, h2⟩ := p
      rw [qa] at g'
      obtain ⟨hgo, hyl⟩ := hV.go i ρ' h' h2 H' w (by omega) lA r' qa
      refine .inr ⟨hgo, fun H'' => ∃ ρ' h', ρ1 ++ [D] <+: ρ' ∧ Rep K ρ' h' H'' ∧ i + 1 + n = J.n ∧ Gd K (fun c d H' => Wx c d (cS K ρ σ) H') ρ' wfV (match collM2 J g t mi1 g1 t1 e (wip σ vs) vs vs1 h1.length n (i + 1) h' with
        | some h2 => R.ok (W.ref h1.length) h2
        | none => R.no) (fun ρ' _ w H' => Q (cV K ρ' w) H'), fun H'' hN => ⟨n, Nat.lt_succ_self n, hN⟩, fun x H2 hy => ?_⟩
      obtain ⟨ρ2, lρ2, rr2, ww, rfl, hle⟩ := hyl x H2 hy
      have w2 : WfS h2.length (wip σ vs) := w1.mono (by omega)
      refine ⟨ρ2, h2, wip σ vs, w, rr2, w2, ww, es (lA.trans lρ2), rfl, ?_⟩
      simp only at g'
      cases qg : g w (wip σ vs) h2 with
      | none => rw [qg] at g'; exact g'.elim
      | some p2 =>
        obtain ⟨σ1, h3⟩ := p2
        rw [qg] at g'
        simp only at g' ⊢
        intro ρ3 H3 l3 r3 w3
        have lB : ρ1 <+: ρ3 := (lA.trans lρ2).trans l3
        by_cases hw : wip σ1 vs = wip (wip σ vs) vs
        · rw [if_pos hw] at g'
          have idem : wip (wip σ vs) vs = wip σ vs := wip_idem σ vs
          refine ⟨?_, ?_⟩
          · rw [← cS_wip, hw, idem, es lB]
          · cases qt : rok (t σ1 h3) with
            | none => rw [qt] at g'; exact g'.elim
            | some p3 =>
              obtain ⟨k, h4⟩ := p3
              rw [qt] at g'
              simp only at g'
              refine lT_rok r3 w3 qt fun ρ4 H4 l4 r4 => ?_
              have lC : ρ1 ++ [D] <+: ρ4 := ((l'.trans lρ2).trans l3).trans l4
              cases k with
              | false => exact ⟨ρ4, h4, lC, r4, by omega, g'.pre ((lρ2.trans l3).trans l4)⟩
              | true =>
                rw [if_pos rfl] at g'
                refine iteT ?_
                rw [← cS_pre l4 (r3.wfS w3)]
                cases qi : rok (mi1 σ1 h4) with
                | none => rw [qi] at g'; exact g'.elim
                | some p4 =>
                  obtain ⟨J1, h5⟩ := p4
                  rw [qi] at g'
                  simp only at g'
                  have w4 : WfS h4.length σ1 := w3.mono (r3.up r4 l4)
                  refine lI_rok r4 w4 qi fun ρ5 H5 l5 r5 V1 hV1 => ?_
                  have lD : ρ1 ++ [D] <+: ρ5 := lC.trans l5
                  have w5 : WfS h5.length σ1 := w4.mono (r4.up r5 l5)
                  rw [← cS_pre l5 (r4.wfS w4)]
                  refine lc_inner (fun h6 => Gd K (fun c d H' => Wx c d (cS K ρ σ) H') ρ' wfV (match collM2 J g t mi1 g1 t1 e (wip σ vs) vs vs1 h1.length n (i + 1) h6 with
                    | some h2 => R.ok (W.ref h1.length) h2
                    | none => R.no) (fun ρ' _ w H' => Q (cV K ρ' w) H')) r5 w5 hV1 (fun ρ' l => eD (lD.trans l)) (fun ρ6 h6 H6 l6 r6 hf => ⟨ρ6, h6, lD.trans l6, r6, by omega, hf.pre ((((lρ2.trans l3).trans l4).trans l5).trans l6)⟩) ?_
                  cases qc : collM J1 g1 t1 e (wip σ1 vs1) vs1 h1.length J1.n 0 h5 with
                  | none => simp only [qc] at g'; exact g'.elim
                  | some h6 => simp only [qc] at g'; exact g'
        · rw [if_neg hw] at g'; exact g'.elim
theorem me_lc2 {elt tg iter tg1 iter1 : Expr} {ifs ifs1 : List Expr} {scope : Scope} {own : List (Str × Nat)} {vs1 : List Nat} {pos : Pos} {mi mi1 : MIx} {g g1 : MGx} {t t1 : MTx} {e : MEx} (hc : X.calm = true) (hN : X.N.Nodup) (hi : MI X Wx tg iter mi) (ok : BlkOk X.N X.env.scope scope own) (hv : ∀ i ∈ vs1, i ∈ own.map (·.2))
    (hg : ∀ (s : Shared) (H : Hp) (C : Addr) (cl : List (Str × Addr)) (fp : List Addr), MG (X.blk s H scope (compEnvC scope cl C X.env) fp) tg g) (ht : ∀ (s : Shared) (H : Hp) (C : Addr) (cl : List (Str × Addr)) (fp : List Addr), PTs (X.blk s H scope (compEnvC scope cl C X.env) fp) ifs (lT X.K W0 t))
    (hi1 : ∀ (s : Shared) (H : Hp) (C : Addr) (cl : List (Str × Addr)) (fp : List Addr), MI (X.blk s H scope (compEnvC scope cl C X.env) fp) W0 tg1 iter1 mi1)
    (hg1 : ∀ (s : Shared) (H : Hp) (C : Addr) (cl : List (Str × Addr)) (fp : List Addr), MG (X.blk s H scope (compEnvC scope cl C X.env) fp) tg1 g1) (ht1 : ∀ (s : Shared) (H : Hp) (C : Addr) (cl : List (Str × Addr)) (fp : List Addr), PTs (X.blk s H scope (compEnvC scope cl C X.env) fp) ifs1 (lT X.K W0 t1))
    (he : ∀ (s : Shared) (H : Hp) (C : Addr) (cl : List (Str × Addr)) (fp : List Addr), ME (X.blk s H scope (compEnvC scope cl C X.env) fp) W0 elt e) (hs : ∀ x, foldedSetIterable iter X.env x = pure x := by intro _; rfl) (hs1 : ∀ env x, foldedSetIterable iter1 env x = pure x := by intro _ _; rfl) :
    ME X Wx (.ListComp elt [⟨tg, iter, ifs, 0⟩, ⟨tg1, iter1, ifs1, 0⟩] scope pos) (mLc2 mi g t mi1 g1 t1 e (own.map (·.2)) vs1) := peI (pe_lc2 hc hN hi ok hv hg ht hi1 hg1 ht1 he hs hs1) fun _ _ _ q => lE_lc2 q
end
end Mc

namespace Mc
open PySem PySem.Spec PyProof.Rows L2

/-! ### defs that may be called while an exception is handled -/
structure RoomT (k : Nat) (A : Around) : Prop where
  dp : A.depth + 3 * k + 5 < recursionLimit
  un : A.units + 16 * k + 200 < cLine
  gd : A.guards = some []
theorem RoomT.mono {j k : Nat} {A : Around} (r : RoomT k A) (l : j ≤ k) : RoomT j A := ⟨by have := r.dp; omega, by have := r.un; omega, r.gd⟩
theorem RoomG.tepid {k : Nat} {A : Around} (r : RoomG k A) : RoomT k A := ⟨r.rm.dp, r.rm.un, r.gd⟩
theorem RoomT.depth {k : Nat} {A : Around} (r : RoomT k A) : A.depth < recursionLimit := by have := r.dp; omega
theorem RoomT.deeper {k : Nat} {A : Around} (r : RoomT (k + 1) A) (env : Env) : RoomT k (A.deeper env) :=
  ⟨by have := r.dp; show A.depth + 1 + 3 * k + 5 < _; omega, by have := r.un; show A.units + 3 + 16 * k + 200 < _; omega, r.gd⟩
structure FnT (P : Program) (w : World) (K : Frag) (mg : Mg) (base : Heap) (k : Nat) (f : Addr) (fd : FuncData) (ps : List Str) (F : Fm) : Prop where
  run : ∀ (A : Around) (outer : List Env) (s : Shared) (H : Hp) (args : Args) (us : List Value) (ρ : List Addr) (h : Mh) (ws : List W) (Q : VK) (E : XK), RoomT k A → Env0 P w K mg base A outer s H → BindsTo s fd args (ps.zip us) →
    Vals (cL K ρ ws) us → ws.length = ps.length → Rep K ρ h H → WfL h.length ws → Gd K E ρ wfV (F ws h) (fun ρ' _ w H' => Q (cV K ρ' w) H') → codeAny (model P w) A (.call (.ref f) args) (CR (L2.CX P w) outer P w H s Q E) s
theorem FnT.calm {P : Program} {w : World} {K : Frag} {mg : Mg} {base : Heap} {k : Nat} {f : Addr} {fd : FuncData} {ps : List Str} {F : Fm} (G : FnT P w K mg base k f fd ps F) : FnM P w K mg base k f fd ps F :=
  ⟨fun A outer s H args us ρ h ws Q E hr => G.run A outer s H args us ρ h ws Q E hr.tepid⟩
theorem FnT.mono {P : Program} {w : World} {K : Frag} {mg : Mg} {base : Heap} {j k : Nat} {f : Addr} {fd : FuncData} {ps : List Str} {F : Fm} (G : FnT P w K mg base j f fd ps F) (l : j ≤ k) : FnT P w K mg base k f fd ps F :=
  ⟨fun A outer s H args us ρ h ws Q E hr => G.run A outer s H args us ρ h ws Q E (hr.mono l)⟩
abbrev cxT (P : Program) (w : World) (K : Frag) (mg : Mg) (base : Heap) (N : List Str) (qual : Str) (scope : Scope) (f : Addr) (cd : Value) (A : Around) (outer : List Env) (s : Shared) (H : Hp) (E : XK) : Cx :=
  { cxOf (L2.CX P w) P w K mg base N qual scope f cd A outer s H E with calm := false }
theorem inv_startT {P : Program} {w : World} {K : Frag} {mg : Mg} {base : Heap} {N ps : List Str} {qual : Str} {scope : Scope} {f : Addr} {cd : Value} {A : Around} {outer : List Env} {s s1 : Shared} {H : Hp} {E : XK} {us : List Value} {vs : List V}
    (S : FnScope N ps scope) (e0 : Env0 P w K mg base A outer s H) (hl : vs.length = ps.length) (r : Vals vs us)
    (x : InCallC s s.heap.objs.size (bindL (envOfC qual scope s.heap.objs.size f cd).kindOf (ps.zip us) fun _ => none) (cellsFrom (s.heap.objs.size + 1) scope.names []) (bindC (envOfC qual scope s.heap.objs.size f cd).kindOf (ps.zip us) fun _ => none) s1) :
    Inv (cxT P w K mg base N qual scope f cd A outer s H E) [] (start N vs) H s1 := by
  have I := inv_start (CX := L2.CX P w) (N := N) (E := E) (A := { A with handled := none }) S rfl ⟨e0.frames, e0.mod, e0.bs, e0.bsz, e0.funs, e0.frf, e0.hok, e0.bare⟩ hl r x
  exact ⟨⟨I.ok.mod, I.ok.kind, I.ok.glob, I.ok.blt, I.ok.above, I.ok.inj, I.ok.has, I.ok.cab, (fun z => absurd (show false = true from z) Bool.false_ne_true), Around.frames_deeper e0.frames, I.ok.stk, I.ok.exf, I.ok.bs, I.ok.bsz, I.ok.noex, I.ok.exfs, I.ok.funs, I.ok.frf⟩,
    I.os, I.bare, I.base, I.loc, I.cell, I.free, I.freeC, I.pin, I.hok, I.len⟩
section
variable {P : Program} {w : World} {K : Frag} {mg : Mg} {base : Heap} {x qual : Str} {params : Arguments} {body : List Stmt} {scope : Scope} {dvs : List V} {kws : List (Str × V)} {f : Addr} {fd : FuncData}
theorem FunD_okT {N ps : List Str} {k : Nat} {m : MSx} (F : FunD K x qual params body scope dvs kws f fd) (S : FnScope N ps scope)
    (hbody : ∀ (cdv : Value) (A : Around) (outer : List Env) (s : Shared) (H : Hp) (E : XK), RoomT k (A.deeper (envOfC qual scope s.heap.objs.size f cdv)) → MSs (cxT P w K mg base N qual scope f cdv A outer s H E) (wE E) body m) :
    FnT P w K mg base (k + 1) f fd ps (fnRun N.length m) := by
  obtain ⟨oc, od, dV, kV, doc, pm, an, cdv, ct, osl, rfl, lk, hcd, _, _⟩ := F.ex
  refine ⟨fun A outer s H args us ρ h ws Q E hr e0 hb r hl rp wf gd => ?_⟩
  have hlv : (cL K ρ ws).length = ps.length := by rw [List.length_map]; exact hl
  have KX : K.In s.heap := e0.mod.kin.keeps fun b o e => (e0.bs b o e).1
  have limit : s.heap.NoLimit := e0.mod.nolimit.keeps fun b o e => (e0.bs b o e).1
  refine codeAny_call_function hr.depth (KX _ _ lk) rfl S.co S.gen rfl (PySem.W.codeRec_of KX hcd) (hb _ _ _ _ ?_)
  refine wpAny_newFunctionEnv_cells S.kind (fun ⟨n, v⟩ hy => ?_) fun env he s1 xx => ?_
  · rcases S.par n (List.of_mem_zip hy).1 with q | q
    · exact .inl q
    · exact .inr ⟨q, PySem.W.cellsFrom_some _ _ _ (.inl q)⟩
  subst he
  refine ⟨limit.keeps xx.toInCall.keep, codeAny_func ?_⟩
  have rg : RoomT k (A.deeper (envOfC qual scope s.heap.objs.size f cdv)) := hr.deeper _
  have I0 := inv_startT (N := N) (E := E) S e0 hlv r xx
  have mm := hbody cdv A outer s H E rg
  have body_ok : lS K (wE E) m { nx := fun _ H' => Q .non H', rt := Q } (start N (cL K ρ ws)) H := by
    rw [start_c]
    refine ⟨ρ, h, startW N.length ws, rp, startW_wf wf, rfl, ?_⟩
    unfold fnRun at gd
    cases q : m (startW N.length ws) h with
    | none => rw [q] at gd; exact gd.elim
    | some p =>
      obtain ⟨fl, h'⟩ := p
      rw [q] at gd
      cases fl with
      | nx σ' => exact fun ρ' H' l' r' _ => gd ρ' H' l' r' trivial
      | rt v => exact fun ρ' H' l' r' w' => gd ρ' H' l' r' w'
      | bk σ' => exact gd.elim
      | ct σ' => exact gd.elim
      | xc y σ' => exact fun ρ' H' l' r' _ => gd ρ' H' l' r'
  refine wpAny_mono (mm.run [] s1 (start N (cL K ρ ws)) H _ I0 body_ok) (fun fl s' hs => ?_) fun e s' hs => hs
  have fin : ∀ {σ' : L2.St} {H' : Hp} {v : V} {u : Value}, Inv (cxT P w K mg base N qual scope f cdv A outer s H E) [] σ' H' s' → RelV v u → Q v H' → CE outer P w H s Q u s' :=
    fun {σ' H' v u} J rv qq => ⟨v, H', J.os, J.bare, J.base, J.hok, rv, qq⟩
  cases fl with
  | ret u =>
    obtain ⟨v, σ', H', J, rv, qq⟩ := hs
    exact fin J rv qq
  | next =>
    obtain ⟨σ', H', J, qq⟩ := hs
    exact fin (v := V.non) (u := Value.none) J rfl qq
  | brk =>
    obtain ⟨_, _, _, qq⟩ := hs
    exact False.elim qq
  | cont =>
    obtain ⟨_, _, _, qq⟩ := hs
    exact False.elim qq
end
section
variable {X : Cx} {Wx : WX} {k n : Nat} {f : Addr} {fd : FuncData} {ps ks : List Str} {F : Fm} {dW : List W} {is : List Nat} {x : Str} {p pos kpos : Pos} {e : Expr} {es : List Expr} {kws : List Keyword} {ma mk : MAx} {me : MEx} {nm : Option Str}
/-- the callee runs -/
theorem run_mT {pins : List (Addr × Obj)} {σV : L2.St} {H : Hp} {s : Shared} {Q : VK} {us us' : List Value} {kw : List (Str × Value)} {ρ : List Addr} {h : Mh} {ws : List W} (G : FnT X.prog X.w X.K X.mg X.base k f fd ps F) (hr : RoomT k X.A) (tk : Takes X Wx) (I : Inv X pins σV H s)
    (hb : BindsTo s fd ⟨us, kw⟩ (ps.zip us')) (r : Vals (cL X.K ρ ws) us') (hl : ws.length = ps.length) (rp : Rep X.K ρ h H) (wf : WfL h.length ws) (g : Gd X.K (fun c d H' => Wx c d σV H') ρ wfV (F ws h) (fun ρ' _ w H' => Q (cV X.K ρ' w) H')) :
    wpAny (model X.prog X.w) X.A (call (.ref f) us kw) (EP X pins σV Q) X.xe s := by
  refine wpAny_call (codeAny_mono (G.run X.A X.stack s H ⟨us, kw⟩ us' ρ h ws Q _ hr I.env0 hb r hl rp wf g) fun rr s' hq => ?_)
  cases rr with
  | error e => exact tk e s' (XE.of_call I (fun _ _ _ z => z) hq)
  | ok fl =>
    cases fl with
    | ret u => exact I.after hq
    | next => exact False.elim hq
    | brk => exact False.elim hq
    | cont => exact False.elim hq
/-- behind the arguments of a call -/
theorem call_mT {pins : List (Addr × Obj)} {σV : L2.St} {H : Hp} {s : Shared} {Q : VK} {us ws : List Value} {ρ : List Addr} {h : Mh} {vs zs : List W} (G : FnT X.prog X.w X.K X.mg X.base k f fd ps F) (hr : RoomT k X.A) (tk : Takes X Wx) (B : Bd X.K fd ps n ks dW is) (I : Inv X pins σV H s)
    (rv : Vals (cL X.K ρ vs) us) (rz : Vals (cL X.K ρ zs) ws) (rp : Rep X.K ρ h H) (wv : WfL h.length vs) (wz : WfL h.length zs)
    (g : Gd X.K (fun c d H' => Wx c d σV H') ρ wfV (if vs.length = n ∧ zs.length = ks.length ∧ (sel is (vs ++ zs ++ dW)).length = ps.length then F (sel is (vs ++ zs ++ dW)) h else .no) (fun ρ' _ w H' => Q (cV X.K ρ' w) H')) :
    wpAny (model X.prog X.w) X.A (call (.ref f) us (ks.zip ws)) (EP X pins σV Q) X.xe s := by
  split at g
  · rename_i hz
    have l1 : us.length = n := by rw [← rv.length, List.length_map]; exact hz.1
    have l2 : ws.length = ks.length := by rw [← rz.length, List.length_map]; exact hz.2.1
    obtain ⟨ds, rd, hb⟩ := B.to
    refine run_mT (ws := sel is (vs ++ zs ++ dW)) G hr tk I (hb s us ws I.kIn l1 l2) ?_ hz.2.2 rp (sel_wf ((wv.app wz).app fun z hz => B.flat z hz _)) g
    rw [cL_sel]
    refine Vals_sel ?_ is
    rw [cL, List.map_append, List.map_append]
    refine (rv.append rz).append ?_
    rw [show List.map (cV X.K ρ) dW = cL X.K [] dW from cL_flat B.flat]
    exact rd
  · exact g.elim
theorem me_callT (G : FnT X.prog X.w X.K X.mg X.base k f fd ps F) (hr : RoomT k X.A) (tk : Takes X Wx) (hg : Gl X x) (hm : X.mg x = some (.ref f)) (hk : PySem.W.keepIn X.K (.ref f) = true) (B : Bd X.K fd ps n [] dW is)
    (ha : MA X Wx (e :: es) ma) (hdb : (x == ("__debug__" : Str)) = false := by decide) (he : starEach (e :: es) X.env = (false, eval e X.env) :: starEach es X.env := by rfl) (hpl : (backTo pos (starEach es X.env)).any (·.1) = false := by rfl) :
    ME X Wx (.Call (.Name x p) (e :: es) [] pos) (mCall F n 0 ps.length dW is ma mNil) := by
  refine ⟨fun pins s σV H Q I ⟨ρ, h, σ, rp, wf, hs, g⟩ => ?_⟩
  subst hs
  refine wpAny_Call_Name_kw (ld_glob I hg hm ?_ hdb)
  refine PySem.W.callWith_K (h₀ := X.base) I.ok.mod.kin hk (thn (ma_run ha I rp wf g.bind) fun us s1 hq => ?_) he hpl
  obtain ⟨ρ1, h1, vs, H1, l1, r1, w1, I1, rv, g1⟩ := hq
  exact ⟨I1.kIn, call_mT (ws := []) (zs := []) G hr tk B I1 rv .nil r1 w1 (fun z hz => by cases hz) g1⟩
theorem me_callT0 (G : FnT X.prog X.w X.K X.mg X.base k f fd ps F) (hr : RoomT k X.A) (tk : Takes X Wx) (hg : Gl X x) (hm : X.mg x = some (.ref f)) (hk : PySem.W.keepIn X.K (.ref f) = true) (B : Bd X.K fd ps 0 [] dW is) (hdb : (x == ("__debug__" : Str)) = false := by decide) :
    ME X Wx (.Call (.Name x p) [] [] pos) (mCall F 0 0 ps.length dW is mNil mNil) := by
  refine ⟨fun pins s σV H Q I ⟨ρ, h, σ, rp, wf, hs, g⟩ => ?_⟩
  subst hs
  refine wpAny_Call_Name_kw (ld_glob I hg hm ?_ hdb)
  exact PySem.W.callWith_K0 I.kIn hk (call_mT (us := []) (ws := []) (vs := []) (zs := []) G hr tk B I .nil .nil rp (fun z hz => by cases hz) (fun z hz => by cases hz) g)
end
end Mc

namespace Mc
open PySem PySem.Spec PyProof.Rows L2

/-! ### try: a caught exception is an object of the heap -/
section
variable {K : Frag} {ρ : List Addr} {h : Mh} {H : Hp} {p : Addr} {C : Str} {d : Option Nat}
theorem Rep.allocX (r : Rep K ρ h H) (hp : H p = none) (wf : ∀ i, d = some i → i < h.length) : Rep K (ρ ++ [p]) (h ++ [.exc C d]) (upd H p (exq p (He.ga K C) (d.map fun i => ρ.getD i 0))) := by
  have pre : ρ <+: ρ ++ [p] := ⟨_, rfl⟩
  have old : ∀ (i : Nat) (o : MO), (h ++ [MO.exc C d])[i]? = some o → o.trk = true → i < h.length ∧ h[i]? = some o := fun i o e t => by
    by_cases hi : i < h.length
    · rw [List.getElem?_append_left hi] at e; exact ⟨hi, e⟩
    · have hl := (List.getElem?_eq_some_iff.mp e).1
      rw [List.length_append, List.length_singleton] at hl
      have hi2 : i = h.length := by omega
      subst hi2
      rw [List.getElem?_append_right (Nat.le_refl _), Nat.sub_self] at e
      have e : MO.exc C d = o := by simpa using e
      subst e; cases t
  refine ⟨by simp [r.len], fun o' ho' => ?_, fun i o' e => ?_, fun i j oi oj ei ej ti tj z => ?_⟩
  · rw [List.length_append]
    rcases List.mem_append.mp ho' with q | q
    · exact (r.wf o' q).mono (Nat.le_add_right _ _)
    · rw [List.mem_singleton.mp q]; exact fun i hi => Nat.lt_of_lt_of_le (wf i hi) (Nat.le_add_right _ _)
  · by_cases hi : i < h.length
    · rw [List.getElem?_append_left hi] at e
      rw [getD_pre pre (by rw [r.len]; exact hi)]
      refine ((r.obj i o' e).pre pre (r.wfO e)).keep fun u q => ?_
      rw [upd_ne (ne_of_none q hp)]; exact q
    · have hl := (List.getElem?_eq_some_iff.mp e).1
      rw [List.length_append, List.length_singleton] at hl
      have hi2 : i = ρ.length := by rw [r.len]; omega
      subst hi2
      rw [r.len, List.getElem?_append_right (Nat.le_refl _), Nat.sub_self] at e
      have e : MO.exc C d = o' := by simpa using e
      subst e
      have ed : (d.map fun i => (ρ ++ [p]).getD i 0) = d.map fun i => ρ.getD i 0 := by
        cases d with
        | none => rfl
        | some i => exact congrArg some (getD_pre pre (by rw [r.len]; exact wf i rfl))
      show upd H p _ _ = some (exq _ _ _)
      rw [getD_last, upd_same, ed]
  · obtain ⟨hi, ei⟩ := old i oi ei ti
    obtain ⟨hj, ej⟩ := old j oj ej tj
    rw [getD_pre pre (by rw [r.len]; exact hi), getD_pre pre (by rw [r.len]; exact hj)] at z
    exact r.inj i j oi oj ei ej ti tj z
end
theorem exq_ok {P : Program} {w : World} {H : Hp} {h : Heap} {e C : Addr} {d : Option Addr} {o : Obj} {vs : Array Value} (he : h.get? e = some o) (z : Zc (.ref C) d o) (hd : o.data = .fields vs) : ObjOk P w H h e (exq e C d) :=
  ⟨⟨o, vs, he, z, hd⟩, ⟨_, he⟩, fun h1 h2 z k => by
    obtain ⟨o, vs, q, z, hd⟩ := z
    exact ⟨o, vs, k _ q, z, hd⟩⟩
theorem exq_at {P : Program} {w : World} {H : Hp} {h : Heap} {e C : Addr} {d : Option Addr} (hok : HOk P w H h) (he : H e = some (exq e C d)) : ∃ (o : Obj) (vs : Array Value), h.get? e = some o ∧ Zc (.ref C) d o ∧ o.data = .fields vs := by
  have x : ObjOk P w H h e (.ext fun h => ∃ (o : Obj) (vs : Array Value), h.get? e = some o ∧ Zc (.ref C) d o ∧ o.data = .fields vs) := hok e _ he
  exact x.1
section
variable {X : Cx} {pins : List (Addr × Obj)} {σ : L2.St} {H : Hp} {sI s s' : Shared} {B : Heap} {a : Addr}
/-- back on the ground: the exception is an object of ours -/
theorem adopt {o : HO} (I : Inv X pins σ H sI) (nb : ∀ b o, sI.heap.get? b = some o → b ∉ frs X.stack → B.get? b = some o) (st : B.StaysIn s'.heap) (up : sI.heap.UpToSlots s'.heap) (os : s'.os = sI.os) (ag : AllBare s'.gens)
    (na : H a = none) (hB : B.get? a = none) (nfr : a ∉ frs X.stack) (new : ObjOk X.prog X.w (upd H a o) s'.heap a o) : Inv X pins σ (upd H a o) s' := by
  have nf : ∀ b ∈ frs X.stack, ∀ o, sI.heap.get? b = some o → ∃ sl, s'.heap.get? b = some { o with slots := sl } := fun b hb o e => by
    obtain ⟨_, o', e', hd⟩ := I.stack.mem hb
    rw [e] at e'; cases e'
    exact up b o e hd
  have ne : ∀ b o, sI.heap.get? b = some o → b ≠ a := fun b o e z => by
    subst z
    have := nb b o e nfr
    rw [hB] at this; cases this
  refine I.call' (ch := []) os ⟨fun b o e _ hb _ => st b o (nb b o e hb), fun b o e _ hb _ => nf b hb o e, fun b o e n _ => by rw [upd_ne (ne b o e)]; exact n, fun b o e _ => ?_, fun b xs e => by rw [upd_ne (ne_of_none e na)]; exact e, fun b o xs e => by rw [upd_ne (ne_of_none e na)]; exact e,
      fun b ps e => ⟨#[], by rw [upd_ne (ne_of_none e na), e]; simp⟩⟩ (fun b u q => ?_) ag (fun _ z => nomatch z)
  · by_cases hb : b ∈ frs X.stack
    · obtain ⟨sl, q⟩ := nf b hb o e
      exact ⟨_, q⟩
    · exact ⟨o, st b o (nb b o e hb)⟩
  · by_cases hb : b = a
    · subst hb
      rw [upd_same] at q
      cases q
      exact new
    · rw [upd_ne hb] at q
      exact ((I.inGround nb).kept st b u q).stay (fun c v hc z => z) (fun c hc => by rw [upd_ne (ne_of_none hc na)]; exact hc) (fun c xs hc => by rw [upd_ne (ne_of_none hc na)]; exact hc)
theorem suite0 (I : Inv X pins σ H s) : Inv (X.suite a (X.pn ++ pins)) [] σ H s :=
  ⟨I.ok.suite _ _, I.os, I.bare, I.base, I.loc, I.cell, I.free, I.freeC, fun p hp => I.pin p (by rw [List.append_nil] at hp; exact hp), I.hok, I.len⟩
theorem unsuite0 {pn' : List (Addr × Obj)} (I : Inv (X.suite a (X.pn ++ pins)) pn' σ H s) (ok : X.Ok) : Inv X pins σ H s :=
  ⟨ok, I.os, I.bare, I.base, I.loc, I.cell, I.free, I.freeC, fun p hp => I.pin p (List.mem_append_left _ hp), I.hok, I.len⟩
end
theorem fly_push {B h : Heap} {l : List Env} {a : Addr} {Z : Obj → Prop} {o : Obj} (f : HandSPX.FlyingZ B l a Z h) : HandSPX.FlyingZ B l a Z (h.push o) := by
  obtain ⟨k1, k2, k3, oe, vs, T, oT, ts, he, hz, hd, h1, hn, hT, gT, dT, t3⟩ := f
  exact ⟨fun b o e => Heap.get?_push_of_some _ (k1 b o e), k2, Heap.FunFrames.of_keeps (fun b o e _ => ⟨o, Heap.get?_push_of_some _ e, rfl⟩) k3, oe, vs, T, oT, ts, Heap.get?_push_of_some _ he, hz, hd, h1, hn, hT, Heap.get?_push_of_some _ gT, dT, t3⟩
/-- what an except clause names -/
inductive Tst (X : Cx) : Expr → List Value → Prop
  | one {x : Str} {c : Value} {np : Pos} : Names X x c → Tst X (.Name x np) [c]
  | tup {x y z : Str} {c d e : Value} {p q r pos : Pos} {k : Nat} : Names X x c → Names X y d → Names X z e → Tst X (.Tuple [.Name x p, .Name y q, .Name z r] k pos) [c, d, e]
theorem tst_run {X : Cx} {test : Expr} {cs : List Value} (T : Tst X test cs) {a : Addr} {pn pins : List (Addr × Obj)} {σ : L2.St} {H : Hp} {s : Shared} (S : Inv (X.suite a pn) pins σ H s) {oe : Obj} {cls : Value} (he : s.heap.get? a = some oe) (hz : oe.cls = cls) {b : Bool} (hb : PySem.W.exmAny X.K cls cs = some b)
    {Q : Bool → Shared → Prop} {E E2 : Value → Shared → Prop} (q1 : Q b s) (q2 : ∀ o, Q b { s with heap := s.heap.push o }) :
    wpAny (model X.prog X.w) (X.A.mark (some (.ref a))) (eval test X.env) (fun c s1 => wpAny (model X.prog X.w) (X.A.mark (some (.ref a))) (excMatches (.ref a) c) Q E s1) E2 s := by
  have nm : ∀ {x : Str} {c : Value} {np : Pos} {Q : Value → Shared → Prop} {E : Value → Shared → Prop}, Names X x c → Q c s → wpAny (model X.prog X.w) (X.A.mark (some (.ref a))) (eval (.Name x np) X.env) Q E s := fun {x c np Q E} hc q => by
    obtain ⟨hg, hdbg, hm | ⟨hm, hv, hnn⟩⟩ := hc
    · exact ld_glob (X := X.suite a pn) S hg hm q hdbg
    · exact ld_blt (X := X.suite a pn) S hg hm hv q hnn hdbg
  cases T with
  | one hc =>
    obtain ⟨b1, d1, x1, y1, z1⟩ := PySem.W.exmAny_cons hb
    have w : some false = some d1 := y1
    cases w
    subst z1
    have LT : PySem.W.Looks (model X.prog X.w) s.heap (typeOf (.ref a)) cls := fun A Q E s k q => wpAny_typeOf_ref (k _ _ he) (by rw [hz]; exact q)
    have LM := PySem.W.exm_one (M := model X.prog X.w) S.kIn LT x1
    exact nm hc (LM.here (by simpa using q1))
  | tup h1 h2 h3 =>
    refine wpAny_Tuple_spliced (Calls.spliced_cons (nm h1 (Calls.spliced_cons (nm h2 (Calls.spliced_cons (nm h3 (Calls.spliced_nil ⟨(show 3 ≤ sizeLine by decide), ?_⟩)))))))
    have LT : ∀ o, PySem.W.Looks (model X.prog X.w) (s.heap.push o) (typeOf (.ref a)) cls := fun o A Q E s k q => wpAny_typeOf_ref (k _ _ (Heap.get?_push_of_some o he)) (by rw [hz]; exact q)
    have KI : ∀ o, X.K.In (s.heap.push o) := fun o => S.kIn.keeps fun b u e => Heap.get?_push_of_some o e
    exact (PySem.W.exm_tup3 (M := model X.prog X.w) (KI _) (LT _) (Heap.get?_push_size _ rfl) hb).here (q2 _)
end Mc

namespace Mc
open PySem PySem.Spec PyProof.Rows L2

def tryEnd (i : Nat) : MR → MR
  | some (.nx σ, h) => some (.nx (σ.set i none), h)
  | some (.bk σ, h) => some (.bk (σ.set i none), h)
  | some (.ct σ, h) => some (.ct (σ.set i none), h)
  | some (.rt w, h) => some (.rt w, h)
  | _ => none
def dOk (d : Option Nat) (n : Nat) : Bool := match d with
  | none => true
  | some j => decide (j < n)
def sTryAs (oks : List Str) (i : Nat) (mb ms : MSx) : MSx := fun σ h => match mb σ h with
  | some (.xc x σ1, h1) => if x.cls ∈ oks ∧ dOk x.d h1.length = true then tryEnd i (ms (σ1.set i (some (.ref h1.length))) (h1 ++ [.exc x.cls x.d])) else none
  | r => r
def endsAs (i : Nat) (D : Ends) : Ends := { nx := fun σ' H' => D.nx (σ'.set i none) H', rt := D.rt, bk := fun σ' H' => D.bk (σ'.set i none) H', ct := fun σ' H' => D.ct (σ'.set i none) H' }
theorem cS_setN {K : Frag} {ρ : List Addr} {σ : MSt} {i : Nat} {v : Option W} : cS K ρ (σ.set i v) = (cS K ρ σ).set i (v.map (cV K ρ)) := by
  unfold cS
  rw [List.map_set]
theorem WfS.setN {n : Nat} {σ : MSt} {i : Nat} {v : Option W} (a : WfS n σ) (b : ∀ w, v = some w → wfV n w) : WfS n (σ.set i v) := fun w hw => by
  rcases List.mem_or_eq_of_mem_set hw with q | q
  · exact a w q
  · exact b w q.symm
theorem GdS.tryEnd {K : Frag} {Wx : WX} {D : Ends} {ρ : List Addr} {r : MR} {i : Nat} (g : GdS K Wx D ρ (tryEnd i r)) : GdS K W0 (endsAs i D) ρ r := by
  cases r with
  | none => exact g
  | some p =>
    obtain ⟨f, h⟩ := p
    cases f with
    | nx σ =>
      intro ρ2 H2 l r2 wf
      have := g ρ2 H2 l r2 (wf.setN fun _ z => by cases z)
      rw [cS_setN] at this; exact this
    | bk σ =>
      intro ρ2 H2 l r2 wf
      have := g ρ2 H2 l r2 (wf.setN fun _ z => by cases z)
      rw [cS_setN] at this; exact this
    | ct σ =>
      intro ρ2 H2 l r2 wf
      have := g ρ2 H2 l r2 (wf.setN fun _ z => by cases z)
      rw [cS_setN] at this; exact this
    | rt w => exact g
    | xc x σ => exact g.elim
/-- what the clause wishes of an exception of the body -/
def wTry (K : Frag) (Wx : WX) (oks : List Str) (i : Nat) (ms : MSx) (D : Ends) : WX := fun cls d σV H => ∃ (ρ : List Addr) (h : Mh) (σ : MSt) (x : Exn), Rep K ρ h H ∧ WfS h.length σ ∧ σV = cS K ρ σ ∧ cls = .ref (He.ga K x.cls) ∧ d = (x.d.map fun i => ρ.getD i 0) ∧
  x.cls ∈ oks ∧ dOk x.d h.length = true ∧ GdS K Wx D ρ (tryEnd i (ms (σ.set i (some (.ref h.length))) (h ++ [.exc x.cls x.d])))
theorem lS_try {K : Frag} {Wx : WX} {oks : List Str} {i : Nat} {mb ms : MSx} {D : Ends} {σV : L2.St} {H : Hp} (g : lS K Wx (sTryAs oks i mb ms) D σV H) : lS K (wTry K Wx oks i ms D) mb D σV H := by
  obtain ⟨ρ, h, σ, r, wf, e, g⟩ := g
  refine ⟨ρ, h, σ, r, wf, e, ?_⟩
  unfold sTryAs at g
  cases q : mb σ h with
  | none => rw [q] at g; exact g
  | some p =>
    obtain ⟨f, h1⟩ := p
    rw [q] at g
    cases f with
    | nx σ1 => exact g
    | bk σ1 => exact g
    | ct σ1 => exact g
    | rt w => exact g
    | xc x σ1 =>
      simp only [] at g
      split at g
      · rename_i hx
        exact fun ρ2 H2 l r2 wf2 => ⟨ρ2, h1, σ1, x, r2, wf2, rfl, rfl, rfl, hx.1, hx.2, g.pre l⟩
      · exact g.elim
section
variable {X : Cx} {Wx : WX} {n : Str} {i : Nat} {body suite : List Stmt} {b₀ : Stmt} {pos pos' : Pos} {test : Expr} {cs : List Value} {oks : List Str} {mb ms : MSx}
theorem ms_try_as (hs : X.stack = X.env :: X.outer) (hf : X.env.frame = some X.env.locals) (hN : X.N.Nodup) (hi : X.N[i]? = some n) (hln : X.env.kindOf n = some .local) (T : Tst X test cs) (hok : ∀ C ∈ oks, PySem.W.exmAny X.K (.ref (He.ga X.K C)) cs = some true)
    (hb : ∀ (W : WX) (pn : List (Addr × Obj)) (xe : Value → Shared → Prop), Takes (X.tr pn xe) W → PassesOwn (model X.prog X.w) X.A X.env xe → MSs (X.tr pn xe) W body mb)
    (hsu : ∀ (a : Addr) (pn : List (Addr × Obj)), MSs (X.suite a pn) W0 (b₀ :: suite) ms) :
    MS X Wx (.Try body [.ExceptHandler (some test) (some n) (b₀ :: suite) pos'] [] [] pos) (sTryAs oks i mb ms) := by
  refine ⟨fun pins s σ H D I h => ?_⟩
  have ok := I.ok
  have hfr : X.A.frames = some (X.env :: X.outer) := by rw [ok.frames, hs]
  have hloc : Loc X.env.scope n := .inl hln
  refine wpAny_Try_except ?_
  refine wpAny_mono ((hb (wTry X.K Wx oks i ms D) (X.pn ++ pins) (fun e s₁ => wpAny (model X.prog X.w) X.A (noteFrame e X.env) (fun _ s₂ => wpAny (model X.prog X.w) X.A (setFlight e none) (fun _ s₃ =>
    wpAny (model X.prog X.w) X.A (handleBy e X.env [.ExceptHandler (some test) (some n) (b₀ :: suite) pos']) (SP X pins D) X.xe s₃) X.xe s₂) X.xe s₁) (fun u s' xx => ?_) PassesOwn.looking).run [] s σ H D (I.toTry _) (lS_try h)) (fun f s1 hsp => ?_) (fun e s1 he => he)
  · -- the catch
    obtain ⟨a, B, sI, pins', σ', H', cls, d, rfl, J', nb, up, sky, na, os, ag, ρ1, h1, σ1, x, r1, wf1, rfl, rfl, rfl, hx, hd, g⟩ := xx
    have J : Inv X pins (cS X.K ρ1 σ1) H' sI := J'.ofTry ok
    have sky' : Sky B (X.env :: X.outer) a (Zc (.ref (He.ga X.K x.cls)) (x.d.map fun i => ρ1.getD i 0)) X.env.locals s'.heap := by rw [← hs]; exact sky
    show wpAny (model X.prog X.w) X.A (noteFrame (.ref a) X.env) _ _ _
    refine Sky.land Zc.steady hfr hf sky' fun h3 fl3 up3 => ?_
    have J3 : Inv X pins (cS X.K ρ1 σ1) H' { s' with heap := h3 } := J.landed nb fl3.1 (up.trans up3) os ag
    obtain ⟨oe3, vs3, he3, hz3, hd3⟩ := fl3.there
    have nfr : a ∉ frs (X.env :: X.outer) := fun hm => by
      obtain ⟨_, o', e', hnf⟩ := fl3.2.2.1.mem hm
      rw [he3] at e'; cases e'
      exact hnf _ hd3
    have S3 : Inv (X.suite a (X.pn ++ pins)) [] _ _ _ := suite0 J3
    refine wpAny_handleBy_cons (codeAny_handlers_test ?_) (by intro q; cases q)
    have go : ∀ h5, HandSPX.FlyingZ B (X.env :: X.outer) a (Zc (.ref (He.ga X.K x.cls)) (x.d.map fun i => ρ1.getD i 0)) h5 → s'.heap.UpToSlots h5 →
        codeAny (model X.prog X.w) (X.A.mark (some (.ref a))) (.handlers (.ref a) [.ExceptHandler none (some n) (b₀ :: suite) pos'] X.env) (fun r s₂ => match r with
          | .ok f => wpAny (model X.prog X.w) X.A (do bindName X.env n .none; unbindBehindTheSuite X.env n pos') (fun _ s₃ => SP X pins D f s₃) X.xe s₂
          | .error x => cameBackBy (model X.prog X.w) X.A X.env X.xe x s₂) { s' with heap := h5 } := by
      intro h5 fl5 up5
      refine codeAny_handlers_suite_as ?_
      refine HandSPX.lands_againZ fl5 fun h4 fl4 up4 => ?_
      obtain ⟨oe4, vs4, he4, hz4, hd4⟩ := fl4.there
      have J4 : Inv X pins (cS X.K ρ1 σ1) (upd H' a (exq a (He.ga X.K x.cls) (x.d.map fun i => ρ1.getD i 0))) { s' with heap := h4 } :=
        adopt (s' := { s' with heap := h4 }) J nb fl4.1 ((up.trans up5).trans up4) os ag na fl4.2.1 (by rw [hs]; exact nfr) (exq_ok he4 hz4 hd4)
      have S4 : Inv (X.suite a (X.pn ++ pins)) [] _ _ _ := suite0 J4
      refine store_ok (X := X.suite a (X.pn ++ pins)) (v := .ref a) S4 hN hi hloc rfl (fun s5 S5 => ?_) (.inr hln)
      have wfd : ∀ j, x.d = some j → j < h1.length := fun j e => by
        unfold dOk at hd
        rw [e] at hd
        exact of_decide_eq_true hd
      have r2 := Rep.allocX (p := a) (C := x.cls) (d := x.d) r1 na wfd
      have ls : lS X.K W0 ms (endsAs i D) ((cS X.K ρ1 σ1).set i (some (.ref a))) (upd H' a (exq a (He.ga X.K x.cls) (x.d.map fun i => ρ1.getD i 0))) := by
        refine ⟨ρ1 ++ [a], h1 ++ [.exc x.cls x.d], σ1.set i (some (.ref h1.length)), r2, ?_, ?_, (g.tryEnd).pre ⟨_, rfl⟩⟩
        · refine WfS.setN (wf1.mono (by simp)) fun w e => ?_
          cases e
          show h1.length < _
          simp
        · rw [cS_setN]
          have e1 : cS X.K (ρ1 ++ [a]) σ1 = cS X.K ρ1 σ1 := cS_pre ⟨_, rfl⟩ (by rw [r1.len]; exact wf1)
          rw [e1]
          show _ = (cS X.K ρ1 σ1).set i (some (.ref ((ρ1 ++ [a]).getD h1.length 0)))
          rw [← r1.len, getD_last]
      refine wpAny_mono ((hsu a (X.pn ++ pins)).run [] s5 _ _ _ S5 ls) (fun f s6 hsp => ?_) (fun _ _ z => False.elim z)
      have end_ : ∀ {σ6 : L2.St} {H6 : Hp} {Q : Shared → Prop}, Inv (X.suite a (X.pn ++ pins)) [] σ6 H6 s6 → (∀ s7, Inv X pins (σ6.set i none) H6 s7 → Q s7) →
          wpAny (model X.prog X.w) X.A (do bindName X.env n .none; unbindBehindTheSuite X.env n pos') (fun _ s7 => Q s7) X.xe s6 := fun {σ6 H6 Q} S6 hq => gone_ok (unsuite0 S6 ok) hN hi hln hq
      cases f with
      | next =>
        obtain ⟨σ6, H6, S6, q6⟩ := hsp
        exact end_ S6 fun s7 J7 => ⟨_, _, J7, q6⟩
      | brk =>
        obtain ⟨σ6, H6, S6, q6⟩ := hsp
        exact end_ S6 fun s7 J7 => ⟨_, _, J7, q6⟩
      | cont =>
        obtain ⟨σ6, H6, S6, q6⟩ := hsp
        exact end_ S6 fun s7 J7 => ⟨_, _, J7, q6⟩
      | ret u =>
        obtain ⟨v6, σ6, H6, S6, r6, q6⟩ := hsp
        exact end_ S6 fun s7 J7 => ⟨_, _, _, J7, r6, q6⟩
    exact tst_run (s := { s' with heap := h3 }) T S3 he3 hz3.1 (hok _ hx) (go h3 fl3 up3) fun o => go _ (fly_push fl3) (up3.trans (Heap.UpToSlots.of_keeps fun b o e => Heap.get?_push_of_some _ e))
  · cases f with
    | next =>
      obtain ⟨σ', H', J', q⟩ := hsp
      exact wpAny_execs_nil ⟨σ', H', J'.ofTry ok, q⟩
    | brk =>
      obtain ⟨σ', H', J', q⟩ := hsp
      exact ⟨σ', H', J'.ofTry ok, q⟩
    | cont =>
      obtain ⟨σ', H', J', q⟩ := hsp
      exact ⟨σ', H', J'.ofTry ok, q⟩
    | ret u =>
      obtain ⟨v, σ', H', J', r, q⟩ := hsp
      exact ⟨v, σ', H', J'.ofTry ok, r, q⟩
end
end Mc

/-! own exception classes over ValueError, LookupError, ArithmeticError -/
namespace Mc
open PySem PySem.Spec PyProof.Rows L2 PySem.Builtin PySem.Builtin.ObjectAttr

def refsT (tl : List Value) : List Value → Bool
  | .ref _ :: r => refsT tl r
  | l => l == tl
abbrev tlV : List Value := [.type "ValueError", .type "Exception", .type "BaseException", .type "object"]
abbrev tlL : List Value := [.type "LookupError", .type "Exception", .type "BaseException", .type "object"]
abbrev tlA : List Value := [.type "ArithmeticError", .type "Exception", .type "BaseException", .type "object"]
/-- what the builtin base's mro does -/
structure TlOk (tl : List Value) (newId : String) : Prop where
  pass : ∀ self : Value, refuseLoop self "__setattr__" tl = pure ()
  ob : tl.contains (.type "object") = true
  ne : tl ≠ []
  fac : ∃ B initId, ExcBaseFacts B newId initId tl
theorem tlV_ok : TlOk tlV "ValueError.__new__" := ⟨fun self => F.store_ValueError.passes self, by decide +kernel, by simp, _, _, F.excBase_ValueError⟩
theorem tlL_ok : TlOk tlL "LookupError.__new__" := ⟨fun self => F.store_LookupError.passes self, by decide +kernel, by simp, _, _, F.excBase_LookupError⟩
theorem tlA_ok : TlOk tlA "ArithmeticError.__new__" := ⟨fun self => F.store_ArithmeticError.passes self, by decide +kernel, by simp, _, _, F.excBase_ArithmeticError⟩
section
variable {tl : List Value} {newId : String}
theorem refsT_cases : ∀ l : List Value, refsT tl l = true → (∃ c r, l = .ref c :: r ∧ refsT tl r = true) ∨ l = tl
  | [], e => .inr (beq_iff_eq.mp e)
  | .ref c :: r, e => .inl ⟨c, r, rfl, e⟩
  | .none :: _, e => .inr (beq_iff_eq.mp e)
  | .ellipsis :: _, e => .inr (beq_iff_eq.mp e)
  | .notImplemented :: _, e => .inr (beq_iff_eq.mp e)
  | .bool _ :: _, e => .inr (beq_iff_eq.mp e)
  | .int _ _ :: _, e => .inr (beq_iff_eq.mp e)
  | .float _ _ :: _, e => .inr (beq_iff_eq.mp e)
  | .str _ _ :: _, e => .inr (beq_iff_eq.mp e)
  | .bytes _ _ :: _, e => .inr (beq_iff_eq.mp e)
  | .type _ :: _, e => .inr (beq_iff_eq.mp e)
  | .builtin _ :: _, e => .inr (beq_iff_eq.mp e)
theorem refsT_nil (T : TlOk tl newId) : ¬ refsT tl [] = true := fun e => T.ne (beq_iff_eq.mp (show (([] : List Value) == tl) = true from e)).symm
theorem refsT_pass (T : TlOk tl newId) (self : Value) : ∀ l : List Value, refsT tl l = true → refuseLoop self "__setattr__" l = pure () := by
  intro l
  induction l with
  | nil => intro e; exact absurd e (refsT_nil T)
  | cons a r ih =>
    intro e
    rcases refsT_cases (a :: r) e with ⟨c, r', q, h⟩ | q
    · obtain ⟨rfl, rfl⟩ := List.cons.inj q
      rw [refuseLoop_ref]; exact ih h
    · rw [q]; exact T.pass self
theorem refsT_contains (T : TlOk tl newId) (X : String) : ∀ l : List Value, refsT tl l = true → l.contains (.type X) = tl.contains (.type X) := by
  intro l
  induction l with
  | nil => intro e; exact absurd e (refsT_nil T)
  | cons a r ih =>
    intro e
    rcases refsT_cases (a :: r) e with ⟨c, r', q, h⟩ | q
    · obtain ⟨rfl, rfl⟩ := List.cons.inj q
      rw [List.contains_cons, ih h]; rfl
    · rw [q]
theorem refsT_ne (T : TlOk tl newId) {l : List Value} (e : refsT tl l = true) : l.isEmpty = false := by
  cases l with
  | nil => exact absurd e (refsT_nil T)
  | cons _ _ => rfl
end
end Mc

namespace Mc
open PySem PySem.Spec PyProof.Rows L2 PySem.Builtin PySem.Builtin.ObjectAttr
section
variable {prog : Program} {w : World} {A : Around} {E : Value → Shared → Prop} {R : Result → Shared → Prop} {hp : Heap} {g : Array GenState} {d : Drawn} {t : Nat} {os : OsState}
theorem xosa_new {tl : List Value} {newId : String} (T : TlOk tl newId) {K : PySem.W.Frag} {name : Str} {tk : Tok} {v : Value} {x C : Addr} {fv : Array Value} {cd : ClassData}
    (X : K.In hp) (hx : hp.get? x = some { cls := .ref C, data := .fields fv }) (hcd : PySem.W.clsIn K C = some cd) (hm : refsT tl cd.mro = true) (hh : cd.hasDict = true) (ha : PySem.W.findIn K (.ref C) name = some none)
    (hq : ∀ h' tk' dx, (∀ b o, b ≠ x → hp.get? b = some o → h'.get? b = some o) → hp.objs.size ≤ dx → dx ≠ x → h'.get? x = some { cls := .ref C, dict := some dx, data := .fields fv } →
      h'.Ns1 dx (fun y => if y = name then some v else none) → R (.ok (.ret .none)) ⟨h', g, d, tk', os⟩) :
    codeAny (model prog w) A (.call (.builtin "object.__setattr__") ⟨[.ref x, .str name tk, v], []⟩) R ⟨hp, g, d, t, os⟩ := by
  have I : PySem.W.InstAt hp x { cls := .ref C, data := .fields fv } C none := ⟨hx, rfl, rfl, trivial⟩
  have SF := F.store_object
  have ne := refsT_ne T hm
  have hob : cd.mro.contains (.type "object") = true := (refsT_contains T "object" _ hm).trans T.ob
  have hxs : x ≠ hp.objs.size := Nat.ne_of_lt (Heap.lt_size hx)
  have sub : PySem.W.Looks (model prog w) hp (isInstance (.ref x) (.type "object")) true := I.type.andThen (PySem.W.looks_mroIn X (by unfold PySem.W.mroIn; rw [hcd, Option.bind_some, if_neg (by rw [ne]; decide), hob]))
  refine codeAny_call_builtin SF.slot.plain SF.entry (@PySem.W.check_slot (model prog w) _ _ ⟨hp, g, d, t, os⟩ "object.__setattr__" "object" "__setattr__" (.ref x) [.str name tk, v] [] _ SF.kind SF.split sub (SF.args (.ref x) (.str name tk) v) ?_)
  have hmr : PySem.W.Looks (model prog w) hp (mroOf (.ref C)) cd.mro := (PySem.W.looks_clsIn X hcd).andThen .now
  have L3 : PySem.W.Looks (model prog w) hp (storeTaker? none) none := .now
  have hcls : PySem.W.Looks (model prog w) hp (classData C) cd := PySem.W.looks_clsIn X hcd
  rw [PySem.W.osa_eq, refuse_eq]
  refine wpAny_bind (wpAny_bind (I.type.at (wpAny_bind (hmr.at ?_))))
  rw [refsT_pass T _ _ hm]
  refine wpAny_pure (wpAny_bind (I.type.at (wpAny_bind ((PySem.W.looks_findIn X ha).at (wpAny_bind (L3.at ?_))))))
  show wpAny _ _ (storeInOwnDict (.ref x) (.ref C) (.str name tk) name v false) _ _ _
  obtain ⟨nm, bs, mro, ns, qn, hd, sn, sb, ab, col, del⟩ := cd
  dsimp only at hh
  subst hh
  unfold storeInOwnDict ownDictForStores
  repeat (first | with_reducible refine PySem.HandSPX.store_in_new ?_ ?_ | with_reducible refine wpAny_loadPart_at hx ?_ | with_reducible refine hcls.at ?_ | wp_step)
  · exact ⟨_, #[], _, (Heap.get?_update_ne _ _ _ _ hxs.symm).trans (Heap.get?_push_at rfl rfl), rfl, fun e he => absurd he (by simp), fun _ => rfl⟩
  · intro h' tk' hn' hs
    have hx₁ : (hp.push { cls := .type "dict", data := .dict #[] }).get? x = some { cls := .ref C, data := .fields fv } := Heap.get?_push_of_some _ hx
    refine hq h' tk' hp.objs.size (fun b o hb ho => ?_) (Nat.le_refl _) hxs.symm ?_ hn'
    · exact (hs.2 b (Nat.ne_of_lt (Heap.lt_size ho))).trans ((Heap.get?_update_ne _ _ _ _ hb).trans (Heap.get?_push_of_some _ ho))
    · exact (hs.2 x hxs).trans (Heap.get?_update_self _ hx₁ rfl)
theorem xosa_old {tl : List Value} {newId : String} (T : TlOk tl newId) {K : PySem.W.Frag} {name : Str} {tk : Tok} {v : Value} {x C dx : Addr} {fv : Array Value} {cd : ClassData} {m0 : Str → Option Value} {nl : List Str}
    (X : K.In hp) (hx : hp.get? x = some { cls := .ref C, dict := some dx, data := .fields fv }) (hns : hp.Ns1 dx m0) (hw : Within m0 nl) (hz : nl.length ≤ 1000) (hcd : PySem.W.clsIn K C = some cd) (hm : refsT tl cd.mro = true) (hh : cd.hasDict = true)
    (ha : PySem.W.findIn K (.ref C) name = some none)
    (hq : ∀ h' tk', (∀ b o, b ≠ dx → hp.get? b = some o → h'.get? b = some o) → h'.Ns1 dx (fun y => if y = name then some v else m0 y) → R (.ok (.ret .none)) ⟨h', g, d, tk', os⟩) :
    codeAny (model prog w) A (.call (.builtin "object.__setattr__") ⟨[.ref x, .str name tk, v], []⟩) R ⟨hp, g, d, t, os⟩ := by
  obtain ⟨oD, esD, epD, hoD, hdD, _⟩ := hns.count hw
  have I : PySem.W.InstAt hp x { cls := .ref C, dict := some dx, data := .fields fv } C (some oD) := ⟨hx, rfl, rfl, hoD⟩
  have SF := F.store_object
  have ne := refsT_ne T hm
  have hob : cd.mro.contains (.type "object") = true := (refsT_contains T "object" _ hm).trans T.ob
  have sub : PySem.W.Looks (model prog w) hp (isInstance (.ref x) (.type "object")) true := I.type.andThen (PySem.W.looks_mroIn X (by unfold PySem.W.mroIn; rw [hcd, Option.bind_some, if_neg (by rw [ne]; decide), hob]))
  refine codeAny_call_builtin SF.slot.plain SF.entry (@PySem.W.check_slot (model prog w) _ _ ⟨hp, g, d, t, os⟩ "object.__setattr__" "object" "__setattr__" (.ref x) [.str name tk, v] [] _ SF.kind SF.split sub (SF.args (.ref x) (.str name tk) v) ?_)
  have hmr : PySem.W.Looks (model prog w) hp (mroOf (.ref C)) cd.mro := (PySem.W.looks_clsIn X hcd).andThen .now
  have L3 : PySem.W.Looks (model prog w) hp (storeTaker? none) none := .now
  have hcls : PySem.W.Looks (model prog w) hp (classData C) cd := PySem.W.looks_clsIn X hcd
  rw [PySem.W.osa_eq, refuse_eq]
  refine wpAny_bind (wpAny_bind (I.type.at (wpAny_bind (hmr.at ?_))))
  rw [refsT_pass T _ _ hm]
  refine wpAny_pure (wpAny_bind (I.type.at (wpAny_bind ((PySem.W.looks_findIn X ha).at (wpAny_bind (L3.at ?_))))))
  show wpAny _ _ (storeInOwnDict (.ref x) (.ref C) (.str name tk) name v false) _ _ _
  obtain ⟨nm, bs, mro, ns, qn, hd, sn, sb, ab, col, del⟩ := cd
  dsimp only at hh
  subst hh
  unfold storeInOwnDict ownDictForStores
  repeat (first | with_reducible refine PySem.OEX.store_in_old hns hw hz ?_ | with_reducible refine wpAny_loadPart_at hx ?_ | with_reducible refine hcls.at ?_ | wp_step)
  intro h' tk' hn' hs
  exact hq h' tk' (fun b o hb ho => (hs.2 b hb).trans ho) hn'
end
/-- what the written part says of an own exception class -/
structure XcC (K : PySem.W.Frag) (C : Addr) : Prop where
  cls : ∃ tl newId nm q N bs bm sn sub ab col dd k0 k1 k2 k3 k5, TlOk tl newId ∧ K.lookup C = some (excClassObj nm q C N bs bm true sn sub ab col dd k0 k1 k2 k3 k5 newId) ∧ refsT tl bm = true
  sa : PySem.W.findIn K (.ref C) "__setattr__" = some (some (.builtin "object.__setattr__"))
  exC : PySem.W.subIn K (.ref C) (.type "BaseException") = some true
  tyC : PySem.W.typeIn K (.ref C) = some (.type "type")
  kC : PySem.W.keepIn K (.ref C) = true
section
variable {X : Cx} {pins : List (Addr × Obj)} {σ : L2.St} {H : Hp} {s : Shared} {a C dx : Addr} {f : Str} {y : V} {u : Value} {fs : List (Str × V)} {Q : Unit → Shared → Prop} {E : Value → Shared → Prop} {A : Around}
theorem xst_new (T : XcC X.K C) (I : Inv X pins σ H s) (e : H a = some (exo a C none)) (hno : PySem.W.findIn X.K (.ref C) f = some none) (ry : RelV y u)
    (h : ∀ dx s', H dx = none → dx ≠ a → Inv X pins σ (upd (upd H dx (exd dx [(f, y)])) a (exo a C (some dx))) s' → Q () s') : wpAny (model X.prog X.w) A (setAttr (.ref a) f u) Q E s := by
  obtain ⟨tl, newId, nm, q, N, bs, bm, sn, sub, ab, col, dd, k0, k1, k2, k3, k5, TL, hC, hbm⟩ := T.cls
  have hcl : PySem.W.clsIn X.K C = some { name := nm, bases := bs, mro := .ref C :: bm, ns := N, qualname := q, hasDict := true, slotNames := sn, subclasses := sub, abstract := ab, collection := col, hasDel := false } := by unfold PySem.W.clsIn; rw [hC] <;> rfl
  obtain ⟨t1, ho⟩ := exo_at I.hok e
  obtain ⟨hp, g, d, t, os⟩ := s
  refine PySem.W.set_plain I.kIn (ox := { cls := .ref C, dict := none, data := .fields #[.ref t1, .none, .none, .none, .bool false, .none] }) (od := none) ⟨ho, rfl, rfl, trivial⟩ T.sa ?_
  refine xosa_new TL I.kIn ho hcl (show refsT tl (.ref C :: bm) = true from hbm) rfl hno (fun h' tk' dx k dn dne hx hn => ?_)
  have hnd : H dx = none := I.hok.fresh dn
  have nd : ∀ {b : Addr} {o : Obj}, hp.get? b = some o → b ≠ dx := fun {b o} q => Nat.ne_of_lt (Nat.lt_of_lt_of_le (Heap.lt_size q) dn)
  have na : ∀ {b : Addr}, H b = none → b ≠ a := fun {b} n z => by
    rw [z, e] at n
    cases n
  have Un1 : Un X.fs [] H (upd (upd H dx (exd dx [(f, y)])) a (exo a C (some dx))) hp h' := {
    keep := fun b o q n _ _ => k b o (na n) q
    slot := fun b o q n _ _ => ⟨o.slots, k b o (na n) q⟩
    free := fun b o q n _ => by rw [upd_ne (na n), upd_ne (nd q)]; exact n
    there := fun b o q _ => by
      by_cases hb : b = a
      · exact ⟨_, by rw [hb]; exact hx⟩
      · exact ⟨o, k b o hb q⟩
    tups := fun b xs q => by rw [upd_ne (at_ne e q exo_tup), upd_ne (ne_of_none q hnd)]; exact q
    frzs := fun b o v q => by rw [upd_ne (at_ne e q exo_frz), upd_ne (ne_of_none q hnd)]; exact q
    tbls := fun b ps q => ⟨#[], by rw [upd_ne (at_ne e q exo_tbl), upd_ne (ne_of_none q hnd), q]; simp⟩ }
  refine h dx _ hnd dne (I.un (t' := tk') Un1 fun b o q => ?_)
  by_cases hb : b = a
  · subst hb
    rw [upd_same] at q
    cases q
    exact exo_ok hx
  · rw [upd_ne hb] at q
    by_cases hd : b = dx
    · subst hd
      rw [upd_same] at q
      cases q
      exact exd_ok hn (relO_put (fs := []) ry fun g => True.intro)
    · rw [upd_ne hd] at q
      exact (I.hok b o q).stay (fun c v hc z => k c v (by
          rcases hc with hc | hc
          · rw [hc]
            exact hb
          · exact at_ne e hc exo_own) z)
        (fun c hc => by rw [upd_ne (at_ne e hc exo_own), upd_ne (ne_of_none hc hnd)]; exact hc) (fun c xs hc => by rw [upd_ne (at_ne e hc exo_tup), upd_ne (ne_of_none hc hnd)]; exact hc)
theorem xst_old (T : XcC X.K C) (I : Inv X pins σ H s) (e : H a = some (exo a C (some dx))) (ed : H dx = some (exd dx fs)) (hl : fs.length ≤ 900) (hno : PySem.W.findIn X.K (.ref C) f = some none) (ry : RelV y u)
    (h : ∀ s', Inv X pins σ (upd H dx (exd dx ((f, y) :: fs))) s' → Q () s') : wpAny (model X.prog X.w) A (setAttr (.ref a) f u) Q E s := by
  obtain ⟨tl, newId, nm, q, N, bs, bm, sn, sub, ab, col, dd, k0, k1, k2, k3, k5, TL, hC, hbm⟩ := T.cls
  have hcl : PySem.W.clsIn X.K C = some { name := nm, bases := bs, mro := .ref C :: bm, ns := N, qualname := q, hasDict := true, slotNames := sn, subclasses := sub, abstract := ab, collection := col, hasDel := false } := by unfold PySem.W.clsIn; rw [hC] <;> rfl
  obtain ⟨t1, ho⟩ := exo_at I.hok e
  obtain ⟨mA, hns, rel⟩ := exd_at I.hok ed
  have hw := within_of rel
  obtain ⟨hp, g, d, t, os⟩ := s
  obtain ⟨oD, _, _, hoD, _, _⟩ := hns.count hw
  refine PySem.W.set_plain I.kIn (ox := { cls := .ref C, dict := some dx, data := .fields #[.ref t1, .none, .none, .none, .bool false, .none] }) (od := some oD) ⟨ho, rfl, rfl, hoD⟩ T.sa ?_
  refine xosa_old TL I.kIn ho hns hw (by rw [List.length_map]; omega) hcl (show refsT tl (.ref C :: bm) = true from hbm) rfl hno (fun h' tk' k hn => ?_)
  have hd : ∃ o, h'.get? dx = some o := by
    obtain ⟨o, _, _, e', _⟩ := hn
    exact ⟨o, e'⟩
  exact h _ (I.write (t' := tk') (x := dx) (e := dx) (o := exd dx ((f, y) :: fs)) (by rw [ed]; exact True.intro) (.inl rfl) k hd (exd_ok hn (relO_put ry rel)))
end
end Mc

/-! raise C(e, ..) of an own exception class with `self.f = f` -/
namespace Mc
open PySem PySem.Spec PyProof.Rows L2
abbrev CX0 : CXT := fun _ _ _ _ _ _ => False
def tXst (K : PySem.W.Frag) (f : Str) (to te : TE) : TS := fun D σ H => te σ H fun y H1 => to σ H1 fun x H2 => ∃ a C : Addr, x = .ref a ∧ XcC K C ∧ PySem.W.findIn K (.ref C) f = some none ∧
  ((H2 a = some (exo a C none) ∧ ∀ dx, H2 dx = none → dx ≠ a → D.nx σ (upd (upd H2 dx (exd dx [(f, y)])) a (exo a C (some dx)))) ∨
    ∃ (dx : Addr) (fs : List (Str × V)), H2 a = some (exo a C (some dx)) ∧ H2 dx = some (exd dx fs) ∧ fs.length ≤ 900 ∧ D.nx σ (upd H2 dx (exd dx ((f, y) :: fs))))
section
variable {X : Cx} {o e : Expr} {es : List Expr} {to te : TE} {ta : TA} {f : Str} {p p' p1 p2 pos : Pos}
theorem xps_ost (ho : PE X o to) (he : PE X e te) (hs : swapsWith e (some (.Attribute o f p')) pos.line X.env = pure false := by rfl) : PS X (.Assign [.Attribute o f p'] e pos) (tXst X.K f to te) := by
  refine ⟨fun pins s σ H D I h => ?_⟩
  refine plainObj_wpAny_Assign_Attribute (thn (he.run pins s σ H _ I h) fun v s1 ⟨y, H1, I1, r1, q1⟩ => thn (ho.run pins s1 σ H1 _ I1 q1) fun u s2 ⟨x, H2, I2, r2, a, C, ex, T, hno, q⟩ => ?_) hs
  subst ex
  obtain rfl : u = Value.ref a := r2
  rcases q with ⟨ea, q⟩ | ⟨dx, fs, ea, ed, hl, q⟩
  · exact xst_new T I2 ea hno r1 fun dx s' n ne J => ⟨σ, _, J, q dx n ne⟩
  · exact xst_old T I2 ea ed hl hno r1 fun s' J => ⟨σ, _, J, q⟩
def tMkX (C : Addr) (sp : Sp) (ta : TA) : L2.St → Hp → XK → Prop := fun σ H Q => ta σ H fun vs H1 => vs.length ≤ 1000 ∧ ∀ a, H1 a = none → sp (.ref a :: vs) (upd H1 a (exo a C none))
  (fun v H2 => v = .non ∧ ∃ (d : Addr) (fs : List (Str × V)), H2 a = some (exo a C (some d)) ∧ H2 d = some (exd d fs) ∧ H1 d = none ∧ Q (.ref C) (some d) (upd (del H2 a) d (.xd fs))) (fun _ _ _ => False)
theorem xpmk {x : Str} {C fI : Addr} {k : Nat} {fd : FuncData} {ps : List Str} {sp : Sp} (T : XcC X.K C) (iC : PySem.W.findIn X.K (.ref C) "__init__" = some (some (.ref fI))) (tI : PySem.W.typeIn X.K (.ref fI) = some (.type "function"))
    (F1 : FnOk X.prog X.w X.K X.mg X.base CX0 k fI fd ps sp) (hr : Room (k + 1) X.A) (hb : Binds X.K fd ps []) (hg : Gl X x) (hm : X.mg x = some (.ref C)) (ha : PA X (e :: es) ta)
    (hdb : (x == ("__debug__" : Str)) = false := by decide) (he : starEach (e :: es) X.env = (false, eval e X.env) :: starEach es X.env := by rfl) (hpl : (backTo pos (starEach es X.env)).any (·.1) = false := by rfl) :
    PMk X (.Call (.Name x p) (e :: es) [] pos) (tMkX C sp ta) := by
  intro pins s σ H Q I h
  obtain ⟨tl, newId, nm, q, N, bs, bm, sn, sub, ab, col, dd, k0, k1, k2, k3, k5, TL, hC, hbm⟩ := T.cls
  obtain ⟨BB, initId, BF⟩ := TL.fac
  refine wpAny_Call_Name_kw (ld_glob I hg hm ?_ hdb)
  refine PySem.W.callWith_K (h₀ := X.base) I.ok.mod.kin T.kC (thn (ha.run pos pins s σ H _ I h) fun us s1 ⟨vs, H1, I1, r1, hz, q1⟩ => ⟨I1.kIn, ?_⟩) he hpl
  show wpAny _ _ (call (.ref C) us) _ _ _
  obtain ⟨hp, g, dr, tk, os⟩ := s1
  have hsz : hp.objs.size ≤ hp.objs.size + 1 := Nat.le_succ _
  have hn : H1 (hp.objs.size + 1) = none := I1.hok.fresh hsz
  have hq := q1 (hp.objs.size + 1) hn
  have kk : ∀ b o, hp.get? b = some o → ((hp.push (PySem.W.kdv_tup us)).push (PySem.HandSPX.excO C hp.objs.size)).get? b = some o := fun b o e => Heap.get?_push_of_some _ (Heap.get?_push_of_some _ e)
  have hget : ((hp.push (PySem.W.kdv_tup us)).push (PySem.HandSPX.excO C hp.objs.size)).get? (hp.objs.size + 1) = some (PySem.HandSPX.excO C hp.objs.size) := by heap_get
  have I2 : Inv X pins σ (upd H1 (hp.objs.size + 1) (exo (hp.objs.size + 1) C none)) ⟨(hp.push (PySem.W.kdv_tup us)).push (PySem.HandSPX.excO C hp.objs.size), g, dr, tk, os⟩ :=
    I1.laid (t' := tk) (a := hp.objs.size + 1) (o := exo (hp.objs.size + 1) C none) (h' := (hp.push (PySem.W.kdv_tup us)).push (PySem.HandSPX.excO C hp.objs.size)) kk hsz (exo_ok hget)
  have r2 : Vals (V.ref (hp.objs.size + 1) :: vs) (Value.ref (hp.objs.size + 1) :: us) := .cons rfl r1
  have hl : (Value.ref (hp.objs.size + 1) :: us ++ []).length = ps.length := by
    have e := r2.length
    rw [F1.len _ _ _ _ hq] at e
    rw [List.append_nil]
    exact e.symm
  have hbb := fun s' (k : X.K.In s'.heap) => hb s' (Value.ref (hp.objs.size + 1) :: us) k hl
  rw [List.append_nil] at hbb
  have hus : us.length ≤ sizeLine := by
    rw [← Paired.length r1, sizeLine_eq]
    omega
  refine wpAny_call (PySem.HandSPX.call_own BF (fun Y => refsT_contains TL Y bm hbm) (I1.kIn _ _ hC) (PySem.W.looks_findIn I1.kIn iC) (fun self => PySem.W.bind_fn I1.kIn self tI) hus
    (codeAny_mono (F1.run _ X.stack _ _ ⟨Value.ref (hp.objs.size + 1) :: us, []⟩ (Value.ref (hp.objs.size + 1) :: us) _ _ (fun _ _ _ => False) (hr.make C us []) (I2.env0.make C us []) (hbb _ I2.kIn) r2 hq) fun r s' hq' => ?_))
  cases r with
  | error er => exact False.elim hq'
  | ok fl =>
    cases fl with
    | ret u =>
      obtain ⟨v, H2, os2, bare2, un2, hok2, rv, ev, d, fs, ea, ed, hd1, q2⟩ := hq'
      subst ev
      obtain ⟨h2, g2, d2, t2, os'⟩ := s'
      exact ⟨rv, mk_end (raises_own T.exC T.tyC) I1 hsz kk un2 hok2 os2 bare2 ea ed hd1 q2⟩
    | next => exact False.elim hq'
    | brk => exact False.elim hq'
    | cont => exact False.elim hq'
end
/-! ### __init__ -/
/-- what an __init__ of fields fs promises -/
def spI (K : PySem.W.Frag) (fs : List Str) : Sp := fun vs H Q _ => ∃ (a C : Addr) (ys : List V), vs = .ref a :: ys ∧ ys.length = fs.length ∧ XcC K C ∧ (∀ f ∈ fs, PySem.W.findIn K (.ref C) f = some none) ∧ H a = some (exo a C none) ∧
  ∀ dx H2, H dx = none → dx ≠ a → H2 a = some (exo a C (some dx)) → H2 dx = some (exd dx (fs.zip ys).reverse) → (∀ b, b ≠ a → b ≠ dx → H2 b = H b) → Q .non H2
section
variable {P : Program} {w : World} {K : PySem.W.Frag} {mg : Mg} {base : Heap} {x qual : Str} {params : Arguments} {scope : Scope} {dvs : List V} {kws : List (Str × V)} {fA : Addr} {fd : FuncData} {f g : Str} {p1 p2 p3 p4 q1 q2 q3 q4 : Pos}
theorem init1 (F : FunD K x qual params [.Assign [.Attribute (.Name "self" p1) f p2] (.Name f p3) p4] scope dvs kws fA fd) (S : FnScope ["self", f] ["self", f] scope) (v0 : Vis scope "self") (v1 : Vis scope f)
    (hd : (f == ("__debug__" : Str)) = false := by decide) (hcd : (f == ("__classdict__" : Str)) = false := by decide) : FnOk P w K mg base CX0 1 fA fd ["self", f] (spI K [f]) := by
  refine FunD.ok (k := 0) F S (fun vs H Q E ⟨a, C, ys, e, l, _⟩ => by rw [e, List.length_cons, l] <;> rfl) fun cdv A outer s H vs Q E hr hs => ?_
  obtain ⟨a, C, ys, rfl, hl, T, hno, ea, q⟩ := hs
  match ys, hl with
  | [y], _ =>
    refine ⟨_, pss_one (xps_ost (to := tVar 0) (te := tVar 1) (pe_var rfl v0) (pe_var rfl v1 hd hcd)), ?_⟩
    refine ⟨y, rfl, .ref a, rfl, a, C, rfl, T, hno f (List.mem_cons_self ..), .inl ⟨ea, fun dx n ne => ?_⟩⟩
    exact q dx _ n ne upd_same (by rw [upd_ne ne, upd_same] <;> rfl) fun b hb hd => by rw [upd_ne hb, upd_ne hd]
theorem init2 (F : FunD K x qual params [.Assign [.Attribute (.Name "self" p1) f p2] (.Name f p3) p4, .Assign [.Attribute (.Name "self" q1) g q2] (.Name g q3) q4] scope dvs kws fA fd) (S : FnScope ["self", f, g] ["self", f, g] scope) (v0 : Vis scope "self") (v1 : Vis scope f) (v2 : Vis scope g)
    (hd : (f == ("__debug__" : Str)) = false := by decide) (hcd : (f == ("__classdict__" : Str)) = false := by decide) (hd2 : (g == ("__debug__" : Str)) = false := by decide) (hcd2 : (g == ("__classdict__" : Str)) = false := by decide) : FnOk P w K mg base CX0 1 fA fd ["self", f, g] (spI K [f, g]) := by
  refine FunD.ok (k := 0) F S (fun vs H Q E ⟨a, C, ys, e, l, _⟩ => by rw [e, List.length_cons, l] <;> rfl) fun cdv A outer s H vs Q E hr hs => ?_
  obtain ⟨a, C, ys, rfl, hl, T, hno, ea, q⟩ := hs
  match ys, hl with
  | [y, z], _ =>
    refine ⟨_, pss_cons (xps_ost (to := tVar 0) (te := tVar 1) (pe_var rfl v0) (pe_var rfl v1 hd hcd)) (pss_one (xps_ost (to := tVar 0) (te := tVar 2) (pe_var rfl v0) (pe_var rfl v2 hd2 hcd2))), ?_⟩
    refine ⟨y, rfl, .ref a, rfl, a, C, rfl, T, hno f (List.mem_cons_self ..), .inl ⟨ea, fun dx n ne => ?_⟩⟩
    refine ⟨z, rfl, .ref a, rfl, a, C, rfl, T, hno g (List.mem_cons_of_mem _ (List.mem_cons_self ..)), .inr ⟨dx, [(f, y)], upd_same, by rw [upd_ne ne, upd_same], by simp, ?_⟩⟩
    exact q dx _ n ne (by rw [upd_ne (Ne.symm ne), upd_same]) (by rw [upd_same] <;> rfl) fun b hb hd => by rw [upd_ne hd, upd_ne hb, upd_ne hd]
end
/-! ### the machine's raise -/
def sRaise (C : Str) (fs : List Str) (ma : MAx) : MSx := fun σ h => (ma σ h).stm σ fun ws h1 => if ws.length = fs.length then some (.xc ⟨C, some h1.length⟩ σ, h1 ++ [.xd (fs.zip ws).reverse]) else none
theorem zip_rev_map {α β : Type} (g : α → β) : ∀ (fs : List Str) (ws : List α), (fs.zip (ws.map g)).reverse = (fs.zip ws).reverse.map fun p => (p.1, g p.2) := fun fs ws => by
  rw [List.map_reverse, List.zip_map_right] <;> rfl
section
variable {X : Cx} {Wx : WX} {C : Str} {fs : List Str} {ma : MAx} {e : Expr} {es : List Expr} {p pos pos' : Pos} {fI : Addr} {fd : FuncData} {ps : List Str} {k : Nat}
theorem ms_raise (hc : X.calm = true) (tk : Takes X Wx) (T : XcC X.K (He.ga X.K C)) (hno : ∀ f ∈ fs, PySem.W.findIn X.K (.ref (He.ga X.K C)) f = some none) (iC : PySem.W.findIn X.K (.ref (He.ga X.K C)) "__init__" = some (some (.ref fI))) (tI : PySem.W.typeIn X.K (.ref fI) = some (.type "function"))
    (F1 : FnOk X.prog X.w X.K X.mg X.base CX0 k fI fd ps (spI X.K fs)) (hr : Room (k + 1) X.A) (hb : Binds X.K fd ps []) (hg : Gl X C) (hm : X.mg C = some (.ref (He.ga X.K C))) (hlf : fs.length ≤ 1000) (ha : MA X Wx (e :: es) ma)
    (hdb : (C == ("__debug__" : Str)) = false := by decide) (he : starEach (e :: es) X.env = (false, eval e X.env) :: starEach es X.env := by rfl) (hpl : (backTo pos (starEach es X.env)).any (·.1) = false := by rfl) :
    MS X Wx (.Raise (some (.Call (.Name C p) (e :: es) [] pos)) none pos') (sRaise C fs ma) := by
  refine psI (ps_raise hc tk (xpmk T iC tI F1 hr hb hg hm ha hdb he hpl)) fun D σV H g => ?_
  obtain ⟨ρ, h, σ, rp, wf, rfl, g⟩ := g
  have wf' : WfS ρ.length σ := by rw [rp.len]; exact wf
  refine ⟨ρ, h, σ, rp, wf, rfl, (GdS.stm (wf := WfL) rp wf' g (Nat.le_refl _)).imp fun ρ1 h1 ws H1 l1 r1 w1 g1 => ?_⟩
  split at g1
  · rename_i hl
    refine ⟨by rw [List.length_map, hl]; exact hlf, fun a na => ?_⟩
    refine ⟨a, _, cL X.K ρ1 ws, rfl, by rw [List.length_map, hl], T, hno, upd_same, fun dx H2 nd ne ea ed hoth => ⟨rfl, dx, _, ea, ed, ?_, ?_⟩⟩
    · rw [upd_ne ne] at nd; exact nd
    · rw [upd_ne ne] at nd
      have wfx : WfO h1.length (.xd (fs.zip ws).reverse) := fun q hq => w1 _ (List.of_mem_zip (a := q.1) (b := q.2) (List.mem_reverse.mp hq)).2
      have r2 := Rep.alloc (p := dx) (o := .xd (fs.zip ws).reverse) r1 nd rfl wfx
      have eH : upd (del H2 a) dx (.xd (fs.zip (cL X.K ρ1 ws)).reverse) = upd H1 dx (cO X.K ρ1 (.xd (fs.zip ws).reverse)) := by
        funext b
        by_cases hb : b = dx
        · subst hb
          rw [upd_same, upd_same]
          show some (HO.xd _) = some (HO.xd _)
          rw [zip_rev_map]
        · rw [upd_ne hb, upd_ne hb]
          by_cases ha : b = a
          · subst ha; rw [del_same, na]
          · rw [del_ne ha, hoth b ha hb, upd_ne ha]
      rw [eH]
      have wf1 : WfS ρ1.length σ := wf'.mono l1.length_le
      have := g1 (ρ1 ++ [dx]) _ ⟨_, rfl⟩ r2 ((wf1.mono (Nat.le_of_eq r1.len)).mono (by simp))
      rw [cS_pre ⟨_, rfl⟩ wf1, cS_pre l1 wf'] at this
      have e3 : (Option.map (fun i => (ρ1 ++ [dx]).getD i 0) (some h1.length)) = some dx := by
        show some ((ρ1 ++ [dx]).getD h1.length 0) = _
        rw [← r1.len, getD_last]
      rw [e3] at this
      exact this
  · exact g1.elim
end
end Mc

/-! a caught exception: its fields, its class; list.count -/
namespace Mc
open PySem PySem.Spec PyProof.Rows L2
/-! ### e.f -/
def tXq (K : PySem.W.Frag) (cs : List Addr) (f : Str) (te : TE) : TE := fun σ H Q => te σ H fun x H1 => ∃ (a C dd : Addr) (fs : List (Str × V)) (v : V), x = .ref a ∧ C ∈ cs ∧ H1 a = some (exq a C (some dd)) ∧ H1 dd = some (.xd fs) ∧ fs.lookup f = some v ∧ Q v H1
theorem pe_xq {X : Cx} {e : Expr} {te : TE} {pos : Pos} {n : Str} {cs : List Addr} (T : ∀ C ∈ cs, XfC X.K C ∧ PySem.W.findIn X.K (.ref C) n = some none) (he : PE X e te) (hb : attributeBase e n X.env (eval e X.env) = eval e X.env := by rfl) :
    PE X (.Attribute e n pos) (tXq X.K cs n te) := by
  refine ⟨fun pins s σ H Q I h => ?_⟩
  refine attr_of hb (thn (he.run pins s σ H _ I h) fun u s1 hh => ?_)
  obtain ⟨x, H1, I1, rx, a, C, dd, fs, v, ex, hc, ea, ed, l, q⟩ := hh
  subst ex
  obtain rfl : u = Value.ref a := rx
  obtain ⟨T1, T2⟩ := T C hc
  obtain ⟨oe, vs, ha, hz, hd⟩ := exq_at I1.hok ea
  have hx : ObjOk X.prog X.w H1 s1.heap dd (.xd fs) := I1.hok dd _ ed
  obtain ⟨mA, hns, hr⟩ := hx
  obtain ⟨od, ho, hl⟩ := lookIn_ns hns
  obtain ⟨u, hu, ru⟩ := RelO.some_of (v := v) (o := mA n) (by rw [← l]; exact hr n)
  have J : PySem.W.InstAt s1.heap a oe C (some od) := ⟨ha, hz.1, by unfold PySem.W.notCls; rw [hd] <;> rfl, by rw [hz.2]; exact ho⟩
  exact HandSPX.exc_get I1.kIn J T1.ga T1.gg T1.exC (PySem.W.findObj_own T1.hdC T2 rfl (by rw [hl, hu])) (handed_of ru) ⟨v, H1, I1.tok _, ru, q⟩
def excAt (h : Mh) : W → Option (Str × List (Str × W))
  | .ref i => match h[i]? with
    | some (.exc C (some d)) => (match h[d]? with
      | some (.xd fs) => some (C, fs)
      | _ => none)
    | _ => none
  | _ => none
theorem excAt_ok {K : Frag} {ρ : List Addr} {h : Mh} {H : Hp} {w : W} {C : Str} {fs : List (Str × W)} (rp : Rep K ρ h H) (e : excAt h w = some (C, fs)) : ∃ (a dd : Addr), cV K ρ w = .ref a ∧ H a = some (exq a (He.ga K C) (some dd)) ∧ H dd = some (.xd (fs.map fun p => (p.1, cV K ρ p.2))) ∧ ∀ p ∈ fs, wfV h.length p.2 := by
  cases w with
  | ref i =>
    have e : (match h[i]? with
      | some (.exc C (some d)) => (match h[d]? with
        | some (.xd fs) => some (C, fs)
        | _ => none)
      | _ => none) = some (C, fs) := e
    split at e
    · rename_i C' d q
      split at e
      · rename_i fs' q2
        cases e
        refine ⟨ρ.getD i 0, ρ.getD d 0, rfl, rp.obj i _ q, rp.obj d _ q2, rp.wf _ (List.mem_of_getElem? q2)⟩
      · cases e
    · cases e
  | _ => cases e
def kXf (cs : List Str) (f : Str) (x : W) (h : Mh) : R W := match excAt h x with
  | some (C, fs) => if cs.contains C then (match fs.lookup f with
    | some v => .ok v h
    | none => .no) else .no
  | none => .no
def XfOk (K : Frag) (cs : List Str) (f : Str) : Prop := ∀ C ∈ cs, XfC K (He.ga K C) ∧ PySem.W.findIn K (.ref (He.ga K C)) f = some none
section
variable {X : Cx} {Wx : WX} {o : Expr} {mo : MEx} {pos : Pos} {f : Str} {cs : List Str}
theorem me_xf (ho : ME X Wx o mo) (hf : XfOk X.K cs f) (hab : attributeBase o f X.env (eval o X.env) = eval o X.env := by rfl) : ME X Wx (.Attribute o f pos) (m1 (kXf cs f) mo) := by
  refine peI (pe_xq (cs := cs.map (He.ga X.K)) (fun C hC => ?_) ho hab) fun σV H Q ⟨ρ, h, σ, rp, wf, hs, g⟩ => ?_
  · obtain ⟨c, hc, rfl⟩ := List.mem_map.mp hC
    exact hf c hc
  subst hs
  refine ⟨ρ, h, σ, rp, wf, rfl, g.bind.imp fun ρ1 h1 x H1 l1 r1 wx g1 => ?_⟩
  unfold kXf at g1
  split at g1
  · rename_i C fs q
    obtain ⟨a, dd, e1, e2, e3, e4⟩ := excAt_ok r1 q
    split at g1
    · rename_i hc
      split at g1
      · rename_i v hv
        obtain ⟨p, hp, ep⟩ := lookup_mem hv
        exact ⟨a, _, dd, _, _, e1, List.mem_map_of_mem (mem_of_contains hc), e2, e3, by rw [lookup_c, hv] <;> rfl, gd_ok r1 g1 (ep ▸ e4 p hp)⟩
      · exact g1.elim
    · exact g1.elim
  · exact g1.elim
end
/-! ### isinstance(e, C) -/
def rIsX (K : PySem.W.Frag) : List V → Hp → VK → Prop := fun xs H Q => ∃ (a D dd : Addr) (fs : List (Str × V)) (c : V) (cv : Value) (b : Bool), xs = [.ref a, c] ∧ H a = some (exq a D (some dd)) ∧ H dd = some (.xd fs) ∧ ExcC K D ∧ (∀ u, RelV c u → u = cv) ∧ PySem.W.kitOne K (.ref D) cv = some b ∧ Q (.bl b) H
theorem call_isX {X : Cx} : CallR X (.builtin "isinstance") (rIsX X.K) := by
  intro pins s σ H xs us Q I r h
  obtain ⟨a, D, dd, fs, c, cv, b, rfl, ea, ed, C, hcv, e, q⟩ := h
  cases r with
  | cons rx rr =>
    cases rr with
    | cons rt rr =>
      cases rr
      cases rx
      have ec := hcv _ rt
      subst ec
      obtain ⟨oe, vs, hget, hz, hv⟩ := exq_at I.hok ea
      have hx : ObjOk X.prog X.w H s.heap dd (.xd fs) := I.hok dd _ ed
      obtain ⟨mA, hns, hr⟩ := hx
      obtain ⟨od, ho, hl⟩ := lookIn_ns hns
      have J : PySem.W.InstAt s.heap a oe D (some od) := ⟨hget, hz.1, by unfold PySem.W.notCls; rw [hv] <;> rfl, by rw [hz.2]; exact ho⟩
      have hcl : (PySem.W.clsIn X.K D).isSome = true := by
        obtain ⟨cd, hc, _⟩ := PySem.W.any_some C.hd
        rw [hc] <;> rfl
      exact PySem.W.kia_one (PySem.W.kitx_exc hcl C.hg C.hk C.hs C.ha C.hn C.ht C.hm) I.kIn J e (fun z => nomatch z) fun tk => ⟨.bl b, H, I.kept (t' := tk) fun _ _ z => z, rfl, q⟩
def kIsx (isa : Ty → Ty → Option Bool) (u : Ty) (x : W) (h : Mh) : R W := match excAt h x with
  | some (C, _) => (match isa (.c C) u with
    | some b => .ok (.bl b) h
    | none => .no)
  | none => .no
def mIsx (isa : Ty → Ty → Option Bool) (u : Ty) (m : MEx) : MEx := m1 (kIsx isa u) m
def IsxOk (K : Frag) (isa : Ty → Ty → Option Bool) (u : Ty) : Prop := ∀ C b, isa (.c C) u = some b → PySem.W.kitOne K (.ref (He.ga K C)) (u.v K) = some b ∧ ExcC K (He.ga K C)
def kIsx2 (isa : Ty → Ty → Option Bool) (u : Ty) (ws : List W) (h : Mh) : R W := match ws with
  | [x, y] => if y = u.w then kIsx isa u x h else .no
  | _ => .no
section
variable {X : Cx} {Wx : WX} {a b : Expr} {ma : MEx} {p pos : Pos} {u : Ty} {isa : Ty → Ty → Option Bool}
theorem me_isx (hi : IsxOk X.K isa u) (hg : Gl X "isinstance") (hm : X.mg "isinstance" = none) (ha : ME X Wx a ma) (hb : ME X Wx b (mC u.w)) (he : starEach [a, b] X.env = (false, eval a X.env) :: starEach [b] X.env := by rfl) (hpl : (backTo pos (starEach [b] X.env)).any (·.1) = false := by rfl)
    (he2 : starEach [b] X.env = (false, eval b X.env) :: starEach [] X.env := by rfl) : ME X Wx (.Call (.Name "isinstance" p) [a, b] [] pos) (mIsx isa u ma) := by
  refine peI (me_callB (k := kIsx2 isa u) call_isX (fun E ρ h H ws Q rp wf gd => ?_) hg hm (by decide +kernel) (ma_cons ha (ma_cons hb ma_nil he2) he) (by decide) (by decide) he hpl) fun σV H Q ⟨ρ, h, σ, rp, wf, hs, g⟩ => ⟨ρ, h, σ, rp, wf, hs, ?_⟩
  · unfold kIsx2 at gd
    split at gd
    · rename_i x y
      split at gd
      · rename_i hy
        subst hy
        unfold kIsx at gd
        split at gd
        · rename_i C fs q
          split at gd
          · rename_i bb hb
            obtain ⟨h1, h2⟩ := hi C bb hb
            obtain ⟨a, dd, e1, e2, e3, e4⟩ := excAt_ok rp q
            refine ⟨a, _, dd, _, cV X.K ρ u.w, u.v X.K, bb, by show [cV X.K ρ x, cV X.K ρ u.w] = _; rw [e1], e2, e3, h2, fun z hz => ?_, h1, gd_ok rp gd trivial⟩
            cases u with
            | b n => exact hz
            | c x => exact hz
          · exact gd.elim
        · exact gd.elim
      · exact gd.elim
    · exact gd.elim
  · unfold mIsx m1 at g
    unfold mArg mCons mNil mC
    cases q : ma σ h with
    | no => rw [q] at g; exact g
    | ex y hh => rw [q] at g; exact g
    | ok w h1 =>
      rw [q] at g
      simp only [R.bind, kIsx2, if_true]
      exact g
end
/-! ### facts -/
def excB (K : Frag) (C : Str) : Bool := xfB K (He.ga K C) && (decide (PySem.W.findIn K (.ref (He.ga K C)) "__class__" = some (some (.builtin "object.__class__"))) && (decide (PySem.W.specialIn K (.builtin "object.__class__") "__get__" = some (some (.builtin "getset_descriptor.__get__"))) &&
  (decide (PySem.W.takesIn K (.builtin "object.__class__") = some true) && decide (PySem.W.mroIn K (He.ga K C) (.type "object") = some true))))
theorem excB_ok {K : Frag} {C : Str} (h : excB K C = true) : XfC K (He.ga K C) ∧ ExcC K (He.ga K C) := by
  obtain ⟨h1, h⟩ := Bool.and_eq_true_iff.mp h
  obtain ⟨h2, h⟩ := Bool.and_eq_true_iff.mp h
  obtain ⟨h3, h⟩ := Bool.and_eq_true_iff.mp h
  obtain ⟨h4, h5⟩ := Bool.and_eq_true_iff.mp h
  have x := xfB_ok h1
  exact ⟨x, x.ga, x.gg, x.exC, x.hdC, of_decide_eq_true h2, of_decide_eq_true h3, of_decide_eq_true h4, of_decide_eq_true h5⟩
def isxB (tb : Tb) (cs : List Str) (K : Frag) : Bool := (tb.all fun p => decide (PySem.W.kitOne K (p.1.1.v K) (p.1.2.v K) = some p.2)) && cs.all (excB K)
theorem isx_ok {K : Frag} {tb : Tb} {cs : List Str} (h : isxB tb cs K = true) (hi : tbIn tb cs = true) (u : Ty) : IsxOk K (isaOf tb) u := fun C b e => by
  obtain ⟨h1, h2⟩ := Bool.and_eq_true_iff.mp h
  have hm := isaOf_mem e
  refine ⟨of_decide_eq_true (List.all_eq_true.mp h1 _ hm), ?_⟩
  have z := List.all_eq_true.mp hi _ hm
  exact (excB_ok (List.all_eq_true.mp h2 C (of_decide_eq_true z))).2
/-! ### list.count -/
def rCntF (K : PySem.W.Frag) : V → List V → Hp → VK → Prop := fun x xs H Q => ∃ (a : Addr) (ys : List V) (y : V), x = V.ref a ∧ xs = [y] ∧ SqL K H a ys ∧ flatV y = true ∧ ys.all flatV = true ∧ Q (.int (ys.countP (fun z => eqV z y) : Nat)) H
theorem count_eqU {x : V} : ∀ {xs : List V} {us : List Value}, Vals xs us → xs.all flatV = true → us.countP (eqU x) = xs.countP fun y => eqV y x
  | [], _, .nil, _ => rfl
  | y :: xs, _, .cons (b := u) r rs, f => by
    obtain ⟨f1, f2⟩ := Bool.and_eq_true_iff.mp f
    rw [List.countP_cons, List.countP_cons, count_eqU rs f2, eqU_of r f1]
theorem mt_cntF {X : Cx} : MtR X "list.count" (rCntF X.K) := by
  intro pins s σ H x xs v us Q I rx rxs h
  obtain ⟨a, ys, y, rfl, rfl, hs, fy, fys, q⟩ := h
  cases rx
  cases rxs with
  | cons ry rt =>
    rename_i uy ut
    cases rt
    obtain ⟨its, rv, ⟨⟨cls, dd, data, sl⟩, n, ho, hc, hdn, hd⟩, hlen⟩ := I.list hs
    simp only at hc hd
    subst hc hd
    refine call_meets PySem.F.slot_list_count ⟨_, ho, rfl⟩ PySem.F.entry_list_count (PySem.F.args_list_count_2 _ _)
      (SeqAt.list_countAt a its.toArray n dd sl uy (eqU y)) ⟨ho, fun u' hu' => mem_eqAt ry fy rv fys u' (by simpa using hu'), ?_⟩
    have ec : its.toArray.toList.countP (eqU y) = ys.countP fun z => eqV z y := count_eqU rv fys
    refine ⟨.int (ys.countP (fun z => eqV z y) : Nat), H, I.tok _, ⟨s.toks, ?_⟩, q⟩
    show Value.int ((its.toArray.toList.countP (eqU y) : Nat) : Int) s.toks = Value.int ((ys.countP (fun z => eqV z y) : Nat) : Int) s.toks
    rw [ec]
def kCount (x : W) (ws : List W) (h : Mh) : R W := match ws with
  | [y] => match seqL h x with
    | some xs => if flatW y && xs.all flatW then .ok (.int (xs.countP (fun z => eqW z y) : Nat)) h else .no
    | none => .no
  | _ => .no
theorem count_c {K : Frag} {ρ : List Addr} {y : W} : ∀ {xs : List W}, xs.all flatW = true → flatW y = true → (cL K ρ xs).countP (fun z => eqV z (cV K ρ y)) = xs.countP fun z => eqW z y
  | [], _, _ => rfl
  | v :: l, f, z1 => by
    obtain ⟨f1, f2⟩ := Bool.and_eq_true_iff.mp f
    show List.countP _ (cV K ρ v :: cL K ρ l) = _
    rw [List.countP_cons, List.countP_cons, count_c f2 z1, eqW_c f1 z1]
theorem mm_count {K : Frag} : MtMc K (rCntF K) kCount := fun E ρ h H x ws Q rp wx ww gd => by
  unfold kCount at gd
  split at gd
  · rename_i y
    split at gd
    · rename_i xs q
      split at gd
      · rename_i hz
        obtain ⟨i, rfl, _, s, _⟩ := seqL_ok rp q
        obtain ⟨z1, z2⟩ := Bool.and_eq_true_iff.mp hz
        refine ⟨_, _, _, rfl, rfl, s, flatW_c z1, all_flat z2, ?_⟩
        have ec := count_c (K := K) (ρ := ρ) z2 z1
        rw [ec]
        exact gd_ok rp gd trivial
      · exact gd.elim
    · exact gd.elim
  · exact gd.elim
end Mc

/-! str, join, f-strings -/
namespace Mc
open PySem PySem.Spec PyProof.Rows L2
section
variable {X : Cx} {Wx : WX} {o e : Expr} {mo : MEx} {ma : MAx} {apos cpos : Pos}
theorem me_count (ho : ME X Wx o mo) (ha : MA X Wx [e] ma) (hbase : attributeBase o "count" X.env (eval o X.env) = eval o X.env := by rfl) (hline : (apos.endLine == cpos.line) = true := by rfl)
    (hfew : ((backTo cpos (starEach [e] X.env)).all (fun x => !x.1) && (backToKw cpos (keywordEach [] X.env)).all (fun x => x.1.isSome)
      && decide ([e].length + ([] : List Keyword).length + (if ([] : List Keyword).isEmpty then 0 else 1) < 30)) = true := by rfl)
    (hs : starEach [e] X.env = (false, eval e X.env) :: starEach [] X.env := by rfl) (hplain : (backTo cpos (starEach [] X.env)).any (·.1) = false := by rfl) :
    ME X Wx (.Call (.Attribute o "count" apos) [e] [] cpos) (mMt "list" kCount mo ma) := me_mt F.plainAttrs_list F.slot_list_count F.type_list_count mt_cntF mm_count ho ha hbase hfew hline hs hplain
end
/-! ### join -/
def strsOf : List W → Option (List Str)
  | [] => some []
  | .str i :: l => (strsOf l).map (i :: ·)
  | _ :: _ => none
theorem strsOf_eq : ∀ {xs : List W} {ns : List Str}, strsOf xs = some ns → xs = ns.map W.str
  | [], _, h => by cases h; rfl
  | x :: l, ns, h => by
    cases x with
    | str i =>
      cases q : strsOf l with
      | none => unfold strsOf at h; rw [q] at h; cases h
      | some ms =>
        unfold strsOf at h
        rw [q] at h
        cases h
        rw [strsOf_eq q] <;> rfl
    | _ => cases h
def joinC (a : Str) (ys : List Str) : Nat := (ys.map (·.length)).sum + ys.length * a.length
def kJoin (x : W) (ws : List W) (h : Mh) : R W := match x, ws with
  | .str a, [y] => (match seqA h y with
    | some xs => (match strsOf xs with
      | some ys => if joinC a ys ≤ lim then .ok (.str (Txt.join a ys)) h else .no
      | none => .no)
    | none => .no)
  | _, _ => .no
def rJoin (K : Frag) : V → List V → Hp → VK → Prop := fun x xs H Q => ∃ a p, ∃ ys : List Str, x = .str a ∧ xs = [.ref p] ∧ (SqL K H p (ys.map V.str) ∨ SqT K H p (ys.map V.str)) ∧ (ys.map (·.length)).sum + ys.length * a.length ≤ 16777216 ∧ Q (.str (Txt.join a ys)) H
theorem mm_join {K : Frag} : MtMc K (rJoin K) kJoin := fun E ρ h H x ws Q rp wx ww gd => by
  unfold kJoin at gd
  split at gd
  · rename_i a y
    split at gd
    · rename_i xs q
      split at gd
      · rename_i ys hy
        split at gd
        · rename_i hz
          obtain ⟨i, rfl, _, s, _⟩ := seqA_ok rp q
          have e := strsOf_eq hy
          have e2 : cL K ρ xs = ys.map V.str := by rw [e, cL, List.map_map] <;> rfl
          rw [e2] at s
          exact ⟨a, _, ys, rfl, rfl, s, Nat.le_trans hz (by decide), gd_ok rp gd trivial⟩
        · exact gd.elim
      · exact gd.elim
    · exact gd.elim
  · exact gd.elim
section
variable {X : Cx} {Wx : WX} {o e : Expr} {mo : MEx} {ma : MAx} {apos cpos : Pos}
theorem me_join (ho : ME X Wx o mo) (ha : MA X Wx [e] ma) (hbase : attributeBase o "join" X.env (eval o X.env) = eval o X.env := by rfl) (hline : (apos.endLine == cpos.line) = true := by rfl)
    (hfew : ((backTo cpos (starEach [e] X.env)).all (fun x => !x.1) && (backToKw cpos (keywordEach [] X.env)).all (fun x => x.1.isSome)
      && decide ([e].length + ([] : List Keyword).length + (if ([] : List Keyword).isEmpty then 0 else 1) < 30)) = true := by rfl)
    (hs : starEach [e] X.env = (false, eval e X.env) :: starEach [] X.env := by rfl) (hplain : (backTo cpos (starEach [] X.env)).any (·.1) = false := by rfl) :
    ME X Wx (.Call (.Attribute o "join" apos) [e] [] cpos) (mMt "str" kJoin mo ma) := me_mt F.plainAttrs_str F.slot_str_join F.type_str_join mt_join mm_join ho ha hbase hfew hline hs hplain
end
/-! ### f-strings -/
def kFmt (w : W) (h : Mh) : R W := match w with
  | .str y => if y.length ≤ lim then .ok (.str y) h else .no
  | .int i => if i.natAbs.log2 < 1920 then .ok (.str (toString i)) h else .no
  | _ => .no
def jsM : List MEx → Str → MSt → Mh → R W
  | [], acc, _, h => .ok (.str acc) h
  | m :: ms, acc, σ, h => (m σ h).bind fun w h1 => match w with
    | .str y => if (acc ++ y).length ≤ lim then jsM ms (acc ++ y) σ h1 else .no
    | _ => .no
def mJs (ms : List MEx) : MEx := fun σ h => jsM ms Str.empty σ h
inductive MJ (X : Cx) (Wx : WX) : List Expr → List MEx → Prop where
  | nil : MJ X Wx [] []
  | cons {e : Expr} {m : MEx} {es : List Expr} {ms : List MEx} (h : ME X Wx e m) (r : MJ X Wx es ms) : MJ X Wx (e :: es) (m :: ms)
section
variable {X : Cx} {Wx : WX} {e v1 v2 : Expr} {rest : List Expr} {m : MEx} {ms : List MEx} {pos : Pos}
theorem me_fmt (he : ME X Wx e m) : ME X Wx (.FormattedValue e (-1) none pos) (m1 kFmt m) := peI (pe_fmt he) fun σV H Q ⟨ρ, h, σ, rp, wf, hs, g⟩ => by
  subst hs
  refine ⟨ρ, h, σ, rp, wf, rfl, g.bind.imp fun ρ1 h1 x H1 l1 r1 wx g1 => ?_⟩
  unfold kFmt at g1
  split at g1
  · split at g1
    · rename_i hz
      exact .inl ⟨_, rfl, lim_sz hz, gd_ok r1 g1 trivial⟩
    · exact g1.elim
  · split at g1
    · rename_i hz
      exact .inr ⟨_, rfl, hz, gd_ok r1 g1 trivial⟩
    · exact g1.elim
  · exact g1.elim
theorem MJ.pj : ∀ {es : List Expr} {ms : List MEx}, MJ X Wx es ms → PJ X es (ms.map (lE X.K Wx))
  | _, _, .nil => .nil
  | _, _, .cons h r => .cons h r.pj
theorem js_ok {K : Frag} {σ : MSt} {Q : VK} : ∀ (ms : List MEx) (acc : Str) (ρ0 ρ : List Addr) (h : Mh) (H : Hp), ρ0 <+: ρ → WfS ρ0.length σ → Rep K ρ h H → Gd K (fun c d H' => Wx c d (cS K ρ0 σ) H') ρ wfV (jsM ms acc σ h) (fun ρ' _ w H' => Q (cV K ρ' w) H') →
    tJs (ms.map (lE K Wx)) acc (cS K ρ0 σ) H (fun out H1 => Q (.str out) H1)
  | [], acc, ρ0, ρ, h, H, l, wf, rp, g => gd_ok rp g trivial
  | m :: ms, acc, ρ0, ρ, h, H, l, wf, rp, g => by
    unfold jsM at g
    refine lE.at l wf rp (g.bind.imp fun ρ1 h1 x H1 l1 r1 wx g1 => ?_)
    split at g1
    · rename_i y
      split at g1
      · rename_i hz
        exact ⟨y, rfl, lim_sz hz, js_ok ms _ ρ0 ρ1 h1 H1 (l.trans l1) wf r1 g1⟩
      · exact g1.elim
    · exact g1.elim
theorem me_joined (h : MJ X Wx (v1 :: v2 :: rest) ms) : ME X Wx (.JoinedStr (v1 :: v2 :: rest) pos) (mJs ms) := peI (pe_joined h.pj) fun σV H Q ⟨ρ, h, σ, rp, wf, hs, g⟩ => by
  subst hs
  exact js_ok ms _ ρ ρ h H pre_rfl (by rw [rp.len]; exact wf) rp g
end
/-! ### str -/
def kStr1 (w : W) (h : Mh) : R W := match w with
  | .str y => .ok (.str y) h
  | .int i => if i.natAbs.log2 < 1920 then .ok (.str (toString i)) h else .no
  | _ => .no
def kStrO (ls : List (Str × Fm)) (ws : List W) (h : Mh) : R W := match ws with
  | [w] => match insAt h w with
    | some (C, _, _) => (match ls.lookup C with
      | some F => (F [w] h).bind fun v h' => match v with
        | .str y => .ok (.str y) h'
        | _ => .no
      | none => .no)
    | none => kStr1 w h
  | _ => .no
structure StrD (P : Program) (w : World) (K : Frag) (mg : Mg) (base : Heap) (k : Nat) (C : Str) (F : Fm) : Prop where
  ex : ∃ (f : Addr) (fd : FuncData) (ps : List Str), PySem.W.findIn K (.ref (He.ga K C)) "__str__" = some (some (.ref f)) ∧ PySem.W.isFn K (.ref f) = true ∧ FnM P w K mg base k f fd ps F ∧ Bd K fd ps 1 [] [] [0] ∧ ps.length = 1
theorem str_ok {P : Program} {w : World} {K : Frag} {mg : Mg} {base : Heap} {k : Nat} {C : Str} {f : Addr} {fd : FuncData} {ps : List Str} {F : Fm} (hm : Meth K (He.ga K C) "__str__" f) (G : FnM P w K mg base k f fd ps F) (B : Bd K fd ps 1 [] [] [0]) (h1 : ps.length = 1) : StrD P w K mg base k C F :=
  ⟨f, fd, ps, hm.at_, hm.fn, G, B, h1⟩
section
variable {X : Cx} {Wx : WX} {e : Expr} {m : MAx} {p pos : Pos} {k : Nat} {ls : List (Str × Fm)}
theorem me_strO (hr : RoomG (k + 2) X.A) (tk : Takes X Wx) (hL : ∀ q ∈ ls, StrD X.prog X.w X.K X.mg X.base k q.1 q.2) (hg : Gl X "str") (hm : X.mg "str" = none) (ha : MA X Wx [e] m)
    (he : starEach [e] X.env = (false, eval e X.env) :: starEach [] X.env := by rfl) (hpl : (backTo pos (starEach [] X.env)).any (·.1) = false := by rfl) : ME X Wx (.Call (.Name "str" p) [e] [] pos) (mArg (kStrO ls) m) := by
  refine ⟨fun pins s σV H Q I ⟨ρ, h, σ, rp, wf, hs, g⟩ => ?_⟩
  subst hs
  refine wpAny_Call_Name_kw (ld_blt I hg hm (u := .type "str") (by decide +kernel) ?_ (by decide) (by decide))
  refine PyProof.Rows.callWith_type1 (thn (ma_run ha I rp wf g.bind) fun us s1 hq => ?_) he hpl
  obtain ⟨ρ1, h1, ws, H1, l1, r1, w1, I1, rv, g1⟩ := hq
  unfold kStrO at g1
  split at g1
  · rename_i w
    split at g1
    · rename_i C dx fs q
      obtain ⟨i, rfl, q1, q2, q3, q4⟩ := insAt_ok r1 q
      have rv0 := rv
      obtain ⟨u, rfl, ru⟩ := vals1 rv
      obtain rfl : u = Value.ref (ρ1.getD i 0) := ru
      split at g1
      · rename_i F hF
        obtain ⟨f, fd, ps, f1, f2, G, B, hp⟩ := (hL _ (lookup_mem2 hF)).ex
        obtain ⟨mA, O, _, _, _, _⟩ := ins_get I1.hok q2
        obtain ⟨od, J, _⟩ := O.look
        obtain ⟨ds, rd, hb⟩ := B.to
        cases rd
        have hr2 : RoomG k X.A.in1.in1 := hr.in1.in1
        refine PySem.W.kso_call hr2.rm.units0 I1.kIn J f1 f2 (wpAny_call ?_)
        have g2 := Gd.bind (wf := wfV) g1
        refine codeAny_mono (G.run X.A.in1.in1 X.stack s1 H1 ⟨[.ref (ρ1.getD i 0)], []⟩ [.ref (ρ1.getD i 0)] ρ1 h1 [.ref i] (fun v H' => ∃ y : Str, v = .str y ∧ Q (.str y) H') _ hr2 I1.env0.in1.in1 (hb _ [.ref (ρ1.getD i 0)] [] I1.kIn rfl rfl) rv0 (by rw [hp] <;> rfl) r1 w1 (g2.imp fun ρ2 h2 v H2 l2 r2 w2 g3 => ?_)) fun rr s' hq => ?_
        · cases v with
          | str y => exact ⟨y, rfl, gd_ok r2 (w := .str y) g3 trivial⟩
          | _ => exact g3.elim
        · cases rr with
          | error er => exact tk er s' (XE.of_call I1 (fun _ _ _ z => z) hq)
          | ok fl =>
            cases fl with
            | ret u =>
              obtain ⟨v3, H3, I3, rv3, y, rfl, q3⟩ := I1.after hq
              obtain ⟨t, e⟩ := (show ∃ t, u = Value.str y t from rv3)
              cases e
              exact ⟨.str y, H3, I3, ⟨_, rfl⟩, q3⟩
            | next => exact False.elim hq
            | brk => exact False.elim hq
            | cont => exact False.elim hq
      · exact g1.elim
    · unfold kStr1 at g1
      split at g1
      · exact SkE.call_str_str pins s1 _ H1 _ us Q I1 rv ⟨_, rfl, gd_ok r1 g1 trivial⟩
      · split at g1
        · rename_i hz
          exact call_str_int pins s1 _ H1 _ us Q I1 rv ⟨_, rfl, hz, gd_ok r1 g1 trivial⟩
        · exact g1.elim
      · exact g1.elim
  · exact g1.elim
end
end Mc

/-! zip(a, b, strict=True) of lists and tuples -/
namespace Mc
open PySem PySem.Spec PyProof.Rows L2
abbrev IsZipS (h : Heap) (z TI TO : Addr) (f0 : Value) : Prop := h.get? z = some { cls := .type "zip", data := .fields #[f0, .bool false, .bool true, .ref TI, .ref TO] }
section
variable {prog : Program} {w : World} {A : Around} {E : Value → Shared → Prop} {s : Shared} {z TI TO i1 i2 it : Addr} {fp fp1 fp2 : List Addr} {n n1 n2 i : Nat} {P P1 P2 : Nat → Value → Prop} {St St1 St2 : Nat → Heap → Prop} {a1 a2 : Value}
theorem drawE_item {Q : Option Value → Shared → Prop} (D : Draws prog w A it fp n P St) (hi : i < n) (st : St i s.heap) (hQ : ∀ x h' tk, P i x → St (i + 1) h' → Heap.SameBut it s.heap h' → Q (some x) { s with heap := h', toks := tk }) :
    wpAny (model prog w) A (Builtin.SmallTypes.nextOrEnd (.ref it)) Q E s := by
  unfold Builtin.SmallTypes.nextOrEnd
  exact wpAny_bind (wpAny_attempt (D.item i s _ _ hi st fun x h' tk p q k => wpAny_pure (hQ x h' tk p q k)))
theorem drawE_done {Q : Option Value → Shared → Prop} (D : Draws prog w A it fp n P St) (st : St n s.heap) (hQ : ∀ h', Heap.ExtBut it s.heap h' → Q none { s with heap := h' }) :
    wpAny (model prog w) A (Builtin.SmallTypes.nextOrEnd (.ref it)) Q E s := by
  unfold Builtin.SmallTypes.nextOrEnd
  refine wpAny_bind (wpAny_attempt (D.done s _ _ st fun h' e k he => ?_))
  obtain ⟨o, ho, hc⟩ := he
  exact wpAny_bind (wpAny_isInstance (T := "StopIteration") (b := true) ⟨o, ho, hc⟩ isSubtype_stop (wpAny_pure (hQ h' k)))
theorem stop_it {α : Type} {Q : α → Shared → Prop} (hh : A.handled = none) (hE : ∀ h' e, (∀ b o, s.heap.get? b = some o → h'.get? b = some o) → (∃ o, h'.get? e = some o ∧ o.cls = .type "StopIteration") → E (.ref e) { s with heap := h' }) :
    wpAny (model prog w) A (Builtin.SmallTypes.stopIteration : Sem α) Q E s := by
  unfold Builtin.SmallTypes.stopIteration
  refine wpAny_bind ?_
  simp only [newExc, newTuple]
  refine wpAny_bind (wpAny_newObj_type ?_ (by size_fits))
  refine wpAny_bind (m := firstArgMember _ _) (wpAny_of_eq (a := Value.none) (by first | rfl | (simp only [firstArgMember]; rfl)) ?_)
  refine wpAny_newObj_type ?_ (by size_fits)
  simp only [raiseNew]
  refine wpAny_bind (wpAny_handled ?_)
  first | rw [show A.in1.handled = none from hh] | rw [hh]
  refine wpAny_bind (wpAny_pure (wpAny_throw ?_))
  exact hE _ _ (fun b o e => Heap.get?_push_of_some _ (Heap.get?_push_of_some _ e)) ⟨_, Heap.get?_push_size _ rfl, rfl⟩
theorem zipS2_item {Q : Value → Shared → Prop} (S : ZipSep2 z TI TO i1 i2 fp1 fp2) (D1 : Draws prog w A i1 fp1 n1 P1 St1) (D2 : Draws prog w A i2 fp2 n2 P2 St2)
    (hz : IsZipS s.heap z TI TO .none) (hTI : IsTupOf2 s.heap TI (.ref i1) (.ref i2)) (hTO : IsTupOf2 s.heap TO a1 a2) (st1 : St1 i s.heap) (st2 : St2 i s.heap) (hlt1 : i < n1) (hlt2 : i < n2)
    (hQ : ∀ x1 x2 h' tk, P1 i x1 → P2 i x2 → IsZipS h' z TI TO (rawInt s.heap.objs.size) → IsTupOf2 h' TO x1 x2 → St1 (i + 1) h' → St2 (i + 1) h' → IsTupOf2 h' s.heap.objs.size x1 x2 → h'.objs.size = s.heap.objs.size + 1 →
      (∀ c o, c ≠ z → c ≠ TO → c ≠ i1 → c ≠ i2 → s.heap.get? c = some o → h'.get? c = some o) → Q (.ref s.heap.objs.size) { s with heap := h', toks := tk }) :
    wpAny (model prog w) A (Builtin.«zip.__next__» ⟨[.ref z], []⟩) (fun fin s' => ∃ v, fin = .done (.ret v) ∧ Q v s') E s := by
  obtain ⟨hp, g, d, tk0, os⟩ := s
  show wpAny _ _ (field (.ref z) 2 >>= _) _ _ _
  refine wpAny_bind (wpAny_field hz rfl (x := .bool true) rfl ?_)
  show wpAny _ _ (field (.ref z) 3 >>= _) _ _ _
  refine wpAny_bind (wpAny_field hz rfl (x := .ref TI) rfl ?_)
  refine wpAny_bind (wpAny_seqItems hTI rfl ?_)
  show wpAny _ _ (Builtin.SmallTypes.ownedTupleIsFree (.ref z) >>= _) _ _ _
  refine wpAny_bind ?_
  unfold Builtin.SmallTypes.ownedTupleIsFree
  refine wpAny_bind (wpAny_field hz rfl (x := .none) rfl (wpAny_pure ?_))
  simp only [if_true]
  refine wpAny_bind (wpAny_rule ?_)
  refine wpAny_bind (wpAny_field hz rfl (x := .ref TO) rfl ?_)
  refine wpAny_bind (wpAny_setField_rec hz (by simp) fun g0 hz0 hs0 => ?_)
  replace hz0 : IsZipS g0 z TI TO .ellipsis := hz0
  replace hs0 : Heap.SameBut z hp g0 := hs0
  refine wpAny_bind ?_
  simp only [List.zipIdx_cons, List.zipIdx_nil, List.forIn_cons, List.forIn_nil]
  refine wpAny_bind (wpAny_bind (wpAny_onRaise ?_))
  show wpAny _ _ (Builtin.SmallTypes.nextOrEnd (.ref i1)) _ _ ⟨g0, g, d, tk0, os⟩
  refine drawE_item D1 hlt1 (D1.over st1 hs0 S.zf1) fun x1 p1 tk1 hx1 sn1 hp1 => ?_
  replace hp1 : Heap.SameBut i1 g0 p1 := hp1
  have hU1 : IsTupOf2 p1 TO a1 a2 := hp1.extBut _ _ S.Ti1 (hs0.extBut _ _ S.TOz hTO)
  refine wpAny_bind (wpAny_seqItems (s := ⟨p1, g, d, tk1, os⟩) hU1 rfl ?_)
  refine wpAny_bind (updateSeq_IsTupOf2 (s := ⟨p1, g, d, tk1, os⟩) hU1 fun g1 hT1 hs1 => ?_)
  replace hT1 : IsTupOf2 g1 TO x1 a2 := hT1
  replace hs1 : Heap.SameBut TO p1 g1 := hs1
  refine wpAny_bind (wpAny_letGo (wpAny_pure ?_))
  refine wpAny_bind (wpAny_bind (wpAny_onRaise ?_))
  show wpAny _ _ (Builtin.SmallTypes.nextOrEnd (.ref i2)) _ _ ⟨g1, g, d, tk1, os⟩
  refine drawE_item D2 hlt2 (D2.over (D2.over (D2.over st2 hs0 S.zf2) hp1 S.sep1_2) hs1 S.Tf2) fun x2 p2 tk2 hx2 sn2 hp2 => ?_
  replace hp2 : Heap.SameBut i2 g1 p2 := hp2
  have hU2 : IsTupOf2 p2 TO x1 a2 := hp2.extBut _ _ S.Ti2 hT1
  refine wpAny_bind (wpAny_seqItems (s := ⟨p2, g, d, tk2, os⟩) hU2 rfl ?_)
  refine wpAny_bind (updateSeq_IsTupOf2 (s := ⟨p2, g, d, tk2, os⟩) hU2 fun g2 hT2 hs2 => ?_)
  replace hT2 : IsTupOf2 g2 TO x1 x2 := hT2
  replace hs2 : Heap.SameBut TO p2 g2 := hs2
  refine wpAny_bind (wpAny_letGo (wpAny_pure (wpAny_pure ?_)))
  refine wpAny_bind (wpAny_seqItems (s := ⟨g2, g, d, tk2, os⟩) hT2 rfl ?_)
  refine wpAny_bind (wpAny_newTuple ?_)
  have hsz : g2.objs.size = hp.objs.size := by rw [hs2.1, hp2.1, hs1.1, hp1.1, hs0.1]
  have hzz : IsZipS g2 z TI TO .ellipsis := (hs2.extBut _ _ S.TOz.symm (hp2.extBut _ _ S.zi2 (hs1.extBut _ _ S.TOz.symm (hp1.extBut _ _ S.zi1 hz0))))
  have hkk : ∀ c o, c ≠ z → c ≠ TO → c ≠ i1 → c ≠ i2 → hp.get? c = some o → g2.get? c = some o := fun c o cz cT c1 c2 e =>
    (hs2.extBut _ _ cT (hp2.extBut _ _ c2 (hs1.extBut _ _ cT (hp1.extBut _ _ c1 (hs0.extBut _ _ cz e)))))
  have hj1 : St1 (i + 1) g2 := (D1.over (D1.over (D1.over sn1 hs1 S.Tf1) hp2 S.sep2_1) hs2 S.Tf1)
  have hj2 : St2 (i + 1) g2 := (D2.over sn2 hs2 S.Tf2)
  have hzlt : z < g2.objs.size := Heap.lt_size hzz
  show wpAny _ _ (Builtin.SmallTypes.ownedTupleHandOut (.ref z) (.ref g2.objs.size) >>= _) _ _ ⟨g2.push { cls := .type "tuple", data := .seq #[x1, x2] }, g, d, tk2, os⟩
  refine wpAny_bind ?_
  unfold Builtin.SmallTypes.ownedTupleHandOut
  have hz₆ : IsZipS (g2.push { cls := .type "tuple", data := .seq #[x1, x2] }) z TI TO .ellipsis := Heap.get?_push_of_some _ hzz
  refine wpAny_bind (wpAny_setField_rec hz₆ (by simp) fun h₇ hz₇ hs₇ => ?_)
  replace hz₇ : IsZipS h₇ z TI TO (rawInt g2.objs.size) := hz₇
  refine wpAny_setField_rec hz₇ (by simp) fun h₈ hz₈ hs₈ => ?_
  replace hz₈ : IsZipS h₈ z TI TO (rawInt g2.objs.size) := hz₈
  replace hs₇ : Heap.SameBut z (g2.push { cls := .type "tuple", data := .seq #[x1, x2] }) h₇ := hs₇
  replace hs₈ : Heap.SameBut z h₇ h₈ := hs₈
  have up : ∀ c o, c ≠ z → g2.get? c = some o → h₈.get? c = some o := fun c o c1 e => hs₈.extBut _ _ c1 (hs₇.extBut _ _ c1 (Heap.get?_push_of_some _ e))
  have hT₈ : IsTupOf2 h₈ g2.objs.size x1 x2 := hs₈.extBut _ _ (Nat.ne_of_gt hzlt) (hs₇.extBut _ _ (Nat.ne_of_gt hzlt) (Heap.get?_push_size _ rfl))
  have hz8 : h₈.objs.size = g2.objs.size + 1 := by rw [hs₈.1, hs₇.1, Heap.size_push]
  rw [hsz] at hz₈ hT₈ hz8
  refine wpAny_pure ⟨_, rfl, ?_⟩
  show Q (.ref g2.objs.size) ⟨h₈, g, d, tk2, os⟩
  rw [hsz]
  exact hQ x1 x2 h₈ tk2 hx1 hx2 hz₈ (up _ _ S.TOz hT2) (D1.frame _ _ _ hj1 fun b hb o e => up b o (fun q => S.zf1 (q ▸ hb)) e) (D2.frame _ _ _ hj2 fun b hb o e => up b o (fun q => S.zf2 (q ▸ hb)) e) hT₈ hz8 fun c o cz cT c1 c2 e => up c o cz (hkk c o cz cT c1 c2 e)
theorem zipS2_end {Q : Fin → Shared → Prop} (hh : A.handled = none) (S : ZipSep2 z TI TO i1 i2 fp1 fp2) (D1 : Draws prog w A i1 fp1 n P1 St1) (D2 : Draws prog w A i2 fp2 n P2 St2)
    (hz : IsZipS s.heap z TI TO .none) (hTI : IsTupOf2 s.heap TI (.ref i1) (.ref i2)) (hTO : IsTupOf2 s.heap TO a1 a2) (st1 : St1 n s.heap) (st2 : St2 n s.heap)
    (hE : ∀ h' e, (∀ c o, c ≠ z → c ≠ TO → c ≠ i1 → c ≠ i2 → s.heap.get? c = some o → h'.get? c = some o) → (∃ o, h'.get? e = some o ∧ o.cls = .type "StopIteration") → E (.ref e) { s with heap := h' }) :
    wpAny (model prog w) A (Builtin.«zip.__next__» ⟨[.ref z], []⟩) Q E s := by
  obtain ⟨hp, g, d, tk0, os⟩ := s
  show wpAny _ _ (field (.ref z) 2 >>= _) _ _ _
  refine wpAny_bind (wpAny_field hz rfl (x := .bool true) rfl ?_)
  show wpAny _ _ (field (.ref z) 3 >>= _) _ _ _
  refine wpAny_bind (wpAny_field hz rfl (x := .ref TI) rfl ?_)
  refine wpAny_bind (wpAny_seqItems hTI rfl ?_)
  show wpAny _ _ (Builtin.SmallTypes.ownedTupleIsFree (.ref z) >>= _) _ _ _
  refine wpAny_bind ?_
  unfold Builtin.SmallTypes.ownedTupleIsFree
  refine wpAny_bind (wpAny_field hz rfl (x := .none) rfl (wpAny_pure ?_))
  simp only [if_true]
  refine wpAny_bind (wpAny_rule ?_)
  refine wpAny_bind (wpAny_field hz rfl (x := .ref TO) rfl ?_)
  refine wpAny_bind (wpAny_setField_rec hz (by simp) fun g0 hz0 hs0 => ?_)
  replace hz0 : IsZipS g0 z TI TO .ellipsis := hz0
  replace hs0 : Heap.SameBut z hp g0 := hs0
  refine wpAny_bind ?_
  simp only [List.zipIdx_cons, List.zipIdx_nil, List.forIn_cons, List.forIn_nil]
  refine wpAny_bind (wpAny_bind (wpAny_onRaise ?_))
  show wpAny _ _ (Builtin.SmallTypes.nextOrEnd (.ref i1)) _ _ ⟨g0, g, d, tk0, os⟩
  refine drawE_done D1 (s := ⟨g0, g, d, tk0, os⟩) (D1.over st1 hs0 S.zf1) fun q hq => ?_
  replace hq : Heap.ExtBut i1 g0 q := hq
  have hzq : IsZipS q z TI TO .ellipsis := hq _ _ S.zi1 hz0
  refine wpAny_bind (wpAny_setField_rec (s := ⟨q, g, d, tk0, os⟩) hzq (by simp) fun q' hz' hq' => ?_)
  replace hq' : Heap.SameBut z q q' := hq'
  have st2' : St2 n q' := D2.over (D2.frame _ _ _ (D2.over st2 hs0 S.zf2) fun b hb o e => hq b o (fun x => S.sep1_2 (x ▸ hb)) e) hq' S.zf2
  refine wpAny_bind ?_
  refine wpAny_bind ?_
  simp only [List.drop_succ_cons, List.drop_zero, List.zipIdx_cons, List.zipIdx_nil, List.forIn_cons, List.forIn_nil]
  refine wpAny_bind (wpAny_bind (drawE_done D2 (s := ⟨q', g, d, tk0, os⟩) st2' fun r hr => ?_))
  replace hr : Heap.ExtBut i2 q' r := hr
  refine wpAny_pure (wpAny_pure ?_)
  refine wpAny_bind (wpAny_rule ?_)
  refine stop_it (s := ⟨r, g, d, tk0, os⟩) hh fun h' e k he => ?_
  exact hE h' e (fun c o cz cT c1 c2 x => k c o (hr _ _ c2 (hq'.extBut _ _ cz (hq _ _ c1 (hs0.extBut _ _ cz x))))) he
theorem pyNext_zipS2_item {Q : Option Value → Shared → Prop} (S : ZipSep2 z TI TO i1 i2 fp1 fp2) (D1 : Draws prog w A.in1 i1 fp1 n1 P1 St1) (D2 : Draws prog w A.in1 i2 fp2 n2 P2 St2)
    (hz : IsZipS s.heap z TI TO .none) (hTI : IsTupOf2 s.heap TI (.ref i1) (.ref i2)) (hTO : IsTupOf2 s.heap TO a1 a2) (st1 : St1 i s.heap) (st2 : St2 i s.heap) (hlt1 : i < n1) (hlt2 : i < n2)
    (hQ : ∀ x1 x2 h' tk, P1 i x1 → P2 i x2 → IsZipS h' z TI TO (rawInt s.heap.objs.size) → IsTupOf2 h' TO x1 x2 → St1 (i + 1) h' → St2 (i + 1) h' → IsTupOf2 h' s.heap.objs.size x1 x2 → h'.objs.size = s.heap.objs.size + 1 →
      (∀ c o, c ≠ z → c ≠ TO → c ≠ i1 → c ≠ i2 → s.heap.get? c = some o → h'.get? c = some o) → Q (some (.ref s.heap.objs.size)) { s with heap := h', toks := tk }) :
    wpAny (model prog w) A (pyNext (.ref z)) Q E s := by
  have hT : s.TypeIs (.ref z) "zip" := ⟨_, hz, rfl⟩
  unfold pyNext
  exact wpAny_bind (wpAny_attempt (wpAny_callSpecial?_slot (name := Str.ofString "__next__") hT F.slot_zip_next
    (wpAny_call_entry F.slot_zip_next hT F.entry_zip_next
      (zipS2_item S D1 D2 hz hTI hTO st1 st2 hlt1 hlt2 fun x1 x2 h' tk y1 y2 b1 b2 d1 d2 b5 b6 b7 => wpAny_pure (hQ x1 x2 h' tk y1 y2 b1 b2 d1 d2 b5 b6 b7)) (F.args_zip_next_1 _))))
theorem pyNext_zipS2_end {Q : Option Value → Shared → Prop} (hh : A.handled = none) (S : ZipSep2 z TI TO i1 i2 fp1 fp2) (D1 : Draws prog w A.in1 i1 fp1 n P1 St1) (D2 : Draws prog w A.in1 i2 fp2 n P2 St2)
    (hz : IsZipS s.heap z TI TO .none) (hTI : IsTupOf2 s.heap TI (.ref i1) (.ref i2)) (hTO : IsTupOf2 s.heap TO a1 a2) (st1 : St1 n s.heap) (st2 : St2 n s.heap)
    (hQ : ∀ h', (∀ c o, c ≠ z → c ≠ TO → c ≠ i1 → c ≠ i2 → s.heap.get? c = some o → h'.get? c = some o) → Q none { s with heap := h' }) : wpAny (model prog w) A (pyNext (.ref z)) Q E s := by
  have hT : s.TypeIs (.ref z) "zip" := ⟨_, hz, rfl⟩
  unfold pyNext
  refine wpAny_bind (wpAny_attempt (wpAny_callSpecial?_slot (name := Str.ofString "__next__") hT F.slot_zip_next
    (wpAny_call_entry F.slot_zip_next hT F.entry_zip_next (zipS2_end (A := A.in1) hh S D1 D2 hz hTI hTO st1 st2 fun h' e hk he => ?_) (F.args_zip_next_1 _))))
  obtain ⟨o, ho, hc⟩ := he
  refine wpAny_bind (wpAny_isInstance (T := "StopIteration") (b := true) ⟨o, ho, hc⟩ isSubtype_stop ?_)
  exact wpAny_pure (hQ _ hk)
theorem letGo_zipS {elts : List Expr} {x1 : Nat} {pos : Pos} {T : Addr} {Q : Unit → Shared → Prop} (hz : IsZipS s.heap z TI TO (rawInt T))
    (hQ : ∀ h', IsZipS h' z TI TO .none → Heap.SameBut z s.heap h' → Q () { s with heap := h' }) :
    wpAny (model prog w) A (letOwnedTupleGo (.Tuple elts x1 pos) (.ref z) (.ref T)) Q E s := by
  unfold letOwnedTupleGo
  refine wpAny_bind (wpAny_load hz ?_)
  show wpAny _ _ (if (["enumerate", "zip", "dict_itemiterator", "dict_reverseitemiterator", "odict_iterator", "itertools.zip_longest", "itertools.pairwise"].contains "zip" &&
      (#[rawInt T, .bool false, .bool true, .ref TI, .ref TO] : Array Value)[0]? == some (rawInt T)) = true then _ else _) Q E s
  rw [if_pos (by simp)]
  refine wpAny_bind (wpAny_rule ?_)
  show wpAny _ _ (setField (.ref z) 0 .none) Q E s
  exact wpAny_setField_rec hz (by simp) fun h' hz' hs' => hQ h' hz' hs'
theorem pyIter_zipS {f0 : Value} {Q : Value → Shared → Prop} (hz : IsZipS s.heap z TI TO f0) (h : Q (.ref z) s) : wpAny (model prog w) A (pyIter (.ref z)) Q E s := by
  have hT : s.TypeIs (.ref z) "zip" := ⟨_, hz, rfl⟩
  refine wpAny_pyIter_slot hT F.slot_zip_iter (wpAny_call_entry F.slot_zip_iter hT F.entry_zip_iter ?_ (F.args_zip_iter_1 _))
  show wpAny _ _ (ret (.ref z)) _ _ s
  exact wpAny_pure ⟨_, rfl, "zip", _, hT, F.slot_zip_next.lookup, h⟩
end
/-! ### lists and tuples -/
def SqX (k : Bool) (K : Frag) (H : Hp) (a : Addr) (xs : List V) : Prop := match k with
  | true => SqL K H a xs
  | false => SqT K H a xs
def ItX (k : Bool) (h : Heap) (it a : Addr) (i : Nat) : Prop := match k with
  | true => h.IsListIter it a i
  | false => h.IsTupleIter it a i
def AtX (k : Bool) (h : Heap) (a : Addr) (its : Array Value) : Prop := match k with
  | true => h.IsList a its
  | false => h.IsTuple a its
def itO (k : Bool) (a : Addr) : Obj := match k with
  | true => { cls := .type "list_iterator", data := .fields #[.ref a, .int 0 0] }
  | false => { cls := .type "tuple_iterator", data := .fields #[.ref a, .int 0 0] }
theorem drX {prog : Program} {w : World} {A : Around} (k : Bool) (hh : A.handled = none) (it a : Addr) (hne : a ≠ it) (its : Array Value) : Draws prog w A it [it, a] its.size (fun i v => its[i]? = some v) (fun i h => ItX k h it a i ∧ AtX k h a its) := by
  cases k
  · exact Draws.tuple hh it a hne its
  · exact Draws.list hh it a hne its
theorem bgX (k : Bool) (a : Addr) (its : Array Value) : Begins (.ref a) (itO k a) fun h => AtX k h a its := by
  cases k
  · exact begins_tuple a its
  · exact begins_list a its
theorem ItX.at {k : Bool} {h h' : Heap} {it a : Addr} {i : Nat} (q : ItX k h it a i) (e : ∀ o, h.get? it = some o → h'.get? it = some o) : ItX k h' it a i := by
  cases k
  · exact Heap.IsTupleIter.at (h := h) q e
  · exact Heap.IsListIter.at (h := h) q e
theorem ItX.obj {k : Bool} {h : Heap} {it a : Addr} {i : Nat} (q : ItX k h it a i) : ∃ o, h.get? it = some o ∧ ∀ v, o.data ≠ .cell v := by
  cases k
  · obtain ⟨o, e, _, d⟩ := q; exact ⟨o, e, fun v z => by rw [d] at z; cases z⟩
  · obtain ⟨o, e, _, d⟩ := q; exact ⟨o, e, fun v z => by rw [d] at z; cases z⟩
theorem itX_of {k : Bool} {h : Heap} {it a : Addr} (e : h.get? it = some (itO k a)) : ItX k h it a 0 := by
  cases k
  · exact ⟨_, e, rfl, rfl⟩
  · exact ⟨_, e, rfl, rfl⟩
section
variable {X : Cx} {pins : List (Addr × Obj)} {σ : L2.St} {H : Hp} {s : Shared}
theorem sqX_at {k : Bool} {a : Addr} {xs : List V} (I : Inv X pins σ H s) (h : SqX k X.K H a xs) : ∃ its : List Value, Vals xs its ∧ AtX k s.heap a its.toArray ∧ a < s.heap.objs.size := by
  cases k
  · obtain ⟨its, rv, p, _⟩ := I.tuple h
    exact ⟨its, rv, p, p.lt⟩
  · obtain ⟨its, rv, p, _⟩ := I.list h
    exact ⟨its, rv, p.isList, p.lt⟩
theorem sqX_inj {k : Bool} {a : Addr} {xs ys : List V} (I : Inv X pins σ H s) (h1 : SqX k X.K H a xs) (h2 : SqX k X.K H a ys) : xs = ys := by
  cases k
  · exact I.tuple_inj h1 h2
  · exact I.list_inj h1 h2
end
def ItzS (K : Frag) (ka kb : Bool) (a b : Addr) : It :=
  ⟨fun i H => ∃ (xs ys : List V) (x y : V), SqX ka K H a xs ∧ SqX kb K H b ys ∧ xs[i]? = some x ∧ ys[i]? = some y,
    fun i H v H' => ∃ T x y, v = .ref T ∧ H T = none ∧ H' = upd H T (.tup [x, y]) ∧ (∀ xs, SqX ka K H a xs → xs[i]? = some x) ∧ ∀ ys, SqX kb K H b ys → ys[i]? = some y,
    fun i H => ∃ xs ys : List V, SqX ka K H a xs ∧ SqX kb K H b ys ∧ xs.length = i ∧ ys.length = i⟩
theorem turn_zipS {P : Program} {w : World} {K : Frag} {elts : List Expr} {kk : Nat} {tpos : Pos} {ka kb : Bool} {a b z TI TO i1 i2 : Addr} (S : ZipSep2 z TI TO i1 i2 [i1, a] [i2, b]) (ha : a ≠ i1) (hb : b ≠ i2) :
    Turn P w K (.Tuple elts kk tpos) (ItzS K ka kb a b) [z, TI, TO, i1, i2] z (fun i h => IsZipS h z TI TO .none ∧ IsTupOf2 h TI (.ref i1) (.ref i2) ∧ (∃ x y, IsTupOf2 h TO x y) ∧ ItX ka h i1 a i ∧ ItX kb h i2 b i) where
  mem := by simp
  obj := fun i h st c hc => by
    obtain ⟨hz, hTI, ⟨x, y, hTO⟩, h1, h2⟩ := st
    have e' : c = z ∨ c = TI ∨ c = TO ∨ c = i1 ∨ c = i2 := by simpa using hc
    rcases e' with q | q | q | q | q
    · rw [q]; exact ⟨_, hz, fun v q => nomatch q⟩
    · rw [q]; exact ⟨_, hTI, fun v q => nomatch q⟩
    · rw [q]; exact ⟨_, hTO, fun v q => nomatch q⟩
    · rw [q]; exact h1.obj
    · rw [q]; exact h2.obj
  keep := fun i h h' st k => by
    obtain ⟨hz, hTI, ⟨x, y, hTO⟩, h1, h2⟩ := st
    exact ⟨k z (by simp) _ hz, k TI (by simp) _ hTI, ⟨x, y, k TO (by simp) _ hTO⟩, h1.at fun o q => k i1 (by simp) o q, h2.at fun o q => k i2 (by simp) o q⟩
  item := by
    intro X hP hw hK hc i pins s σ H E I hf st hg
    subst hP hw hK
    obtain ⟨hz, hTI, ⟨x0, y0, hTO⟩, h1, h2⟩ := st
    obtain ⟨xs, ys, x, y, hqx, hqy, hx, hy⟩ := hg
    obtain ⟨its, rv, p, _⟩ := sqX_at I hqx
    obtain ⟨its2, rv2, p2, _⟩ := sqX_at I hqy
    obtain ⟨u, hu, ru⟩ := rv.get hx
    obtain ⟨u2, hu2, ru2⟩ := rv2.get hy
    have hzl : z < s.heap.objs.size := Heap.lt_size hz
    have D1 := drX (prog := X.prog) (w := X.w) (A := X.A.in1) ka (I.ok.hd hc) i1 a ha its.toArray
    have D2 := drX (prog := X.prog) (w := X.w) (A := X.A.in1) kb (I.ok.hd hc) i2 b hb its2.toArray
    have l1 : i < its.toArray.size := by have := (List.getElem?_eq_some_iff.mp hu).1; simpa using this
    have l2 : i < its2.toArray.size := by have := (List.getElem?_eq_some_iff.mp hu2).1; simpa using this
    refine pyNext_zipS2_item S D1 D2 hz hTI hTO ⟨h1, p⟩ ⟨h2, p2⟩ l1 l2 fun x1 x2 h' tk q1 q2 z' TO' s1 s2 hT hsz hk => ?_
    have e1 : x1 = u := by
      have h1 : its[i]? = some x1 := by simpa using q1
      rw [hu] at h1
      exact (Option.some.inj h1).symm
    have e2 : x2 = u2 := by
      have h1 : its2[i]? = some x2 := by simpa using q2
      rw [hu2] at h1
      exact (Option.some.inj h1).symm
    subst e1 e2
    refine ⟨_, rfl, letGo_zipS (s := { s with heap := h', toks := tk }) z' fun h'' z'' sb => ?_⟩
    have hT2 : h''.get? s.heap.objs.size = some { cls := .type "tuple", data := .seq #[x1, x2] } := (sb.2 _ (Nat.ne_of_gt hzl)).trans hT
    have new : ObjOk X.prog X.w (upd H s.heap.objs.size (.tup [x, y])) h'' s.heap.objs.size (.tup [x, y]) :=
      ⟨by show 2 ≤ sizeLine; decide, [x1, x2], .cons ru (.cons ru2 .nil), ⟨_, hT2, rfl, _, rfl⟩⟩
    have I1 : Inv X pins σ (upd H s.heap.objs.size (.tup [x, y])) { s with heap := h'', toks := tk } :=
      I.turnedNew (t' := tk) (ch := [z, TI, TO, i1, i2]) (fun c o hb q => (sb.2 c (fun q' => hb (by simp [q']))).trans (hk c o (fun q' => hb (by simp [q'])) (fun q' => hb (by simp [q'])) (fun q' => hb (by simp [q'])) (fun q' => hb (by simp [q'])) q)) hf (Nat.le_refl _) new
    have sz1 : i1 ≠ z := S.zi1.symm
    have sz2 : i2 ≠ z := S.zi2.symm
    refine ⟨.ref s.heap.objs.size, _, I1, rfl, ⟨_, x, y, rfl, I.hok.fresh (Nat.le_refl _), rfl, fun l hl => by rw [sqX_inj I hl hqx]; exact hx, fun l hl => by rw [sqX_inj I hl hqy]; exact hy⟩, ⟨z'', ?_, ⟨x1, x2, ?_⟩, ?_, ?_⟩, fun c hcm => ?_⟩
    · exact (sb.2 _ S.TIz).trans (hk _ _ S.TIz S.TITO S.TIi1 S.TIi2 hTI)
    · exact (sb.2 _ S.TOz).trans TO'
    · exact s1.1.at fun o q => (sb.2 _ sz1).trans q
    · exact s2.1.at fun o q => (sb.2 _ sz2).trans q
    · have hlt : c < s.heap.objs.size := by
        have e' : c = z ∨ c = TI ∨ c = TO ∨ c = i1 ∨ c = i2 := by simpa using hcm
        rcases e' with q | q | q | q | q
        · rw [q]; exact hzl
        · rw [q]; exact Heap.lt_size hTI
        · rw [q]; exact Heap.lt_size hTO
        · rw [q]; obtain ⟨_, e1, _⟩ := h1.obj; exact Heap.lt_size e1
        · rw [q]; obtain ⟨_, e2, _⟩ := h2.obj; exact Heap.lt_size e2
      rw [upd_ne (Nat.ne_of_lt hlt)]
      exact (hf c hcm).1
  done := by
    intro X hP hw hK hc i pins s σ H E I hf st hg
    subst hP hw hK
    obtain ⟨hz, hTI, ⟨x0, y0, hTO⟩, h1, h2⟩ := st
    obtain ⟨xs, ys, hqx, hqy, e1, e2⟩ := hg
    obtain ⟨its, rv, p, _⟩ := sqX_at I hqx
    obtain ⟨its2, rv2, p2, _⟩ := sqX_at I hqy
    have D1 := drX (prog := X.prog) (w := X.w) (A := X.A.in1) ka (I.ok.hd hc) i1 a ha its.toArray
    have D2 := drX (prog := X.prog) (w := X.w) (A := X.A.in1) kb (I.ok.hd hc) i2 b hb its2.toArray
    have z1 : its.toArray.size = i := by rw [List.size_toArray, ← rv.length]; exact e1
    have z2 : its2.toArray.size = i := by rw [List.size_toArray, ← rv2.length]; exact e2
    rw [z1] at D1
    rw [z2] at D2
    exact pyNext_zipS2_end (I.ok.hd hc) S D1 D2 hz hTI hTO ⟨h1, p⟩ ⟨h2, p2⟩ fun h' hk => ⟨rfl, I.turnedL (t' := s.toks) (ch := [z, TI, TO, i1, i2]) (fun c o hb q =>
      hk c o (fun q' => hb (by simp [q'])) (fun q' => hb (by simp [q'])) (fun q' => hb (by simp [q'])) (fun q' => hb (by simp [q'])) q) hf⟩
  self := fun A i s Q E st h => pyIter_zipS st.1 h
end Mc

namespace Mc
open PySem PySem.Spec PyProof.Rows L2
namespace ZF
theorem typeCall2 (a b : Value) : checkTypeCall "zip" ⟨[a, b], [(Str.ofString "strict", .bool true)]⟩ = pure () := by kernel_rfl
theorem newCall2 (a b : Value) : checkBuiltinCall "zip.__new__" ⟨[.type "zip", a, b], [(Str.ofString "strict", .bool true)]⟩ = pure () := by kernel_rfl
theorem args2 (obj a b : Value) : argsOk "object.__init__" ⟨[obj, a, b], [(Str.ofString "strict", .bool true)]⟩ := by unfold argsOk; kernel_rfl
end ZF
abbrev zS3 (h : Heap) (o1 o2 : Obj) : Heap := ((h.push o1).push o2).push { cls := .type "tuple", data := .seq #[.ref h.objs.size, .ref (h.push o1).objs.size] }
abbrev zS4 (h : Heap) (o1 o2 : Obj) : Heap := (zS3 h o1 o2).push { cls := .type "tuple", data := .seq #[.none, .none] }
abbrev zS5 (h : Heap) (o1 o2 : Obj) : Heap := (zS4 h o1 o2).push { cls := .type "zip", data := .fields #[.none, .bool false, .bool true, .ref ((h.push o1).push o2).objs.size, .ref (zS3 h o1 o2).objs.size] }
theorem meets_zipS {v1 v2 : Value} {o1 o2 : Obj} {H1 H2 : Heap → Prop} (B1 : Begins v1 o1 H1) (B2 : Begins v2 o2 H2) :
    Meets (Builtin.«zip.__new__» ⟨[.type "zip", v1, v2], [(Str.ofString "strict", .bool true)]⟩) (fun _ R s => H1 s.heap ∧ H2 s.heap ∧ R (.ok (.ret (.ref (zS4 s.heap o1 o2).objs.size))) { s with heap := zS5 s.heap o1 o2 }) :=
  .of_wp fun prog w A R s h => by
    obtain ⟨hp, g, d, tk, os⟩ := s
    obtain ⟨h1, h2, h⟩ := h
    have hsub := sub_zip
    have q1 : ∀ {A' : Around} {E : Value → Shared → Prop} {Q : Value → Shared → Prop}, Q (.ref hp.objs.size) ⟨hp.push o1, g, d, tk, os⟩ → wpAny (model prog w) A' (pyIter v1) Q E ⟨hp, g, d, tk, os⟩ :=
      fun q => B1.iter prog w _ _ ⟨hp, g, d, tk, os⟩ _ h1 q
    have h2' : H2 (hp.push o1) := B2.keeps _ _ h2 fun b o e => Heap.get?_push_of_some _ e
    have q2 : ∀ {A' : Around} {E : Value → Shared → Prop} {Q : Value → Shared → Prop}, Q (.ref (hp.push o1).objs.size) ⟨(hp.push o1).push o2, g, d, tk, os⟩ → wpAny (model prog w) A' (pyIter v2) Q E ⟨hp.push o1, g, d, tk, os⟩ :=
      fun q => B2.iter prog w _ _ ⟨hp.push o1, g, d, tk, os⟩ _ h2' q
    have e1 : (Str.ofString "strict" == ("strict" : Str)) = true := by decide +kernel
    have e2 : (Str.ofString "strict" != ("strict" : Str)) = false := by decide +kernel
    wp_walk using q1, q2
    exact ⟨_, rfl, h⟩
section
variable {prog : Program} {w : World} {A : Around} {E : Value → Shared → Prop} {s : Shared}
theorem call_zipS {v1 v2 : Value} {o1 o2 : Obj} {H1 H2 : Heap → Prop} {Q : Value → Shared → Prop} (B1 : Begins v1 o1 H1) (B2 : Begins v2 o2 H2) (h1 : H1 s.heap) (h2 : H2 s.heap)
    (h : ∀ h', IsZipS h' (s.heap.objs.size + 4) (s.heap.objs.size + 2) (s.heap.objs.size + 3) .none → IsTupOf2 h' (s.heap.objs.size + 2) (.ref s.heap.objs.size) (.ref (s.heap.objs.size + 1)) →
      IsTupOf2 h' (s.heap.objs.size + 3) .none .none → h'.get? s.heap.objs.size = some o1 → h'.get? (s.heap.objs.size + 1) = some o2 →
      (∀ c o, s.heap.get? c = some o → h'.get? c = some o) → Q (.ref (s.heap.objs.size + 4)) { s with heap := h' }) :
    wpAny (model prog w) A (call (.type "zip") [v1, v2] [(Str.ofString "strict", .bool true)]) Q E s := by
  refine callType_newKw F.called_zip (by decide) (ZF.typeCall2 _ _) (ZF.newCall2 _ _) (fun obj => ZF.args2 obj _ _) F.entry_zip_new (meets_zipS B1 B2) ⟨h1, h2, ?_⟩
  have z1 : (s.heap.push o1).objs.size = s.heap.objs.size + 1 := Heap.size_push ..
  have z2 : ((s.heap.push o1).push o2).objs.size = s.heap.objs.size + 2 := by rw [Heap.size_push, z1]
  have z3 : (zS3 s.heap o1 o2).objs.size = s.heap.objs.size + 3 := by rw [Heap.size_push, z2]
  have z4 : (zS4 s.heap o1 o2).objs.size = s.heap.objs.size + 4 := by rw [Heap.size_push, z3]
  have g5 : (zS5 s.heap o1 o2).get? (zS4 s.heap o1 o2).objs.size = some _ := Heap.get?_push_size _ rfl
  have g4 : (zS5 s.heap o1 o2).get? (zS3 s.heap o1 o2).objs.size = some _ := Heap.get?_push_of_some _ (Heap.get?_push_size _ rfl)
  have g3 : (zS5 s.heap o1 o2).get? ((s.heap.push o1).push o2).objs.size = some _ := Heap.get?_push_of_some _ (Heap.get?_push_of_some _ (Heap.get?_push_size _ rfl))
  have g2 : (zS5 s.heap o1 o2).get? (s.heap.push o1).objs.size = some o2 := Heap.get?_push_of_some _ (Heap.get?_push_of_some _ (Heap.get?_push_of_some _ (Heap.get?_push_size _ B2.free)))
  have g1 : (zS5 s.heap o1 o2).get? s.heap.objs.size = some o1 := Heap.get?_push_of_some _ (Heap.get?_push_of_some _ (Heap.get?_push_of_some _ (Heap.get?_push_of_some _ (Heap.get?_push_size _ B1.free))))
  show _ ∧ _
  rw [z2, z3, z4] at g5
  rw [z1, z2] at g3
  rw [z3] at g4
  rw [z1] at g2
  rw [z4]
  exact ⟨⟨_, g5, rfl⟩, h _ g5 g3 g4 g1 g2 fun c o x => Heap.get?_push_of_some _ (Heap.get?_push_of_some _ (Heap.get?_push_of_some _ (Heap.get?_push_of_some _ (Heap.get?_push_of_some _ x))))⟩
theorem callWith_tkw {M : Model} {env : Env} {pos : Pos} {T : String} {e : Expr} {rest : List Expr} {kws : List Keyword} {Q : Value → Shared → Prop} (hall : (backToKw pos (keywordEach kws env)).all (·.1.isSome) = true)
    (h : wpAny M A (spliced (backTo pos (starEach (e :: rest) env))) (fun vs s₁ => wpAny M A (evalAll ((backToKw pos (keywordEach kws env)).map (·.2)))
      (fun ks s₂ => wpAny M A (call (.type T) vs (((backToKw pos (keywordEach kws env)).filterMap (·.1)).zip ks)) Q E s₂) E s₁) E s)
    (hplain : ((backTo pos (starEach (e :: rest) env)).any (·.1) || (backToKw pos (keywordEach kws env)).any (·.1.isNone)) = false := by rfl) (he : starEach (e :: rest) env = (false, eval e env) :: starEach rest env := by rfl) :
    wpAny M A (callWith pos (.type T) [] (backTo pos (starEach (e :: rest) env)) (backToKw pos (keywordEach kws env))) Q E s := by
  unfold callWith
  refine wpAny_bind (wpAny_holding (wpAny_mono (evalArgs_kw2 (Q := fun a s₁ => wpAny M A (call (.type T) ([] ++ a.pos) a.kw) Q E s₁) hall h he) (fun a s₁ h₁ => wpAny_bind (wpAny_standAt ?_)) fun _ _ x => x))
  simp only [hplain]
  refine wpAny_bind (wpAny_pure ?_)
  exact wpAny_bind (wpAny_mono h₁ (fun r s₂ hr => wpAny_bind (wpAny_holding (wpAny_point (wpAny_pure hr)))) fun _ _ x => x)
end
def iZipS (K : Frag) (ta : TA) : TI := fun σ H R => ta σ H fun vs H1 => ∃ ka kb a b xs ys, vs = [.ref a, .ref b] ∧ SqX ka K H1 a xs ∧ SqX kb K H1 b ys ∧ R (ItzS K ka kb a b) H1
theorem pi_zipS {X : Cx} {e e2 : Expr} {ta : TA} {p pos tpos q1 q2 : Pos} {elts : List Expr} {kk j : Nat} (hg : Gl X "zip") (hm : X.mg "zip" = none) (ha : PA X [e, e2] ta)
    (hs : starEach [e, e2] X.env = (false, eval e X.env) :: starEach [e2] X.env := by rfl)
    (hall : (backToKw pos (keywordEach [⟨some "strict", .Constant (.bool true) j q1, q2⟩] X.env)).all (·.1.isSome) = true := by rfl) (hks : (backToKw pos (keywordEach [⟨some "strict", .Constant (.bool true) j q1, q2⟩] X.env)).filterMap (·.1) = [Str.ofString "strict"] := by rfl)
    (hpl : ((backTo pos (starEach [e, e2] X.env)).any (·.1) || (backToKw pos (keywordEach [⟨some "strict", .Constant (.bool true) j q1, q2⟩] X.env)).any (·.1.isNone)) = false := by rfl) :
    PI X (.Tuple elts kk tpos) (.Call (.Name "zip" p) [e, e2] [⟨some "strict", .Constant (.bool true) j q1, q2⟩] pos) (iZipS X.K ta) := by
  refine ⟨fun pins s σ H R I h => ?_⟩
  refine wpAny_Call_Name_kw (ld_blt I hg hm PyProof.Rows.boot_zip (callWith_tkw hall (thn (ha.run pos pins s σ H _ I h) fun us s1 ⟨vs, H1, I1, r1, qq1⟩ => ?_) hpl hs))
  have hk : PK X [⟨some "strict", .Constant (.bool true) j q1, q2⟩] (tCons (tC (.bl true)) tNil) := pk_cons pe_bl pk_nil
  refine thn (hk.run pos pins s1 σ H1 (fun vs H2 => vs = [.bl true] ∧ H2 = H1) I1 ⟨rfl, rfl⟩) fun ks s2 ⟨zs, H2, I2, r2, ez, eH⟩ => ?_
  subst ez
  rw [eH] at I2
  clear I1
  obtain ⟨ka, kb, a, b, xs, ys, ex, hqx, hqy, q⟩ := qq1
  subst ex
  cases r1 with
  | cons r rr =>
    cases rr with
    | cons r' rr =>
      cases rr
      cases r
      cases r'
      cases r2 with
      | cons r2 rr2 =>
        cases rr2
        cases r2
        rw [hks]
        obtain ⟨its, rv, p1, l1⟩ := sqX_at I2 hqx
        obtain ⟨its2, rv2, p2, l2⟩ := sqX_at I2 hqy
        refine call_zipS (bgX ka a its.toArray) (bgX kb b its2.toArray) p1 p2 fun h' hz hTI hTO h1 h2 hk => pyIter_zipS hz ?_
        have I3 : Inv X pins σ H1 { s2 with heap := h' } := I2.kept (t' := s2.toks) hk
        have ha' : ∀ k : Nat, a ≠ s2.heap.objs.size + k := fun k => Nat.ne_of_lt (Nat.lt_of_lt_of_le l1 (Nat.le_add_right _ _))
        have hb' : ∀ k : Nat, b ≠ s2.heap.objs.size + k := fun k => Nat.ne_of_lt (Nat.lt_of_lt_of_le l2 (Nat.le_add_right _ _))
        have S : ZipSep2 (s2.heap.objs.size + 4) (s2.heap.objs.size + 2) (s2.heap.objs.size + 3) s2.heap.objs.size (s2.heap.objs.size + 1) [s2.heap.objs.size, a] [s2.heap.objs.size + 1, b] :=
          zip_sep2 (N := s2.heap.objs.size) (fp1 := [a]) (fp2 := [b]) (fun c hc => by rw [List.mem_singleton.mp hc]; exact l1) (fun c hc => by rw [List.mem_singleton.mp hc]; exact l2)
        refine ⟨s2.heap.objs.size + 4, [s2.heap.objs.size + 4, s2.heap.objs.size + 2, s2.heap.objs.size + 3, s2.heap.objs.size, s2.heap.objs.size + 1], _, _, H1, rfl, I3, turn_zipS (ka := ka) (kb := kb) S (ha' 0) (hb' 1), ⟨hz, hTI, ⟨_, _, hTO⟩, itX_of h1, itX_of h2⟩, fun c hcm => ?_, q⟩
        have e' : c = s2.heap.objs.size + 4 ∨ c = s2.heap.objs.size + 2 ∨ c = s2.heap.objs.size + 3 ∨ c = s2.heap.objs.size ∨ c = s2.heap.objs.size + 1 := by simpa using hcm
        have hle : s2.heap.objs.size ≤ c := by
          rcases e' with z | z | z | z | z <;> rw [z] <;> first | exact Nat.le_add_right _ _ | exact Nat.le_refl _
        exact I2.fpOk hle (I2.hok.fresh hle)
/-! ### in the machine -/
def kdOf (h : Mh) (w : W) : Option (Bool × List W) := match seqL h w with
  | some xs => some (true, xs)
  | none => (seqT h w).map fun xs => (false, xs)
def jZ2 (ka kb : Bool) (a b : W) (xs ys : List W) : ItM := ⟨xs.length, fun i h => if kdOf h a = some (ka, xs) ∧ kdOf h b = some (kb, ys) then (match xs[i]?, ys[i]? with
  | some x, some y => some (.ref h.length, h ++ [.tup [x, y]])
  | _, _ => none) else none, fun h => decide (kdOf h a = some (ka, xs) ∧ kdOf h b = some (kb, ys))⟩
def iZp2 (m : MAx) : MIx := fun σ h => (m σ h).bind fun ws h' => match ws with
  | [a, b] => (match kdOf h' a, kdOf h' b with
    | some (ka, xs), some (kb, ys) => if xs.length = ys.length then .ok (jZ2 ka kb a b xs ys) h' else .no
    | _, _ => .no)
  | _ => .no
theorem kdOf_ok {K : Frag} {ρ : List Addr} {h : Mh} {H : Hp} {w : W} {k : Bool} {xs : List W} (rp : Rep K ρ h H) (e : kdOf h w = some (k, xs)) : ∃ i, w = .ref i ∧ SqX k K H (ρ.getD i 0) (cL K ρ xs) ∧ WfL h.length xs := by
  unfold kdOf at e
  cases q : seqL h w with
  | some ys =>
    rw [q] at e; cases e
    obtain ⟨i, h1, _, s, ww⟩ := seqL_ok rp q
    exact ⟨i, h1, s, ww⟩
  | none =>
    rw [q] at e
    cases q2 : seqT h w with
    | none => rw [q2] at e; cases e
    | some ys =>
      rw [q2] at e; cases e
      obtain ⟨i, h1, _, s, ww⟩ := seqT_ok rp q2
      exact ⟨i, h1, s, ww⟩
section
variable {K : Frag}
theorem itr_z2 {ρ0 : List Addr} {h0 : Mh} {H0 : Hp} {ka kb : Bool} {j j2 : Nat} {xs ys : List W} (r0 : Rep K ρ0 h0 H0) (hj : j < h0.length) (hj2 : j2 < h0.length) (hl : xs.length = ys.length) : ItR K ρ0 (jZ2 ka kb (.ref j) (.ref j2) xs ys) (ItzS K ka kb (ρ0.getD j 0) (ρ0.getD j2 0)) := by
  refine ⟨fun i ρ h h' H w hi l r e => ?_, fun ρ h H l r e => ?_⟩
  · have e : (if kdOf h (.ref j) = some (ka, xs) ∧ kdOf h (.ref j2) = some (kb, ys) then (match xs[i]?, ys[i]? with
      | some x, some y => some (W.ref h.length, h ++ [MO.tup [x, y]])
      | _, _ => none) else none) = some (w, h') := e
    split at e
    · rename_i q
      obtain ⟨_, ⟨⟩, s, ww⟩ := kdOf_ok r q.1
      obtain ⟨_, ⟨⟩, s2, ww2⟩ := kdOf_ok r q.2
      rw [getD_pre l (by rw [r0.len]; exact hj)] at s
      rw [getD_pre l (by rw [r0.len]; exact hj2)] at s2
      split at e
      · rename_i v v2 qx qy
        cases e
        refine ⟨⟨_, _, _, _, s, s2, by rw [List.getElem?_map, qx] <;> rfl, by rw [List.getElem?_map, qy] <;> rfl⟩, fun x H' hy => ?_⟩
        obtain ⟨T, y, y2, rfl, nT, rfl, hx, hx2⟩ := hy
        have hx := hx _ s
        have hx2 := hx2 _ s2
        rw [List.getElem?_map, qx] at hx
        rw [List.getElem?_map, qy] at hx2
        obtain rfl := (Option.some.inj hx).symm
        obtain rfl := (Option.some.inj hx2).symm
        exact new_pair (ws := [v, v2]) r nT (fun z hz => by
          rcases (show z = v ∨ z = v2 by simpa using hz) with rfl | rfl
          · exact ww _ (List.mem_of_getElem? qx)
          · exact ww2 _ (List.mem_of_getElem? qy))
      · cases e
    · cases e
  · have q : kdOf h (.ref j) = some (ka, xs) ∧ kdOf h (.ref j2) = some (kb, ys) := of_decide_eq_true e
    obtain ⟨_, ⟨⟩, s, ww⟩ := kdOf_ok r q.1
    obtain ⟨_, ⟨⟩, s2, ww2⟩ := kdOf_ok r q.2
    rw [getD_pre l (by rw [r0.len]; exact hj)] at s
    rw [getD_pre l (by rw [r0.len]; exact hj2)] at s2
    exact ⟨_, _, s, s2, by rw [List.length_map] <;> rfl, by rw [List.length_map]; exact hl.symm⟩
theorem mi_zip2 {X : Cx} {Wx : WX} {e e2 : Expr} {m : MAx} {p pos tpos q1 q2 : Pos} {elts : List Expr} {kk j : Nat} (hg : Gl X "zip") (hm : X.mg "zip" = none) (ha : MA X Wx [e, e2] m)
    (hs : starEach [e, e2] X.env = (false, eval e X.env) :: starEach [e2] X.env := by rfl)
    (hall : (backToKw pos (keywordEach [⟨some "strict", .Constant (.bool true) j q1, q2⟩] X.env)).all (·.1.isSome) = true := by rfl) (hks : (backToKw pos (keywordEach [⟨some "strict", .Constant (.bool true) j q1, q2⟩] X.env)).filterMap (·.1) = [Str.ofString "strict"] := by rfl)
    (hpl : ((backTo pos (starEach [e, e2] X.env)).any (·.1) || (backToKw pos (keywordEach [⟨some "strict", .Constant (.bool true) j q1, q2⟩] X.env)).any (·.1.isNone)) = false := by rfl) :
    MI X Wx (.Tuple elts kk tpos) (.Call (.Name "zip" p) [e, e2] [⟨some "strict", .Constant (.bool true) j q1, q2⟩] pos) (iZp2 m) := piI (pi_zipS hg hm ha hs hall hks hpl) fun σV H Q ⟨ρ, h, σ, rp, wf, hs, g⟩ => by
  subst hs
  refine ⟨ρ, h, σ, rp, wf, rfl, (Gd.bind (wf := WfL) g).imp fun ρ1 h1 ws H1 l1 r1 w1 g1 => ?_⟩
  split at g1
  · rename_i a b
    split at g1
    · rename_i ka xs kb ys qa qb
      split at g1
      · rename_i hl
        obtain ⟨i, rfl, s, _⟩ := kdOf_ok r1 qa
        obtain ⟨i2, rfl, s2, _⟩ := kdOf_ok r1 qb
        exact ⟨ka, kb, _, _, _, _, rfl, s, s2, g1 ρ1 H1 pre_rfl r1 trivial _ (itr_z2 r1 (w1 _ List.mem_cons_self) (w1 _ (List.mem_cons_of_mem _ List.mem_cons_self)) hl)⟩
      · exact g1.elim
    · exact g1.elim
  · exact g1.elim
end
end Mc

namespace Mc
open PySem PySem.Spec PyProof.Rows L2
/-! ### facts of own exception classes -/
def xclB (K : Frag) (C : Addr) (tl : List Value) (newId : String) : Bool := match K.lookup C with
  | some ⟨.type "type", _, .cls cd, sl⟩ => (match cd.mro, sl.toList with
    | .ref C' :: bm, [_, _, _, _, some (.builtin n), _] => C' == C && n == newId && !cd.hasDel && cd.hasDict && refsT tl bm
    | _, _ => false)
  | _ => false
theorem xclB_ok {K : Frag} {C : Addr} {tl : List Value} {newId : String} (q : xclB K C tl newId = true) : ∃ nm q N bs bm sn sub ab col dd k0 k1 k2 k3 k5, K.lookup C = some (excClassObj nm q C N bs bm true sn sub ab col dd k0 k1 k2 k3 k5 newId) ∧ refsT tl bm = true := by
  unfold xclB at q
  split at q
  · rename_i dd cd sl ho
    split at q
    · rename_i C' bm k0 k1 k2 k3 n k5 hm hs
      simp only [Bool.and_eq_true, beq_iff_eq, Bool.not_eq_true'] at q
      obtain ⟨⟨⟨⟨rfl, rfl⟩, hdel⟩, hd'⟩, ht⟩ := q
      obtain ⟨nm, bs, mro, ns, qn, hd, sn, sub, ab, col, del⟩ := cd
      dsimp only at hm hdel hd'
      subst hm hdel hd'
      have hsl : sl = #[k0, k1, k2, k3, some (.builtin n), k5] := by
        obtain ⟨l⟩ := sl
        simp only at hs
        rw [hs]
      subst hsl
      exact ⟨nm, qn, ns, bs, bm, sn, sub, ab, col, dd, k0, k1, k2, k3, k5, ho, ht⟩
    · cases q
  · cases q
def xcB (K : Frag) (C : Addr) : Bool := (xclB K C tlV "ValueError.__new__" || (xclB K C tlL "LookupError.__new__" || xclB K C tlA "ArithmeticError.__new__")) && (decide (PySem.W.findIn K (.ref C) "__setattr__" = some (some (.builtin "object.__setattr__"))) &&
  (decide (PySem.W.subIn K (.ref C) (.type "BaseException") = some true) && (decide (PySem.W.typeIn K (.ref C) = some (.type "type")) && PySem.W.keepIn K (.ref C))))
theorem xcB_ok {K : Frag} {C : Addr} (h : xcB K C = true) : XcC K C := by
  obtain ⟨h1, h⟩ := Bool.and_eq_true_iff.mp h
  obtain ⟨h2, h⟩ := Bool.and_eq_true_iff.mp h
  obtain ⟨h3, h⟩ := Bool.and_eq_true_iff.mp h
  obtain ⟨h4, h5⟩ := Bool.and_eq_true_iff.mp h
  refine ⟨?_, of_decide_eq_true h2, of_decide_eq_true h3, of_decide_eq_true h4, h5⟩
  rcases Bool.or_eq_true_iff.mp h1 with q | q
  · obtain ⟨nm, q, N, bs, bm, sn, sub, ab, col, dd, k0, k1, k2, k3, k5, a, b⟩ := xclB_ok q
    exact ⟨tlV, _, nm, q, N, bs, bm, sn, sub, ab, col, dd, k0, k1, k2, k3, k5, tlV_ok, a, b⟩
  · rcases Bool.or_eq_true_iff.mp q with q | q
    · obtain ⟨nm, q, N, bs, bm, sn, sub, ab, col, dd, k0, k1, k2, k3, k5, a, b⟩ := xclB_ok q
      exact ⟨tlL, _, nm, q, N, bs, bm, sn, sub, ab, col, dd, k0, k1, k2, k3, k5, tlL_ok, a, b⟩
    · obtain ⟨nm, q, N, bs, bm, sn, sub, ab, col, dd, k0, k1, k2, k3, k5, a, b⟩ := xclB_ok q
      exact ⟨tlA, _, nm, q, N, bs, bm, sn, sub, ab, col, dd, k0, k1, k2, k3, k5, tlA_ok, a, b⟩
def xnB (K : Frag) (C : Str) (fs : List Str) : Bool := fs.all fun f => decide (PySem.W.findIn K (.ref (He.ga K C)) f = some none)
theorem xnB_ok {K : Frag} {C : Str} {fs : List Str} (h : xnB K C fs = true) : ∀ f ∈ fs, PySem.W.findIn K (.ref (He.ga K C)) f = some none := fun f hf => of_decide_eq_true (List.all_eq_true.mp h f hf)
def xfAllB (K : Frag) (cs : List Str) (f : Str) : Bool := cs.all fun C => excB K C && decide (PySem.W.findIn K (.ref (He.ga K C)) f = some none)
theorem xfAll_ok {K : Frag} {cs : List Str} {f : Str} (h : xfAllB K cs f = true) : XfOk K cs f := fun C hC => by
  obtain ⟨h1, h2⟩ := Bool.and_eq_true_iff.mp (List.all_eq_true.mp h C hC)
  exact ⟨(excB_ok h1).1, of_decide_eq_true h2⟩
def exmB (K : Frag) (oks cs : List Str) : Bool := oks.all fun C => decide (PySem.W.exmAny K (.ref (He.ga K C)) (cs.map fun c => .ref (He.ga K c)) = some true)
def ExmOk (K : Frag) (oks cs : List Str) : Prop := ∀ C ∈ oks, PySem.W.exmAny K (.ref (He.ga K C)) (cs.map fun c => .ref (He.ga K c)) = some true
theorem exm_ok {K : Frag} {oks cs : List Str} (h : exmB K oks cs = true) : ExmOk K oks cs := fun C hC => of_decide_eq_true (List.all_eq_true.mp h C hC)
/-! ### raise, told -/
structure XI (P : Program) (w : World) (K : Frag) (mg : Mg) (base : Heap) (C : Str) (fs : List Str) : Prop where
  T : XcC K (He.ga K C)
  no : ∀ f ∈ fs, PySem.W.findIn K (.ref (He.ga K C)) f = some none
  ex : ∃ (fI : Addr) (fd : FuncData) (ps : List Str), PySem.W.findIn K (.ref (He.ga K C)) "__init__" = some (some (.ref fI)) ∧ PySem.W.typeIn K (.ref fI) = some (.type "function") ∧ FnOk P w K mg base CX0 1 fI fd ps (spI K fs) ∧ L2.Binds K fd ps []
section
variable {X : Cx} {Wx : WX} {C : Str} {fs : List Str} {ma : MAx} {e : Expr} {es : List Expr} {p pos pos' : Pos} {k : Nat}
theorem ms_raiseI (hc : X.calm = true) (tk : Takes X Wx) (I : XI X.prog X.w X.K X.mg X.base C fs) (hr : RoomG 2 X.A) (hg : Gl X C) (hm : X.mg C = some (.ref (He.ga X.K C))) (hlf : fs.length ≤ 1000) (ha : MA X Wx (e :: es) ma)
    (hdb : (C == ("__debug__" : Str)) = false := by decide) (he : starEach (e :: es) X.env = (false, eval e X.env) :: starEach es X.env := by rfl) (hpl : (backTo pos (starEach es X.env)).any (·.1) = false := by rfl) :
    MS X Wx (.Raise (some (.Call (.Name C p) (e :: es) [] pos)) none pos') (sRaise C fs ma) := by
  obtain ⟨fI, fd, ps, iC, tI, F1, hb⟩ := I.ex
  exact ms_raise hc tk I.T I.no iC tI F1 hr.rm hb hg hm hlf ha hdb he hpl
end
theorem xi_1 {P : Program} {w : World} {K : Frag} {mg : Mg} {base : Heap} {C x qual f : Str} {params : Arguments} {scope : Scope} {kws : List (Str × V)} {fA : Addr} {fd : FuncData} {p1 p2 p3 p4 : Pos}
    (T : XcC K (He.ga K C)) (no : ∀ g ∈ [f], PySem.W.findIn K (.ref (He.ga K C)) g = some none) (M : Meth K (He.ga K C) "__init__" fA) (D : FunD K x qual params [.Assign [.Attribute (.Name "self" p1) f p2] (.Name f p3) p4] scope [] kws fA fd) (S : FnScope ["self", f] ["self", f] scope)
    (v0 : Vis scope "self") (v1 : Vis scope f) (hb : ∀ (kV doc pm : Value) (an : Option Addr) (cdv ct : Value) (us : List Value), us.length = (["self", f] : List Str).length → bindArgs (PySem.W.fnOf x qual params [.Assign [.Attribute (.Name "self" p1) f p2] (.Name f p3) p4] scope .none kV doc pm an cdv ct) ⟨us, []⟩ = pure ((["self", f] : List Str).zip us))
    (hd : (f == ("__debug__" : Str)) = false := by decide) (hcd : (f == ("__classdict__" : Str)) = false := by decide) : XI P w K mg base C [f] :=
  ⟨T, no, fA, fd, ["self", f], M.at_, beq_iff_eq.mp M.fn, init1 D S v0 v1 hd hcd, FunD.bindsN D hb⟩
theorem xi_2 {P : Program} {w : World} {K : Frag} {mg : Mg} {base : Heap} {C x qual f g : Str} {params : Arguments} {scope : Scope} {kws : List (Str × V)} {fA : Addr} {fd : FuncData} {p1 p2 p3 p4 q1 q2 q3 q4 : Pos}
    (T : XcC K (He.ga K C)) (no : ∀ z ∈ [f, g], PySem.W.findIn K (.ref (He.ga K C)) z = some none) (M : Meth K (He.ga K C) "__init__" fA) (D : FunD K x qual params [.Assign [.Attribute (.Name "self" p1) f p2] (.Name f p3) p4, .Assign [.Attribute (.Name "self" q1) g q2] (.Name g q3) q4] scope [] kws fA fd) (S : FnScope ["self", f, g] ["self", f, g] scope)
    (v0 : Vis scope "self") (v1 : Vis scope f) (v2 : Vis scope g) (hb : ∀ (kV doc pm : Value) (an : Option Addr) (cdv ct : Value) (us : List Value), us.length = (["self", f, g] : List Str).length → bindArgs (PySem.W.fnOf x qual params [.Assign [.Attribute (.Name "self" p1) f p2] (.Name f p3) p4, .Assign [.Attribute (.Name "self" q1) g q2] (.Name g q3) q4] scope .none kV doc pm an cdv ct) ⟨us, []⟩ = pure ((["self", f, g] : List Str).zip us))
    (hd : (f == ("__debug__" : Str)) = false := by decide) (hcd : (f == ("__classdict__" : Str)) = false := by decide) (hd2 : (g == ("__debug__" : Str)) = false := by decide) (hcd2 : (g == ("__classdict__" : Str)) = false := by decide) : XI P w K mg base C [f, g] :=
  ⟨T, no, fA, fd, ["self", f, g], M.at_, beq_iff_eq.mp M.fn, init2 D S v0 v1 v2 hd hcd hd2 hcd2, FunD.bindsN D hb⟩
/-! ### while an exception is handled -/
theorem RoomT.units {k : Nat} {A : Around} (r : RoomT k A) : A.units + 64 < cLine := by have := r.un; omega
theorem RoomG.mark {k : Nat} {A : Around} {v : Option Value} (r : RoomG k A) : RoomT k (A.mark v) := ⟨r.rm.dp, r.rm.un, r.gd⟩
section
variable {X : Cx} {Wx : WX} {e : Expr} {m : MAx} {p pos : Pos} {k : Nat}
theorem call_reprT (hr : RoomT k X.A) : CallR X (.builtin "repr") (rReprD X.K) := by
  intro pins s σ H xs us Q I r h
  obtain ⟨x, d, rfl, hd, hs, hdp, hz, hnd, q⟩ := h
  obtain ⟨u, rfl, rx⟩ := vals1 r
  have hu := hr.un
  obtain ⟨as, rr⟩ := Dp.reads I d x u hd rx
  cases x with
  | ref a =>
    cases rx
    refine repr_of_reads' rr hs (PyData.noDict_hsm hnd) hr.gd (by omega) (fun b o e => e) (fun h' u' tk hk => ?_) hz
    exact I.after ⟨.str d.shown, H, rfl, I.bare, Un.kept hk, I.hok.kept hk, ⟨_, rfl⟩, q⟩
  | non =>
    cases (show u = Value.none from rx)
    cases hd
    exact PySem.P.repr_of_none ⟨.str _, H, I.tok _, ⟨_, rfl⟩, q⟩
  | bl b =>
    cases (show u = Value.bool b from rx)
    cases hd
    exact PySem.P.repr_of_bool ⟨.str _, H, I.tok _, ⟨_, rfl⟩, q⟩
  | int i =>
    obtain ⟨t, e⟩ := (show ∃ t, u = Value.int i t from rx)
    cases e
    cases hd
    exact PySem.P.repr_of_int (of_decide_eq_true hs) ⟨.str _, H, I.tok _, ⟨_, rfl⟩, q⟩
  | str x =>
    obtain ⟨t, e⟩ := (show ∃ t, u = Value.str x t from rx)
    cases e
    cases hd
    exact PySem.P.repr_of_str ⟨.str _, H, I.tok _, ⟨_, rfl⟩, q⟩ hz
  | _ => cases hd
theorem me_reprT (hr : RoomT k X.A) (hg : Gl X "repr") (hm : X.mg "repr" = none) (ha : MA X Wx [e] m) (he : starEach [e] X.env = (false, eval e X.env) :: starEach [] X.env := by rfl) (hpl : (backTo pos (starEach [] X.env)).any (·.1) = false := by rfl) : ME X Wx (.Call (.Name "repr" p) [e] [] pos) (mArg kRepr m) :=
  me_callB (call_reprT hr) cm_repr hg hm (by decide +kernel) ha (by decide) (by decide) he hpl
end
/-- the clause's names -/
theorem tst_1 {X : Cx} {x : Str} {np : Pos} (g : Gl X x) (m : X.mg x = some (.ref (He.ga X.K x))) (d : (x == ("__debug__" : Str)) = false := by decide) : Tst X (.Name x np) ([x].map fun c => .ref (He.ga X.K c)) := .one ⟨g, d, .inl m⟩
theorem tst_3 {X : Cx} {x y z : Str} {p q r pos : Pos} {k : Nat} (g1 : Gl X x) (m1 : X.mg x = some (.ref (He.ga X.K x))) (g2 : Gl X y) (m2 : X.mg y = some (.ref (He.ga X.K y))) (g3 : Gl X z) (m3 : X.mg z = some (.ref (He.ga X.K z)))
    (d1 : (x == ("__debug__" : Str)) = false := by decide) (d2 : (y == ("__debug__" : Str)) = false := by decide) (d3 : (z == ("__debug__" : Str)) = false := by decide) : Tst X (.Tuple [.Name x p, .Name y q, .Name z r] k pos) ([x, y, z].map fun c => .ref (He.ga X.K c)) := .tup ⟨g1, d1, .inl m1⟩ ⟨g2, d2, .inl m2⟩ ⟨g3, d3, .inl m3⟩
section
variable {P : Program} {w : World} {K : Frag} {mg : Mg} {base : Heap} {k : Nat}
theorem strs_nil : ∀ q ∈ ([] : List (Str × Fm)), StrD P w K mg base k q.1 q.2 := fun _ z => by cases z
theorem strs_cons {C : Str} {F : Fm} {ls : List (Str × Fm)} (h : StrD P w K mg base k C F) (r : ∀ q ∈ ls, StrD P w K mg base k q.1 q.2) : ∀ q ∈ (C, F) :: ls, StrD P w K mg base k q.1 q.2 := fun q hq => by
  rcases List.mem_cons.mp hq with e | e
  · rw [e]; exact h
  · exact r q e
end
end Mc

/-! repr of values with {} in them -/
namespace Mc
open PySem PySem.Spec PyProof.Rows L2
def SmOk (base : Heap) : Prop := ∃ o, base.get? sysModules = some o ∧ o.cls = .type "dict"
mutual
inductive Dx (K : Frag) (H : Hp) : V → PyData → Prop
  | non : Dx K H .non .none
  | bl (b : Bool) : Dx K H (.bl b) (.bool b)
  | int (i : Int) : Dx K H (.int i) (.int i)
  | str (x : Str) : Dx K H (.str x) (.str x)
  | lst {a : Addr} {xs : List V} {ds : List PyData} : SqL K H a xs → DxAll K H xs ds → Dx K H (.ref a) (.list ds)
  | tup {a : Addr} {xs : List V} {ds : List PyData} : SqT K H a xs → DxAll K H xs ds → Dx K H (.ref a) (.tuple ds)
  | dk0 {a : Addr} : H a = some (.dK []) → Dx K H (.ref a) (.dict [])
inductive DxAll (K : Frag) (H : Hp) : List V → List PyData → Prop
  | nil : DxAll K H [] []
  | cons {v : V} {vs : List V} {d : PyData} {ds : List PyData} : Dx K H v d → DxAll K H vs ds → DxAll K H (v :: vs) (d :: ds)
end
section
variable {X : Cx} {pins : List (Addr × Obj)} {σ : L2.St} {H : Hp} {s : Shared}
theorem not_sm (I : Inv X pins σ H s) (S : SmOk X.base) {a : Addr} {o : Obj} (e : s.heap.get? a = some o) (c : o.cls = .type "list") : sysModules ≠ a := fun z => by
  obtain ⟨o2, e2, c2⟩ := S
  have e3 := (I.bs _ _ e2).1
  rw [z, e] at e3
  cases e3
  rw [c] at c2
  exact absurd (Value.type.inj c2) (by decide)
mutual
theorem Dx.reads (I : Inv X pins σ H s) (S : SmOk X.base) : ∀ (d : PyData) (v : V) (u : Value), Dx X.K H v d → RelV v u → ∃ as, Reads s.heap u d as ∧ sysModules ∉ as
  | .none, _, _, h, r => by
    cases h
    cases r
    exact ⟨_, Reads.none, by simp⟩
  | .bool b, _, _, h, r => by
    cases h
    cases r
    exact ⟨_, Reads.bool b, by simp⟩
  | .int i, _, _, h, r => by
    cases h
    obtain ⟨t, rfl⟩ := r
    exact ⟨_, Reads.int i t, by simp⟩
  | .str x, _, _, h, r => by
    cases h
    obtain ⟨t, rfl⟩ := r
    exact ⟨_, Reads.str x t, by simp⟩
  | .list ds, _, _, h, r => by
    cases h with
    | lst hs ha =>
      cases r
      obtain ⟨its, rv, ⟨o, n, ho, hc, _, hd⟩, _⟩ := I.list hs
      obtain ⟨as, hr, ns⟩ := Dx.readsAll I S ds _ its ha rv
      refine ⟨_, Reads.list ho hc hd hr, fun z => ?_⟩
      rcases List.mem_cons.mp z with z | z
      · exact not_sm I S ho hc z
      · exact ns z
  | .tuple ds, _, _, h, r => by
    cases h with
    | tup hs ha =>
      cases r
      obtain ⟨its, rv, ⟨o, ho, hc, n, hd⟩, _⟩ := I.tuple hs
      obtain ⟨as, hr, ns⟩ := Dx.readsAll I S ds _ its ha rv
      exact ⟨_, Reads.tuple ho hc hd hr, ns⟩
  | .dict ds, _, _, h, r => by
    cases h with
    | dk0 ha =>
      cases r
      obtain ⟨_, hsm, vs, rel, o, es, ep, ho, hx, hd, _, hp, _⟩ := dk_of I.hok ha
      cases rel
      have e0 : es.toList = [] := by
        cases hq : es.toList with
        | nil => rfl
        | cons a l => rw [hq] at hp; cases hp
      refine ⟨_, Reads.dict (kvs := []) (as := []) (bs := []) ho hx.1 hd (by rw [e0]; exact ReadsAll.nil) (by rw [e0]; exact ReadsAll.nil), ?_⟩
      intro z
      rw [List.append_nil] at z
      rw [← List.mem_singleton.mp z] at hsm
      simp at hsm
theorem Dx.readsAll (I : Inv X pins σ H s) (S : SmOk X.base) : ∀ (ds : List PyData) (vs : List V) (us : List Value), DxAll X.K H vs ds → Vals vs us → ∃ as, ReadsAll s.heap us ds as ∧ sysModules ∉ as
  | [], _, _, h, r => by
    cases h
    cases r
    exact ⟨_, ReadsAll.nil, by simp⟩
  | d :: ds, _, _, h, r => by
    cases h with
    | cons h1 h2 =>
      cases r with
      | cons r1 r2 =>
        obtain ⟨as, q1, n1⟩ := Dx.reads I S d _ _ h1 r1
        obtain ⟨bs, q2, n2⟩ := Dx.readsAll I S ds _ _ h2 r2
        refine ⟨_, ReadsAll.cons q1 q2, fun z => ?_⟩
        rcases List.mem_append.mp z with z | z
        · exact n1 z
        · exact n2 z
end
end
/-! ### the machine's reader -/
def rx : Nat → Mh → W → Option PyData
  | _, _, .non => some .none
  | _, _, .bl b => some (.bool b)
  | _, _, .int i => some (.int i)
  | _, _, .str x => some (.str x)
  | 0, _, _ => none
  | n + 1, h, .ref i => match h[i]? with
    | some (.lst xs) => (rdL (rx n h) xs).map .list
    | some (.frl xs) => (rdL (rx n h) xs).map .list
    | some (.tup xs) => (rdL (rx n h) xs).map .tuple
    | some (.ktp xs) => (rdL (rx n h) xs).map .tuple
    | some (.dK []) => some (.dict [])
    | _ => none
  | _, _, _ => none
section
variable {K : Frag} {ρ : List Addr} {h : Mh} {H : Hp}
theorem rxL_ok {f : W → Option PyData} (hf : ∀ w d, f w = some d → Dx K H (cV K ρ w) d) : ∀ {xs : List W} {ds : List PyData}, rdL f xs = some ds → DxAll K H (cL K ρ xs) ds
  | [], _, e => by cases e; exact .nil
  | x :: l, ds, e => by
    unfold rdL at e
    cases q1 : f x with
    | none => rw [q1] at e; cases e
    | some d =>
      cases q2 : rdL f l with
      | none => rw [q1, q2] at e; cases e
      | some ds' =>
        rw [q1, q2] at e
        cases e
        exact .cons (hf _ _ q1) (rxL_ok hf q2)
theorem rx_ok (rp : Rep K ρ h H) : ∀ (n : Nat) (w : W) (d : PyData), rx n h w = some d → Dx K H (cV K ρ w) d := by
  intro n
  induction n with
  | zero =>
    intro w d e
    cases w <;> first | (cases e; first | exact .non | exact .bl _ | exact .int _ | exact .str _) | (unfold rx at e; cases e)
  | succ n ih =>
    intro w d e
    cases w with
    | ref i =>
      have e : (match h[i]? with
        | some (.lst xs) => (rdL (rx n h) xs).map PyData.list
        | some (.frl xs) => (rdL (rx n h) xs).map PyData.list
        | some (.tup xs) => (rdL (rx n h) xs).map PyData.tuple
        | some (.ktp xs) => (rdL (rx n h) xs).map PyData.tuple
        | some (.dK []) => some (PyData.dict [])
        | _ => none) = some d := e
      have fin : ∀ {xs : List W} {c : List PyData → PyData}, (rdL (rx n h) xs).map c = some d → ∃ ds, DxAll K H (cL K ρ xs) ds ∧ d = c ds := fun {xs c} e => by
        cases q : rdL (rx n h) xs with
        | none => rw [q] at e; cases e
        | some ds => rw [q] at e; exact ⟨ds, rxL_ok (fun w d => ih w d) q, (Option.some.inj e).symm⟩
      cases q : h[i]? with
      | none => rw [q] at e; cases e
      | some o =>
        rw [q] at e
        cases o with
        | lst xs =>
          obtain ⟨ds, hd, rfl⟩ := fin e
          obtain ⟨_, ⟨⟩, _, s, _⟩ := seqL_ok (w := .ref i) (xs := xs) rp (by simp only [seqL, q])
          exact .lst s hd
        | frl xs =>
          obtain ⟨ds, hd, rfl⟩ := fin e
          obtain ⟨_, ⟨⟩, _, s, _⟩ := seqL_ok (w := .ref i) (xs := xs) rp (by simp only [seqL, q])
          exact .lst s hd
        | tup xs =>
          obtain ⟨ds, hd, rfl⟩ := fin e
          obtain ⟨_, ⟨⟩, _, s, _⟩ := seqT_ok (w := .ref i) (xs := xs) rp (by simp only [seqT, q])
          exact .tup s hd
        | ktp xs =>
          obtain ⟨ds, hd, rfl⟩ := fin e
          obtain ⟨_, ⟨⟩, _, s, _⟩ := seqT_ok (w := .ref i) (xs := xs) rp (by simp only [seqT, q])
          exact .tup s hd
        | dK kvs =>
          cases kvs with
          | nil => cases e; exact .dk0 (rp.obj i _ q)
          | cons a l => cases e
        | _ => cases e
    | non => cases e; exact .non
    | bl b => cases e; exact .bl b
    | int i => cases e; exact .int i
    | str x => cases e; exact .str x
    | _ => unfold rx at e; cases e
end
def kReprX (ws : List W) (h : Mh) : R W := match ws with
  | [x] => match rx 40 h x with
    | some d => if d.showable && decide (d.depth ≤ 64) && decide (d.shown.length ≤ lim) then .ok (.str d.shown) h else .no
    | none => .no
  | _ => .no
def rReprX (K : Frag) : List V → Hp → VK → Prop := fun xs H Q => ∃ (x : V) (d : PyData), xs = [x] ∧ Dx K H x d ∧ d.showable = true ∧ d.depth ≤ 64 ∧ d.shown.length ≤ sizeLine ∧ Q (.str d.shown) H
theorem cm_reprX {K : Frag} : CallM K (rReprX K) kReprX := fun E ρ h H ws Q rp ww gd => by
  unfold kReprX at gd
  split at gd
  · split at gd
    · rename_i d hd
      split at gd
      · rename_i hz
        simp only [Bool.and_eq_true, decide_eq_true_eq] at hz
        obtain ⟨⟨z1, z2⟩, z3⟩ := hz
        exact ⟨_, d, rfl, rx_ok rp _ _ _ hd, z1, z2, lim_sz z3, gd_ok rp gd trivial⟩
      · exact gd.elim
    · exact gd.elim
  · exact gd.elim
section
variable {X : Cx} {Wx : WX} {e : Expr} {m : MAx} {p pos : Pos} {k : Nat}
theorem call_reprX (S : SmOk X.base) (hr : RoomT k X.A) : CallR X (.builtin "repr") (rReprX X.K) := by
  intro pins s σ H xs us Q I r h
  obtain ⟨x, d, rfl, hd, hs, hdp, hz, q⟩ := h
  obtain ⟨u, rfl, rx⟩ := vals1 r
  have hu := hr.un
  obtain ⟨as, rr, ns⟩ := Dx.reads I S d x u hd rx
  cases x with
  | ref a =>
    cases rx
    refine repr_of_reads' rr hs (fun _ => ns) hr.gd (by omega) (fun b o e => e) (fun h' u' tk hk => ?_) hz
    exact I.after ⟨.str d.shown, H, rfl, I.bare, Un.kept hk, I.hok.kept hk, ⟨_, rfl⟩, q⟩
  | non =>
    cases (show u = Value.none from rx)
    cases hd
    exact PySem.P.repr_of_none ⟨.str _, H, I.tok _, ⟨_, rfl⟩, q⟩
  | bl b =>
    cases (show u = Value.bool b from rx)
    cases hd
    exact PySem.P.repr_of_bool ⟨.str _, H, I.tok _, ⟨_, rfl⟩, q⟩
  | int i =>
    obtain ⟨t, e⟩ := (show ∃ t, u = Value.int i t from rx)
    cases e
    cases hd
    exact PySem.P.repr_of_int (of_decide_eq_true hs) ⟨.str _, H, I.tok _, ⟨_, rfl⟩, q⟩
  | str x =>
    obtain ⟨t, e⟩ := (show ∃ t, u = Value.str x t from rx)
    cases e
    cases hd
    exact PySem.P.repr_of_str ⟨.str _, H, I.tok _, ⟨_, rfl⟩, q⟩ hz
  | _ => cases hd
theorem me_reprX (S : SmOk X.base) (hr : RoomG k X.A) (hg : Gl X "repr") (hm : X.mg "repr" = none) (ha : MA X Wx [e] m) (he : starEach [e] X.env = (false, eval e X.env) :: starEach [] X.env := by rfl) (hpl : (backTo pos (starEach [] X.env)).any (·.1) = false := by rfl) : ME X Wx (.Call (.Name "repr" p) [e] [] pos) (mArg kReprX m) :=
  me_callB (call_reprX S hr.tepid) cm_reprX hg hm (by decide +kernel) ha (by decide) (by decide) he hpl
theorem me_reprXT (S : SmOk X.base) (hr : RoomT k X.A) (hg : Gl X "repr") (hm : X.mg "repr" = none) (ha : MA X Wx [e] m) (he : starEach [e] X.env = (false, eval e X.env) :: starEach [] X.env := by rfl) (hpl : (backTo pos (starEach [] X.env)).any (·.1) = false := by rfl) : ME X Wx (.Call (.Name "repr" p) [e] [] pos) (mArg kReprX m) :=
  me_callB (call_reprX S hr) cm_reprX hg hm (by decide +kernel) ha (by decide) (by decide) he hpl
end
/-! ### the head -/
def smB (g : Addr → Option Obj) : Bool := match g sysModules with
  | some o => decide (o.cls = .type "dict")
  | none => false
theorem smB_ok {h : Heap} (e : smB h.get? = true) : SmOk h := by
  unfold smB at e
  split at e
  · rename_i o q
    exact ⟨o, q, of_decide_eq_true e⟩
  · cases e
/-- the hook, with what stands at sys.modules -/
def hookS (n : Nat) (fa : List He.Fa) (fn : List He.DefD) (ts : List He.Tab) (tf : List He.Defn) (ex : Frag → Bool) : PySem.W.Hook where
  α := He.AlX × Bool
  obs := fun s => (He.obsX n fa fn ts tf ex s.heap.get?, smB s.heap.get?)
  val := fun w => (He.valX fn ts w, true)
  says := fun w h => (∃ K : Frag, K.In h ∧ He.SaysX fa fn ts tf ex w h K) ∧ SmOk h
  of := fun s w e => ⟨(He.hookX n fa fn ts tf ex).of s w (congrArg Prod.fst e), smB_ok (congrArg Prod.snd e)⟩
  keeps := fun w h h' hh k => ⟨(He.hookX n fa fn ts tf ex).keeps w h h' hh.1 k, by obtain ⟨o, e, c⟩ := hh.2; exact ⟨o, k _ _ e, c⟩⟩
theorem law_endS {l : PySem.W.OpenLaw} {n k : Nat} {q : Program} {loose : List Str} {XP : (Str → Option Value) → Heap → Prop} {YP : World → Heap → Prop} {d : DefRec} {x : Str}
    (hn : l.most = some n) (hn2 : n ≤ sizeLine) (hdf : d.params.defaults = []) (hr : Room k callerA)
    (F : ∀ (w : World) (mg : Mg) (fa : Addr) (h : Heap), YP w h → h.Ns mainGlobals mg → mg d.name = some (.ref fa) →
      ∃ (K : Frag) (fd : FuncData) (Fl : Fm), K.In h ∧ (∀ (s : Shared) (u : Value), BindsTo s fd ⟨[u], []⟩ [(x, u)]) ∧
        (∀ ns : List Int, ns.length ≤ n → ∃ h', Fl [.ref 0] [.frl (ns.map W.int)] = .ok (.bl true) h') ∧
        ∀ base : Heap, K.In base → base.Ns mainGlobals mg → SmOk base → FnM l.prog w K mg base k fa fd [x] Fl) (hY : ∀ w h, YP w h → SmOk h) :
    PySem.W.WalkO q loose XP YP l.row.toRowW d [] (fun f vs => PySem.call f vs) := by
  refine Att.attach_call hn hdf fun w s₀ s₁ mg mb fa o pm cd doc a vs ns G Y ho hd hcd hmg hobj hints hlen hg => ?_
  obtain ⟨K, fd, Fl, KX, hb, hsp, hF⟩ := F w mg fa _ Y G.T.g hmg
  obtain ⟨o1, e1, c1⟩ := hY _ _ Y
  refine law_runS (Sm := SmOk) KX G.T.g G.T.b G.T.builtins G.T.nolimit hg hobj hints (Nat.le_trans hlen hn2) hr (fun H hA => ⟨o1, hidT_get e1 ?_, c1⟩) hF hb (hsp ns hlen)
  cases q : H sysModules with
  | none => rfl
  | some u =>
    have eb := hA sysModules (by rw [q]; simp)
    rw [eb, hobj] at e1
    cases e1
    exact absurd (Value.type.inj c1) (by decide)
end Mc

/-! trees: values without a heap. What is owned may change, what is frozen never does -/
namespace Mc
open PySem
inductive T where
  | non | bl (b : Bool) | int (i : Int) | str (x : Str) | ty (n : String) | glo (x : Str)
  | tup (xs : List T) | lst (xs : List T) | frl (xs : List T) | ktp (xs : List T)
  | dK (kvs : List (L2.Key × T)) | ins (C : Str) (fs : List (Str × T)) | exn (C : Str) (fs : List (Str × T))
structure Wd where
  F : Nat → Prop
  O : Nat → Prop
  h : Mh
structure Wd.Ok (a : Wd) : Prop where
  dj : ∀ r, a.O r → ¬ a.F r
  ol : ∀ r, a.O r → r < a.h.length
  fl : ∀ r, a.F r → r < a.h.length
inductive Rp (a : Wd) : T → W → Prop
  | non : Rp a .non .non
  | bl {b : Bool} : Rp a (.bl b) (.bl b)
  | int {i : Int} : Rp a (.int i) (.int i)
  | str {x : Str} : Rp a (.str x) (.str x)
  | ty {n : String} : Rp a (.ty n) (.ty n)
  | glo {x : Str} : Rp a (.glo x) (.glo x)
  | tup {r : Nat} {ts : List T} {ws : List W} (f : a.F r) (e : a.h[r]? = some (.tup ws)) (l : ts.length = ws.length) (c : ∀ (i : Nat) t w, ts[i]? = some t → ws[i]? = some w → Rp a t w) : Rp a (.tup ts) (.ref r)
  | lst {r : Nat} {ts : List T} {ws : List W} (f : a.F r) (e : a.h[r]? = some (.lst ws)) (l : ts.length = ws.length) (c : ∀ (i : Nat) t w, ts[i]? = some t → ws[i]? = some w → Rp a t w) : Rp a (.lst ts) (.ref r)
  | frl {r : Nat} {ts : List T} {ws : List W} (f : a.F r) (e : a.h[r]? = some (.frl ws)) (l : ts.length = ws.length) (c : ∀ (i : Nat) t w, ts[i]? = some t → ws[i]? = some w → Rp a t w) : Rp a (.frl ts) (.ref r)
  | ktp {r : Nat} {ts : List T} {ws : List W} (f : a.F r) (e : a.h[r]? = some (.ktp ws)) (l : ts.length = ws.length) (c : ∀ (i : Nat) t w, ts[i]? = some t → ws[i]? = some w → Rp a t w) : Rp a (.ktp ts) (.ref r)
  | dK {r : Nat} {ts : List (L2.Key × T)} {ws : List (L2.Key × W)} (f : a.F r) (e : a.h[r]? = some (.dK ws)) (l : ts.map (·.1) = ws.map (·.1)) (c : ∀ (i : Nat) t w, ts[i]? = some t → ws[i]? = some w → Rp a t.2 w.2) : Rp a (.dK ts) (.ref r)
  | ins {r : Nat} {C : Str} {dx : Nat} {ts : List (Str × T)} {ws : List (Str × W)} (f : a.F r) (e : a.h[r]? = some (.ins C dx ws)) (l : ts.map (·.1) = ws.map (·.1)) (c : ∀ (i : Nat) t w, ts[i]? = some t → ws[i]? = some w → Rp a t.2 w.2) : Rp a (.ins C ts) (.ref r)
  | exn {r d : Nat} {C : Str} {ts : List (Str × T)} {ws : List (Str × W)} (f : a.F r) (e : a.h[r]? = some (.exc C (some d))) (f2 : a.F d) (e2 : a.h[d]? = some (.xd ws)) (l : ts.map (·.1) = ws.map (·.1)) (c : ∀ (i : Nat) t w, ts[i]? = some t → ws[i]? = some w → Rp a t.2 w.2) : Rp a (.exn C ts) (.ref r)
def RpL (a : Wd) (ts : List T) (ws : List W) : Prop := ts.length = ws.length ∧ ∀ (i : Nat) t w, ts[i]? = some t → ws[i]? = some w → Rp a t w
def RpF (a : Wd) {κ : Type} (ts : List (κ × T)) (ws : List (κ × W)) : Prop := ts.map (·.1) = ws.map (·.1) ∧ ∀ (i : Nat) t w, ts[i]? = some t → ws[i]? = some w → Rp a t.2 w.2
/-- later -/
structure Fr (a b : Wd) : Prop where
  fm : ∀ r, a.F r → b.F r
  fn : ∀ r, b.F r → a.F r ∨ a.O r ∨ a.h.length ≤ r
  on : ∀ r, b.O r → a.O r ∨ a.h.length ≤ r
  len : a.h.length ≤ b.h.length
  keep : ∀ (r : Nat) (o : MO), a.h[r]? = some o → ¬ a.O r → b.h[r]? = some o
/-- later, and nothing owned was touched -/
structure Gr (a b : Wd) : Prop where
  o : b.O = a.O
  pre : a.h <+: b.h
  fm : ∀ r, a.F r → b.F r
  fn : ∀ r, b.F r → a.F r ∨ a.h.length ≤ r
section
variable {a b c : Wd} {t : T} {w : W} {ts us : List T} {ws xs : List W} {r : Nat}
theorem pre_get {h h' : Mh} {o : MO} (p : h <+: h') (e : h[r]? = some o) : h'[r]? = some o := by
  obtain ⟨t, rfl⟩ := p
  rw [List.getElem?_append_left (List.getElem?_eq_some_iff.mp e).1]; exact e
theorem Fr.rfl' : Fr a a := ⟨fun _ z => z, fun _ z => .inl z, fun _ z => .inl z, Nat.le_refl _, fun _ _ e _ => e⟩
theorem Fr.trans (p : Fr a b) (q : Fr b c) : Fr a c := by
  have lt : ∀ r, b.O r → r < a.h.length → a.O r := fun r z l => (p.on r z).elim id fun y => absurd l (Nat.not_lt.mpr y)
  refine ⟨fun r z => q.fm r (p.fm r z), fun r z => ?_, fun r z => ?_, Nat.le_trans p.len q.len, fun r o e n => ?_⟩
  · rcases q.fn r z with y | y | y
    · exact p.fn r y
    · exact (p.on r y).elim (fun x => .inr (.inl x)) fun x => .inr (.inr x)
    · exact .inr (.inr (Nat.le_trans p.len y))
  · exact (q.on r z).elim (fun y => p.on r y) fun y => .inr (Nat.le_trans p.len y)
  · exact q.keep r o (p.keep r o e n) fun y => n (lt r y (List.getElem?_eq_some_iff.mp e).1)
theorem Gr.rfl' : Gr a a := ⟨rfl, List.prefix_refl _, fun _ z => z, fun _ z => .inl z⟩
theorem Gr.trans (p : Gr a b) (q : Gr b c) : Gr a c := ⟨q.o.trans p.o, p.pre.trans q.pre, fun r z => q.fm r (p.fm r z), fun r z => (q.fn r z).elim (fun y => p.fn r y) fun y => .inr (Nat.le_trans p.pre.length_le y)⟩
theorem Gr.fr (p : Gr a b) : Fr a b := ⟨p.fm, fun r z => (p.fn r z).imp id .inr, fun r z => .inl (p.o ▸ z), p.pre.length_le, fun r o e _ => pre_get p.pre e⟩
theorem Rp.mono (ok : a.Ok) (f : Fr a b) (q : Rp a t w) : Rp b t w := by
  have k : ∀ {r : Nat} {o : MO}, a.F r → a.h[r]? = some o → b.h[r]? = some o := fun z e => f.keep _ _ e fun y => ok.dj _ y z
  induction q with
  | non => exact .non
  | bl => exact .bl
  | int => exact .int
  | str => exact .str
  | ty => exact .ty
  | glo => exact .glo
  | tup z e l _ ih => exact .tup (f.fm _ z) (k z e) l ih
  | lst z e l _ ih => exact .lst (f.fm _ z) (k z e) l ih
  | frl z e l _ ih => exact .frl (f.fm _ z) (k z e) l ih
  | ktp z e l _ ih => exact .ktp (f.fm _ z) (k z e) l ih
  | dK z e l _ ih => exact .dK (f.fm _ z) (k z e) l ih
  | ins z e l _ ih => exact .ins (f.fm _ z) (k z e) l ih
  | exn z e z2 e2 l _ ih => exact .exn (f.fm _ z) (k z e) (f.fm _ z2) (k z2 e2) l ih
theorem RpL.mono (ok : a.Ok) (f : Fr a b) (q : RpL a ts ws) : RpL b ts ws := ⟨q.1, fun i t w x y => (q.2 i t w x y).mono ok f⟩
theorem RpF.mono {κ : Type} {ts : List (κ × T)} {ws : List (κ × W)} (ok : a.Ok) (f : Fr a b) (q : RpF a ts ws) : RpF b ts ws := ⟨q.1, fun i t w x y => (q.2 i t w x y).mono ok f⟩
theorem RpL.nil : RpL a [] [] := ⟨rfl, fun i t w x _ => by simp at x⟩
theorem RpL.cons (p : Rp a t w) (q : RpL a ts ws) : RpL a (t :: ts) (w :: ws) := ⟨by simp [q.1], fun i u x e e' => by
  cases i with
  | zero => simp at e e'; subst e e'; exact p
  | succ n => simp at e e'; exact q.2 n u x e e'⟩
theorem RpL.inv_nil (q : RpL a [] ws) : ws = [] := by
  cases ws with
  | nil => rfl
  | cons x l => have := q.1; simp at this
theorem RpL.inv_cons (q : RpL a (t :: ts) ws) : ∃ w l, ws = w :: l ∧ Rp a t w ∧ RpL a ts l := by
  cases ws with
  | nil => have := q.1; simp at this
  | cons x l => exact ⟨x, l, rfl, q.2 0 t x rfl rfl, ⟨by have := q.1; simpa using this, fun i u y e e' => q.2 (i + 1) u y (by simpa using e) (by simpa using e')⟩⟩
theorem RpL.append (p : RpL a ts ws) (q : RpL a us xs) : RpL a (ts ++ us) (ws ++ xs) := by
  induction ts generalizing ws with
  | nil => rw [p.inv_nil]; exact q
  | cons t ts ih =>
    obtain ⟨w, l, rfl, hw, hl⟩ := p.inv_cons
    exact .cons hw (ih hl)
theorem RpL.get (q : RpL a ts ws) {i : Nat} (e : ts[i]? = some t) : ∃ w, ws[i]? = some w ∧ Rp a t w := by
  have hi : i < ws.length := by rw [← q.1]; exact (List.getElem?_eq_some_iff.mp e).1
  exact ⟨ws[i], List.getElem?_eq_getElem hi, q.2 i t _ e (List.getElem?_eq_getElem hi)⟩
theorem RpL.take (q : RpL a ts ws) (n : Nat) : RpL a (ts.take n) (ws.take n) := by
  induction n generalizing ts ws with
  | zero => exact .nil
  | succ n ih =>
    cases ts with
    | nil => rw [q.inv_nil]; exact .nil
    | cons t ts => obtain ⟨w, l, rfl, hw, hl⟩ := q.inv_cons; exact .cons hw (ih hl)
theorem RpL.drop (q : RpL a ts ws) (n : Nat) : RpL a (ts.drop n) (ws.drop n) := by
  induction n generalizing ts ws with
  | zero => exact q
  | succ n ih =>
    cases ts with
    | nil => rw [q.inv_nil]; exact .nil
    | cons t ts => obtain ⟨w, l, rfl, hw, hl⟩ := q.inv_cons; exact ih hl
theorem RpL.set (q : RpL a ts ws) (p : Rp a t w) (n : Nat) : RpL a (ts.set n t) (ws.set n w) := by
  induction n generalizing ts ws with
  | zero =>
    cases ts with
    | nil => rw [q.inv_nil]; exact .nil
    | cons u ts => obtain ⟨x, l, rfl, hw, hl⟩ := q.inv_cons; exact .cons p hl
  | succ n ih =>
    cases ts with
    | nil => rw [q.inv_nil]; exact .nil
    | cons u ts => obtain ⟨x, l, rfl, hw, hl⟩ := q.inv_cons; exact .cons hw (ih hl)
theorem RpL.flat (q : RpL a ts ws) (n : Nat) : RpL a (List.replicate n ts).flatten (List.replicate n ws).flatten := by
  induction n with
  | zero => exact .nil
  | succ n ih => simp only [List.replicate_succ, List.flatten_cons]; exact q.append ih
theorem RpL.mem (q : RpL a ts ws) (p : Rp a t w) : RpL a (ts ++ [t]) (ws ++ [w]) := q.append (.cons p .nil)
end

/-! ### slots -/
inductive SV where
  | fz (t : T) | ow (t : T)
abbrev TSt := List (Option SV)
def OwR (a : Wd) : T → Nat → Prop
  | .lst ts, r => ∃ ws, a.h[r]? = some (.lst ws) ∧ RpL a ts ws
  | .ins C fs, r => ∃ dx ws, a.h[r]? = some (.ins C dx ws) ∧ RpF a fs ws
  | .dK kvs, r => ∃ ws, a.h[r]? = some (.dK ws) ∧ RpF a kvs ws
  | _, _ => False
def SlR (a : Wd) (x : Option W) : Option SV → Prop
  | none => True
  | some (.fz t) => ∃ w, x = some w ∧ Rp a t w
  | some (.ow t) => ∃ r, x = some (.ref r) ∧ a.O r ∧ OwR a t r
structure SR (a : Wd) (σ : MSt) (τ : TSt) : Prop where
  len : σ.length = τ.length
  at_ : ∀ (k : Nat) (x : Option W) (y : Option SV), σ[k]? = some x → τ[k]? = some y → SlR a x y
  inj : ∀ (k l : Nat) (t u : T) (r : Nat), τ[k]? = some (some (.ow t)) → τ[l]? = some (some (.ow u)) → σ[k]? = some (some (.ref r)) → σ[l]? = some (some (.ref r)) → k = l
section
variable {a b c : Wd} {t u : T} {w : W} {ts us : List T} {ws xs : List W} {r : Nat} {σ : MSt} {τ : TSt} {x : Option W} {y : Option SV}
theorem OwR.keep (ok : a.Ok) (f : Fr a b) (k : ∀ o, a.h[r]? = some o → b.h[r]? = some o) (q : OwR a t r) : OwR b t r := by
  cases t with
  | lst ts => obtain ⟨ws, e, l⟩ := q; exact ⟨ws, k _ e, l.mono ok f⟩
  | ins C fs => obtain ⟨dx, ws, e, l⟩ := q; exact ⟨dx, ws, k _ e, l.mono ok f⟩
  | dK kvs => obtain ⟨ws, e, l⟩ := q; exact ⟨ws, k _ e, l.mono ok f⟩
  | _ => exact q.elim
theorem OwR.rp (f : a.F r) (q : OwR a t r) : Rp a t (.ref r) := by
  cases t with
  | lst ts => obtain ⟨ws, e, l⟩ := q; exact .lst f e l.1 l.2
  | ins C fs => obtain ⟨dx, ws, e, l⟩ := q; exact .ins f e l.1 l.2
  | dK kvs => obtain ⟨ws, e, l⟩ := q; exact .dK f e l.1 l.2
  | _ => exact q.elim
theorem SlR.keep (ok : a.Ok) (f : Fr a b) (k : ∀ r o, a.O r → a.h[r]? = some o → b.h[r]? = some o) (ko : ∀ r, a.O r → b.O r) (q : SlR a x y) : SlR b x y := by
  cases y with
  | none => trivial
  | some v => cases v with
    | fz t => obtain ⟨w, e, l⟩ := q; exact ⟨w, e, l.mono ok f⟩
    | ow t => obtain ⟨r, e, o, l⟩ := q; exact ⟨r, e, ko r o, l.keep ok f fun z => k r z o⟩
theorem SR.gr (ok : a.Ok) (g : Gr a b) (q : SR a σ τ) : SR b σ τ := ⟨q.len, fun k x y e e' => (q.at_ k x y e e').keep ok g.fr (fun r o _ z => pre_get g.pre z) fun r z => g.o ▸ z, q.inj⟩
theorem SR.fz (q : SR a σ τ) {k : Nat} (e : τ[k]? = some (some (.fz t))) : ∃ w, σ[k]? = some (some w) ∧ Rp a t w := by
  have hk : k < σ.length := by rw [q.len]; exact (List.getElem?_eq_some_iff.mp e).1
  have z := q.at_ k _ _ (List.getElem?_eq_getElem hk) e
  obtain ⟨w, ew, l⟩ := z
  exact ⟨w, by rw [List.getElem?_eq_getElem hk, ew], l⟩
theorem SR.ow (q : SR a σ τ) {k : Nat} (e : τ[k]? = some (some (.ow t))) : ∃ r, σ[k]? = some (some (.ref r)) ∧ a.O r ∧ OwR a t r := by
  have hk : k < σ.length := by rw [q.len]; exact (List.getElem?_eq_some_iff.mp e).1
  obtain ⟨r, ew, o, l⟩ := q.at_ k _ _ (List.getElem?_eq_getElem hk) e
  exact ⟨r, by rw [List.getElem?_eq_getElem hk, ew], o, l⟩
/-- a frozen value is stored -/
theorem SR.put (q : SR a σ τ) (p : Rp a t w) (k : Nat) : SR a (σ.set k (some w)) (τ.set k (some (.fz t))) := by
  refine ⟨by simp [q.len], fun i x y e e' => ?_, fun i j u v r e e' f f' => ?_⟩
  · by_cases h : k = i
    · subst h
      have l1 := (List.getElem?_eq_some_iff.mp e).1
      have l2 := (List.getElem?_eq_some_iff.mp e').1
      simp only [List.length_set] at l1 l2
      rw [List.getElem?_set_self l1] at e
      rw [List.getElem?_set_self l2] at e'
      cases e; cases e'
      exact ⟨w, rfl, p⟩
    · rw [List.getElem?_set_ne h] at e e'
      exact q.at_ i x y e e'
  · have ne : ∀ {i : Nat} {u : T}, (τ.set k (some (.fz t)))[i]? = some (some (.ow u)) → k ≠ i := fun {i u} e z => by
      subst z
      have l := (List.getElem?_eq_some_iff.mp e).1
      simp only [List.length_set] at l
      rw [List.getElem?_set_self l] at e
      cases e
    have n1 := ne e; have n2 := ne e'
    rw [List.getElem?_set_ne n1] at e f
    rw [List.getElem?_set_ne n2] at e' f'
    exact q.inj i j u v r e e' f f'
/-- a slot is forgotten -/
theorem SR.drop (q : SR a σ τ) (k : Nat) (x : Option W) : SR a (σ.set k x) (τ.set k none) := by
  refine ⟨by simp [q.len], fun i x' y e e' => ?_, fun i j u v r e e' f f' => ?_⟩
  · by_cases h : k = i
    · subst h
      have l2 := (List.getElem?_eq_some_iff.mp e').1
      simp only [List.length_set] at l2
      rw [List.getElem?_set_self l2] at e'
      cases e'
      trivial
    · rw [List.getElem?_set_ne h] at e e'
      exact q.at_ i x' y e e'
  · have ne : ∀ {i : Nat} {u : T}, (τ.set k none)[i]? = some (some (.ow u)) → k ≠ i := fun {i u} e z => by
      subst z
      have l := (List.getElem?_eq_some_iff.mp e).1
      simp only [List.length_set] at l
      rw [List.getElem?_set_self l] at e
      cases e
    have n1 := ne e; have n2 := ne e'
    rw [List.getElem?_set_ne n1] at e f
    rw [List.getElem?_set_ne n2] at e' f'
    exact q.inj i j u v r e e' f f'
/-- an owned object is stored, that no slot has -/
theorem SR.own (q : SR a σ τ) (o : a.O r) (p : OwR a t r) (fr : ∀ (k : Nat) (u : T), τ[k]? = some (some (.ow u)) → σ[k]? ≠ some (some (.ref r))) (k : Nat) : SR a (σ.set k (some (.ref r))) (τ.set k (some (.ow t))) := by
  refine ⟨by simp [q.len], fun i x y e e' => ?_, fun i j u v r' e e' f f' => ?_⟩
  · by_cases h : k = i
    · subst h
      have l1 := (List.getElem?_eq_some_iff.mp e).1
      have l2 := (List.getElem?_eq_some_iff.mp e').1
      simp only [List.length_set] at l1 l2
      rw [List.getElem?_set_self l1] at e
      rw [List.getElem?_set_self l2] at e'
      cases e; cases e'
      exact ⟨r, rfl, o, p⟩
    · rw [List.getElem?_set_ne h] at e e'
      exact q.at_ i x y e e'
  · have hl : ∀ {i : Nat} {z : Option W}, (σ.set k (some (.ref r)))[i]? = some z → i < σ.length := fun e => by
      have l := (List.getElem?_eq_some_iff.mp e).1
      simpa using l
    by_cases h1 : k = i <;> by_cases h2 : k = j
    · exact h1.symm.trans h2
    · subst h1
      rw [List.getElem?_set_self (hl f)] at f
      cases f
      rw [List.getElem?_set_ne h2] at e' f'
      exact absurd f' (fr j v e')
    · subst h2
      rw [List.getElem?_set_self (hl f')] at f'
      cases f'
      rw [List.getElem?_set_ne h1] at e f
      exact absurd f (fr i u e)
    · rw [List.getElem?_set_ne h1] at e f
      rw [List.getElem?_set_ne h2] at e' f'
      exact q.inj i j u v r' e e' f f'
/-- the world in which the heap has another object at an owned place -/
def Wd.put (a : Wd) (r : Nat) (o : MO) : Wd := ⟨a.F, a.O, a.h.set r o⟩
theorem Wd.Ok.put (ok : a.Ok) {o : MO} : (a.put r o).Ok := ⟨ok.dj, fun r z => by simpa [Wd.put] using ok.ol r z, fun r z => by simpa [Wd.put] using ok.fl r z⟩
theorem Fr.put {o : MO} (hr : a.O r) : Fr a (a.put r o) := ⟨fun _ z => z, fun _ z => .inl z, fun _ z => .inl z, by simp [Wd.put], fun i o' e n => by
  show (a.h.set r o)[i]? = some o'
  rw [List.getElem?_set_ne (show r ≠ i from fun z => n (z ▸ hr))]; exact e⟩
/-- what an owned slot holds is changed -/
theorem SR.chg (q : SR a σ τ) (ok : a.Ok) {k : Nat} {o : MO} (e : τ[k]? = some (some (.ow t))) (es : σ[k]? = some (some (.ref r))) (hr : a.O r) (p : OwR (a.put r o) u r) : SR (a.put r o) σ (τ.set k (some (.ow u))) := by
  have hk := (List.getElem?_eq_some_iff.mp e).1
  refine ⟨by simp [q.len], fun i x y f f' => ?_, fun i j u' v r' f f' g g' => ?_⟩
  · by_cases h : k = i
    · subst h
      rw [List.getElem?_set_self hk] at f'
      rw [es] at f
      cases f; cases f'
      exact ⟨r, rfl, hr, p⟩
    · rw [List.getElem?_set_ne h] at f'
      have z := q.at_ i x y f f'
      cases y with
      | none => trivial
      | some v => cases v with
        | fz t => obtain ⟨w, e, l⟩ := z; exact ⟨w, e, l.mono ok (Fr.put hr)⟩
        | ow t' =>
          obtain ⟨r2, e2, o2, l⟩ := z
          refine ⟨r2, e2, o2, l.keep ok (Fr.put hr) fun o3 e3 => ?_⟩
          show (a.h.set r o)[r2]? = some o3
          rw [List.getElem?_set_ne fun z => ?_]
          · exact e3
          · subst z; subst e2
            exact h (q.inj k i t t' r e f' es f)
  · have oo : ∀ {i : Nat} {u' : T}, (τ.set k (some (.ow u)))[i]? = some (some (.ow u')) → ∃ v, τ[i]? = some (some (.ow v)) := fun {i u'} f => by
      by_cases h : k = i
      · subst h; exact ⟨t, e⟩
      · rw [List.getElem?_set_ne h] at f; exact ⟨u', f⟩
    obtain ⟨v1, e1⟩ := oo f
    obtain ⟨v2, e2⟩ := oo f'
    exact q.inj i j v1 v2 r' e1 e2 g g'
/-- freezing what a slot owns -/
def Wd.frz (a : Wd) (r : Nat) : Wd := ⟨fun i => a.F i ∨ i = r, fun i => a.O i ∧ i ≠ r, a.h⟩
theorem Wd.Ok.frz (ok : a.Ok) (hr : r < a.h.length) : (a.frz r).Ok := ⟨fun i z y => y.elim (ok.dj i z.1) z.2, fun i z => ok.ol i z.1, fun i z => z.elim (ok.fl i) fun y => y ▸ hr⟩
theorem Fr.frz (hr : a.O r ∨ a.h.length ≤ r) : Fr a (a.frz r) := ⟨fun _ z => .inl z, fun i z => z.elim .inl fun y => .inr (y ▸ hr), fun i z => .inl z.1, Nat.le_refl _, fun _ _ e _ => e⟩
theorem SR.frz (q : SR a σ τ) (ok : a.Ok) {k : Nat} (e : τ[k]? = some (some (.ow t))) (es : σ[k]? = some (some (.ref r))) : SR (a.frz r) σ (τ.set k (some (.fz t))) := by
  obtain ⟨r', e', hr, p⟩ := q.ow e
  rw [es] at e'
  cases e'
  have F : Fr a (a.frz r) := .frz (.inl hr)
  have hk := (List.getElem?_eq_some_iff.mp e).1
  refine ⟨by simp [q.len], fun i x y f f' => ?_, fun i j u' v r' f f' g g' => ?_⟩
  · by_cases h : k = i
    · subst h
      rw [List.getElem?_set_self hk] at f'
      rw [es] at f
      cases f; cases f'
      exact ⟨.ref r, rfl, (p.keep ok F (fun _ z => z)).rp (.inr rfl)⟩
    · rw [List.getElem?_set_ne h] at f'
      have z := q.at_ i x y f f'
      cases y with
      | none => trivial
      | some v => cases v with
        | fz t => obtain ⟨w, e, l⟩ := z; exact ⟨w, e, l.mono ok F⟩
        | ow t' =>
          obtain ⟨r2, e2, o2, l⟩ := z
          refine ⟨r2, e2, ⟨o2, fun z => ?_⟩, l.keep ok F fun o3 e3 => e3⟩
          subst z; subst e2
          exact h (q.inj k i t t' _ e f' es f)
  · have oo : ∀ {i : Nat} {u' : T}, (τ.set k (some (.fz t)))[i]? = some (some (.ow u')) → τ[i]? = some (some (.ow u')) := fun {i u'} f => by
      by_cases h : k = i
      · subst h
        rw [List.getElem?_set_self hk] at f
        cases f
      · rw [List.getElem?_set_ne h] at f; exact f
    exact q.inj i j u' v r' (oo f) (oo f') g g'
/-- new objects -/
def Wd.newF (a : Wd) (o : MO) : Wd := ⟨fun i => a.F i ∨ i = a.h.length, a.O, a.h ++ [o]⟩
def Wd.newO (a : Wd) (o : MO) : Wd := ⟨a.F, fun i => a.O i ∨ i = a.h.length, a.h ++ [o]⟩
def Wd.newN (a : Wd) (o : MO) : Wd := ⟨a.F, a.O, a.h ++ [o]⟩
theorem Wd.Ok.newF {o : MO} (ok : a.Ok) : (a.newF o).Ok := ⟨fun i z y => y.elim (ok.dj i z) fun x => absurd (ok.ol i z) (by omega), fun i z => by have := ok.ol i z; simp [Wd.newF]; omega, fun i z => by
  rcases z with z | z
  · have := ok.fl i z; simp [Wd.newF]; omega
  · simp [Wd.newF]; omega⟩
theorem Wd.Ok.newO {o : MO} (ok : a.Ok) : (a.newO o).Ok := ⟨fun i z y => z.elim (fun x => ok.dj i x y) fun x => absurd (ok.fl i y) (by omega), fun i z => by
  rcases z with z | z
  · have := ok.ol i z; simp [Wd.newO]; omega
  · simp [Wd.newO]; omega, fun i z => by have := ok.fl i z; simp [Wd.newO]; omega⟩
theorem Wd.Ok.newN {o : MO} (ok : a.Ok) : (a.newN o).Ok := ⟨ok.dj, fun i z => by have := ok.ol i z; simp [Wd.newN]; omega, fun i z => by have := ok.fl i z; simp [Wd.newN]; omega⟩
theorem Gr.newF {o : MO} : Gr a (a.newF o) := ⟨rfl, ⟨_, rfl⟩, fun _ z => .inl z, fun i z => z.elim .inl fun y => .inr (Nat.le_of_eq y.symm)⟩
theorem Gr.newN {o : MO} : Gr a (a.newN o) := ⟨rfl, ⟨_, rfl⟩, fun _ z => z, fun i z => .inl z⟩
theorem Fr.newO {o : MO} : Fr a (a.newO o) := ⟨fun _ z => z, fun _ z => .inl z, fun i z => z.elim .inl fun y => .inr (Nat.le_of_eq y.symm), by simp [Wd.newO], fun r o e _ => by
  show (a.h ++ _)[r]? = some o
  rw [List.getElem?_append_left (List.getElem?_eq_some_iff.mp e).1]; exact e⟩
theorem SR.newO {o : MO} (ok : a.Ok) (q : SR a σ τ) : SR (a.newO o) σ τ := ⟨q.len, fun k x y e e' => (q.at_ k x y e e').keep ok Fr.newO (fun r o' _ z => by
  show (a.h ++ _)[r]? = some o'
  rw [List.getElem?_append_left (List.getElem?_eq_some_iff.mp z).1]; exact z) fun r z => .inl z, q.inj⟩
theorem newF_at {o : MO} : (a.newF o).h[a.h.length]? = some o := by simp [Wd.newF]
theorem newO_at {o : MO} : (a.newO o).h[a.h.length]? = some o := by simp [Wd.newO]
theorem newN_at {o : MO} : (a.newN o).h[a.h.length]? = some o := by simp [Wd.newN]
theorem newF_F {o : MO} : (a.newF o).F a.h.length := .inr rfl
end
end Mc

namespace Mc
open PySem
structure TExn where
  cls : Str
  fs : List (Str × T)
inductive RT (α : Type) where
  | ok (a : α) (τ : TSt) | ex (x : TExn) (τ : TSt) | no
def RT.bind {α β : Type} (r : RT α) (k : α → TSt → RT β) : RT β := match r with
  | .ok a τ => k a τ
  | .ex x τ => .ex x τ
  | .no => .no
/-- a part that may not be there -/
def opt {α : Type} (o : Option α) (τ : TSt) : RT α := match o with
  | some v => .ok v τ
  | none => .no
def ExR (a : Wd) (x : TExn) (e : Exn) : Prop := e.cls = x.cls ∧ ∃ d ws, e.d = some d ∧ a.F d ∧ a.h[d]? = some (.xd ws) ∧ RpF a x.fs ws
theorem ExR.mono {a b : Wd} {x : TExn} {e : Exn} (ok : a.Ok) (f : Fr a b) (q : ExR a x e) : ExR b x e := by
  obtain ⟨c, d, ws, ed, hf, eh, l⟩ := q
  exact ⟨c, d, ws, ed, f.fm d hf, f.keep d _ eh fun z => ok.dj d z hf, l.mono ok f⟩
def SimR (a : Wd) (σ : MSt) {α β : Type} (rel : Wd → α → β → Prop) (r : R β) : RT α → Prop
  | .ok v τ => ∃ w b, r = .ok w b.h ∧ b.Ok ∧ Fr a b ∧ SR b σ τ ∧ rel b v w
  | .ex x τ => ∃ e b, r = .ex e b.h ∧ b.Ok ∧ Fr a b ∧ SR b σ τ ∧ ExR b x e
  | .no => True
abbrev TEx := TSt → RT T
abbrev TTx := TSt → RT Bool
abbrev TAx := TSt → RT (List T)
abbrev relB {α : Type} (_ : Wd) (x y : α) : Prop := x = y
def SimE (m : MEx) (t : TEx) : Prop := ∀ a σ τ, a.Ok → SR a σ τ → SimR a σ Rp (m σ a.h) (t τ)
def SimT (m : MTx) (t : TTx) : Prop := ∀ a σ τ, a.Ok → SR a σ τ → SimR a σ relB (m σ a.h) (t τ)
def SimA (m : MAx) (t : TAx) : Prop := ∀ a σ τ, a.Ok → SR a σ τ → SimR a σ RpL (m σ a.h) (t τ)
section
variable {a b : Wd} {σ : MSt} {τ : TSt} {α β γ δ : Type} {rel : Wd → α → β → Prop} {rel2 : Wd → γ → δ → Prop} {r : R β} {q : RT α}
theorem SimR.pre (f : Fr a b) (s : SimR b σ rel r q) : SimR a σ rel r q := by
  cases q with
  | ok v τ => obtain ⟨w, c, e, ok, g, z⟩ := s; exact ⟨w, c, e, ok, f.trans g, z⟩
  | ex x τ => obtain ⟨w, c, e, ok, g, z⟩ := s; exact ⟨w, c, e, ok, f.trans g, z⟩
  | no => trivial
theorem SimR.bind {k : β → Mh → R δ} {kt : α → TSt → RT γ} (s : SimR a σ rel r q) (n : ∀ b v w τ', b.Ok → Fr a b → SR b σ τ' → rel b v w → SimR b σ rel2 (k w b.h) (kt v τ')) : SimR a σ rel2 (r.bind k) (q.bind kt) := by
  cases q with
  | ok v τ =>
    obtain ⟨w, c, rfl, ok, g, z, l⟩ := s
    exact (n c v w τ ok g z l).pre g
  | ex x τ =>
    obtain ⟨w, c, rfl, ok, g, z, l⟩ := s
    exact ⟨w, c, rfl, ok, g, z, l⟩
  | no => trivial
theorem SimR.op {o : Option α} (ok : a.Ok) (s : SR a σ τ) (h : ∀ v, o = some v → ∃ w b, r = .ok w b.h ∧ b.Ok ∧ Gr a b ∧ rel b v w) : SimR a σ rel r (opt o τ) := by
  cases o with
  | none => trivial
  | some v =>
    obtain ⟨w, b, e, ok', g, l⟩ := h v rfl
    exact ⟨w, b, e, ok', g.fr, s.gr ok g, l⟩
theorem SimR.now {v : α} {w : β} (ok : a.Ok) (s : SR a σ τ) (l : rel a v w) : SimR a σ rel (.ok w a.h) (.ok v τ) := ⟨w, a, rfl, ok, .rfl', s, l⟩
end
/-! ### names and constants -/
def fzAt (τ : TSt) (i : Nat) : Option T := match τ[i]? with
  | some (some (.fz t)) => some t
  | _ => none
def owAt (τ : TSt) (i : Nat) : Option T := match τ[i]? with
  | some (some (.ow t)) => some t
  | _ => none
theorem fzAt_some {τ : TSt} {i : Nat} {t : T} (e : fzAt τ i = some t) : τ[i]? = some (some (.fz t)) := by
  unfold fzAt at e
  split at e
  · cases e; assumption
  · cases e
theorem owAt_some {τ : TSt} {i : Nat} {t : T} (e : owAt τ i = some t) : τ[i]? = some (some (.ow t)) := by
  unfold owAt at e
  split at e
  · cases e; assumption
  · cases e
def eV (i : Nat) : TEx := fun τ => opt (fzAt τ i) τ
def eC (t : T) : TEx := fun τ => .ok t τ
def e1 (k : T → Option T) (a : TEx) : TEx := fun τ => (a τ).bind fun x τ1 => opt (k x) τ1
def e2 (k : T → T → Option T) (a b : TEx) : TEx := fun τ => (a τ).bind fun x τ1 => (b τ1).bind fun y τ2 => opt (k x y) τ2
def aNil : TAx := fun τ => .ok [] τ
def aCons (e : TEx) (r : TAx) : TAx := fun τ => (e τ).bind fun x τ1 => (r τ1).bind fun xs τ2 => .ok (x :: xs) τ2
def eArg (k : List T → Option T) (m : TAx) : TEx := fun τ => (m τ).bind fun xs τ1 => opt (k xs) τ1
def Op1 (k : W → Mh → R W) (kt : T → Option T) : Prop := ∀ a x tx v, a.Ok → Rp a tx x → kt tx = some v → ∃ w b, k x a.h = .ok w b.h ∧ b.Ok ∧ Gr a b ∧ Rp b v w
def Op2 (k : W → W → Mh → R W) (kt : T → T → Option T) : Prop := ∀ a x y tx ty v, a.Ok → Rp a tx x → Rp a ty y → kt tx ty = some v → ∃ w b, k x y a.h = .ok w b.h ∧ b.Ok ∧ Gr a b ∧ Rp b v w
def OpL (k : List W → Mh → R W) (kt : List T → Option T) : Prop := ∀ a xs ts v, a.Ok → RpL a ts xs → kt ts = some v → ∃ w b, k xs a.h = .ok w b.h ∧ b.Ok ∧ Gr a b ∧ Rp b v w
section
variable {m m' : MEx} {t t' : TEx} {ma : MAx} {ta : TAx}
theorem se_var {i : Nat} : SimE (mV i) (eV i) := fun a σ τ ok s => .op ok s fun v e => by
  obtain ⟨w, ew, l⟩ := s.fz (fzAt_some e)
  exact ⟨w, a, by simp only [mV, ew], ok, .rfl', l⟩
theorem se_c {w : W} {t : T} (h : ∀ a, Rp a t w) : SimE (mC w) (eC t) := fun a σ τ ok s => .now ok s (h a)
theorem se_int {i : Int} : SimE (mC (.int i)) (eC (.int i)) := se_c fun _ => .int
theorem se_bl {i : Bool} : SimE (mC (.bl i)) (eC (.bl i)) := se_c fun _ => .bl
theorem se_str {i : Str} : SimE (mC (.str i)) (eC (.str i)) := se_c fun _ => .str
theorem se_non : SimE (mC .non) (eC .non) := se_c fun _ => .non
theorem se_ty {n : String} : SimE (mC (.ty n)) (eC (.ty n)) := se_c fun _ => .ty
theorem se_glo {n : Str} : SimE (mC (.glo n)) (eC (.glo n)) := se_c fun _ => .glo
theorem se_1 {k : W → Mh → R W} {kt : T → Option T} (o : Op1 k kt) (h : SimE m t) : SimE (m1 k m) (e1 kt t) := fun a σ τ ok s =>
  (h a σ τ ok s).bind fun b v w τ' ok' f s' l => .op ok' s' fun v' e => o b w v v' ok' l e
theorem se_2 {k : W → W → Mh → R W} {kt : T → T → Option T} (o : Op2 k kt) (h : SimE m t) (h' : SimE m' t') : SimE (m2 k m m') (e2 kt t t') := fun a σ τ ok s =>
  (h a σ τ ok s).bind fun b v w τ' ok' f s' l => (h' b σ τ' ok' s').bind fun c v2 w2 τ2 ok2 f2 s2 l2 => .op ok2 s2 fun v' e => o c w w2 v v2 v' ok2 (l.mono ok' f2) l2 e
theorem sa_nil : SimA mNil aNil := fun a σ τ ok s => .now ok s .nil
theorem sa_cons (h : SimE m t) (h' : SimA ma ta) : SimA (mCons m ma) (aCons t ta) := fun a σ τ ok s =>
  (h a σ τ ok s).bind fun b v w τ' ok' f s' l => (h' b σ τ' ok' s').bind fun c v2 w2 τ2 ok2 f2 s2 l2 => .now ok2 s2 (.cons (l.mono ok' f2) l2)
theorem se_arg {k : List W → Mh → R W} {kt : List T → Option T} (o : OpL k kt) (h : SimA ma ta) : SimE (mArg k ma) (eArg kt ta) := fun a σ τ ok s =>
  (h a σ τ ok s).bind fun b v w τ' ok' f s' l => .op ok' s' fun v' e => o b w v v' ok' l e
end
/-! ### tests -/
def oB (t : T) : Option Bool := match t with
  | .bl b => some b
  | _ => none
def bV (m : TEx) : TTx := fun τ => (m τ).bind fun x τ1 => opt (oB x) τ1
def bNt (m : TTx) : TTx := fun τ => (m τ).bind fun b τ1 => .ok (!b) τ1
def bAn (a b : TTx) : TTx := fun τ => (a τ).bind fun k τ1 => if k then b τ1 else .ok false τ1
def bO (a b : TTx) : TTx := fun τ => (a τ).bind fun k τ1 => if k then .ok true τ1 else b τ1
def eAn (a b : TEx) : TEx := fun τ => (a τ).bind fun x τ1 => (opt (oB x) τ1).bind fun k τ1 => if k then b τ1 else .ok (.bl false) τ1
def eOr (a b : TEx) : TEx := fun τ => (a τ).bind fun x τ1 => (opt (oB x) τ1).bind fun k τ1 => if k then .ok (.bl true) τ1 else b τ1
def eNt (a : TEx) : TEx := fun τ => (a τ).bind fun x τ1 => (opt (oB x) τ1).bind fun k τ1 => .ok (.bl (!k)) τ1
def eIf (c : TTx) (a b : TEx) : TEx := fun τ => (c τ).bind fun k τ1 => if k then a τ1 else b τ1
def cht : List ((T → T → Option T) × TEx) → T → TSt → RT T
  | [], _, _ => .no
  | [(k, m)], x, τ => (m τ).bind fun y τ1 => opt (k x y) τ1
  | (k, m) :: l, x, τ => (m τ).bind fun y τ1 => (opt (k x y) τ1).bind fun z τ2 => (opt (oB z) τ2).bind fun b τ3 => if b then cht l y τ3 else .ok (.bl false) τ3
def eCh (m : TEx) (l : List ((T → T → Option T) × TEx)) : TEx := fun τ => (m τ).bind fun x τ1 => cht l x τ1
def bYs : TTx := fun τ => .ok true τ
inductive Lk : List ((W → W → Mh → R W) × MEx) → List ((T → T → Option T) × TEx) → Prop
  | nil : Lk [] []
  | cons {k : W → W → Mh → R W} {kt : T → T → Option T} {m : MEx} {t : TEx} {l : List ((W → W → Mh → R W) × MEx)} {lt : List ((T → T → Option T) × TEx)} (o : Op2 k kt) (h : SimE m t) (r : Lk l lt) : Lk ((k, m) :: l) ((kt, t) :: lt)
section
variable {m m' m2 : MEx} {t t' t2 : TEx} {c c' : MTx} {u u' : TTx} {a : Wd} {σ : MSt} {τ : TSt}
theorem SimR.b {w : W} {v : T} (ok : a.Ok) (s : SR a σ τ) (l : Rp a v w) : SimR a σ relB (kB w a.h) (opt (oB v) τ) := .op ok s fun b e => by
  cases l <;> cases e
  exact ⟨_, a, rfl, ok, .rfl', rfl⟩
theorem st_v (h : SimE m t) : SimT (tV m) (bV t) := fun a σ τ ok s => (h a σ τ ok s).bind fun b v w τ' ok' f s' l => .b ok' s' l
theorem st_not (h : SimT c u) : SimT (tNt c) (bNt u) := fun a σ τ ok s => (h a σ τ ok s).bind fun b v w τ' ok' f s' l => .now ok' s' (congrArg _ l)
theorem st_and (h : SimT c u) (h' : SimT c' u') : SimT (tAn c c') (bAn u u') := fun a σ τ ok s => (h a σ τ ok s).bind fun b v w τ' ok' f s' l => by
  cases (show v = w from l)
  cases v
  · exact .now ok' s' rfl
  · exact h' b σ τ' ok' s'
theorem st_or (h : SimT c u) (h' : SimT c' u') : SimT (tO c c') (bO u u') := fun a σ τ ok s => (h a σ τ ok s).bind fun b v w τ' ok' f s' l => by
  cases (show v = w from l)
  cases v
  · exact h' b σ τ' ok' s'
  · exact .now ok' s' rfl
theorem st_ys : SimT tYs bYs := fun a σ τ ok s => .now ok s rfl
theorem se_and (h : SimE m t) (h' : SimE m' t') : SimE (mAn m m') (eAn t t') := fun a σ τ ok s => (h a σ τ ok s).bind fun b v w τ' ok' f s' l => (SimR.b ok' s' l).bind fun c v w τ2 ok2 f2 s2 l2 => by
  cases (show v = w from l2)
  cases v
  · exact .now ok2 s2 .bl
  · exact h' c σ τ2 ok2 s2
theorem se_or (h : SimE m t) (h' : SimE m' t') : SimE (mOr m m') (eOr t t') := fun a σ τ ok s => (h a σ τ ok s).bind fun b v w τ' ok' f s' l => (SimR.b ok' s' l).bind fun c v w τ2 ok2 f2 s2 l2 => by
  cases (show v = w from l2)
  cases v
  · exact h' c σ τ2 ok2 s2
  · exact .now ok2 s2 .bl
theorem se_not (h : SimE m t) : SimE (mNt m) (eNt t) := fun a σ τ ok s => (h a σ τ ok s).bind fun b v w τ' ok' f s' l => (SimR.b ok' s' l).bind fun c v w τ2 ok2 f2 s2 l2 => by
  cases (show v = w from l2)
  exact .now ok2 s2 .bl
theorem se_if (h : SimT c u) (h1 : SimE m t) (h2 : SimE m' t') : SimE (mIf c m m') (eIf u t t') := fun a σ τ ok s => (h a σ τ ok s).bind fun b v w τ' ok' f s' l => by
  cases (show v = w from l)
  cases v
  · exact h2 b σ τ' ok' s'
  · exact h1 b σ τ' ok' s'
theorem Lk.run {l : List ((W → W → Mh → R W) × MEx)} {lt : List ((T → T → Option T) × TEx)} (r : Lk l lt) : ∀ (a : Wd) (σ : MSt) (τ : TSt) (w : W) (v : T), a.Ok → SR a σ τ → Rp a v w → SimR a σ Rp (ch l w σ a.h) (cht lt v τ) := by
  induction r with
  | nil => intro a σ τ w v ok s l; trivial
  | @cons k kt m t l lt o h r ih =>
    intro a σ τ w v ok s lw
    cases r with
    | nil => exact (h a σ τ ok s).bind fun b v2 w2 τ' ok' f s' l2 => .op ok' s' fun v' e => o b w w2 v v2 v' ok' (lw.mono ok f) l2 e
    | cons o' h' r' =>
      simp only [ch, cht]
      exact (h a σ τ ok s).bind fun b v2 w2 τ' ok' f s' l2 => (SimR.op ok' s' fun v' e => o b w w2 v v2 v' ok' (lw.mono ok f) l2 e).bind fun c v3 w3 τ3 ok3 f3 s3 l3 => (SimR.b ok3 s3 l3).bind fun d v4 w4 τ4 ok4 f4 s4 l4 => by
        cases (show v4 = w4 from l4)
        cases v4
        · exact .now ok4 s4 .bl
        · exact ih d σ τ4 w2 v2 ok4 s4 ((l2.mono ok' f3).mono ok3 f4)
theorem se_ch {l : List ((W → W → Mh → R W) × MEx)} {lt : List ((T → T → Option T) × TEx)} (h : SimE m t) (r : Lk l lt) : SimE (mCh m l) (eCh t lt) := fun a σ τ ok s => (h a σ τ ok s).bind fun b v w τ' ok' f s' l => r.run b σ τ' w v ok' s' l
theorem chT_eq {l : List ((W → W → Mh → R W) × MEx)} {x : W} {h : Mh} : chT l x σ h = (ch l x σ h).bind kB := by
  induction l generalizing x h with
  | nil => rfl
  | cons p l ih =>
    obtain ⟨k, m⟩ := p
    cases l with
    | nil =>
      simp only [ch, chT]
      cases m σ h <;> rfl
    | cons q l =>
      simp only [ch, chT]
      cases m σ h with
      | ok y h1 =>
        simp only [R.bind]
        cases k x y h1 with
        | ok z h2 =>
          simp only []
          cases kB z h2 with
          | ok b h3 =>
            cases b
            · rfl
            · exact ih
          | ex _ _ => rfl
          | no => rfl
        | ex _ _ => rfl
        | no => rfl
      | ex _ _ => rfl
      | no => rfl
theorem tCh_eq {l : List ((W → W → Mh → R W) × MEx)} : tCh m l = tV (mCh m l) := by
  funext σ h
  unfold tCh tV mCh
  cases m σ h with
  | ok x h1 => exact chT_eq
  | ex _ _ => rfl
  | no => rfl
theorem st_ch {l : List ((W → W → Mh → R W) × MEx)} {lt : List ((T → T → Option T) × TEx)} (h : SimE m t) (r : Lk l lt) : SimT (tCh m l) (bV (eCh t lt)) := by rw [tCh_eq]; exact st_v (se_ch h r)
end
end Mc

namespace Mc
open PySem
/-! ### whole numbers -/
def nOp (g : Int → Int → T) (x y : T) : Option T := match x, y with
  | .int i, .int j => some (g i j)
  | _, _ => none
def nOpC (c : Int → Int → Bool) (g : Int → Int → T) (x y : T) : Option T := match x, y with
  | .int i, .int j => if c i j then some (g i j) else none
  | _, _ => none
def oSub : T → T → Option T := nOp fun i j => .int (i - j)
def oLt : T → T → Option T := nOp fun i j => .bl (decide (i < j))
def oLe : T → T → Option T := nOp fun i j => .bl (decide (i ≤ j))
def oGt : T → T → Option T := nOp fun i j => .bl (decide (j < i))
def oGe : T → T → Option T := nOp fun i j => .bl (decide (j ≤ i))
def oDiv : T → T → Option T := nOpC (fun _ j => decide (0 < j) && decide (j < 1073741824)) fun i j => .int (i / j)
def oMod : T → T → Option T := nOpC (fun _ j => decide (0 < j)) fun i j => .int (i % j)
def oPow : T → T → Option T := nOpC (fun i j => decide (0 ≤ j) && decide (j ≤ 1000) && decide (i.natAbs < 1000)) fun i j => .int (i ^ j.toNat)
def oNeg (x : T) : Option T := match x with
  | .int i => some (.int (-i))
  | _ => none
def oAdd (x y : T) : Option T := match x, y with
  | .int i, .int j => some (.int (i + j))
  | .str a, .str b => if a.length + b.length ≤ lim then some (.str (a ++ b)) else none
  | .lst xs, .lst ys => if xs.length + ys.length ≤ lim then some (.lst (xs ++ ys)) else none
  | .tup xs, .tup ys => if xs.length + ys.length ≤ lim then some (.tup (xs ++ ys)) else none
  | _, _ => none
def oMul (x y : T) : Option T := match x, y with
  | .int i, .int j => if smallI i || smallI j then some (.int (i * j)) else none
  | .lst xs, .int k => if k ≤ 100000 ∧ -100000 ≤ k ∧ xs.length * k.toNat ≤ lim then some (.lst (List.replicate k.toNat xs).flatten) else none
  | .tup xs, .int k => if 0 < xs.length ∧ 2 ≤ k ∧ k ≤ 1000 ∧ xs.length ≤ 1000 then some (.tup (List.replicate k.toNat xs).flatten) else none
  | _, _ => none
def isNon : T → Bool
  | .non => true
  | _ => false
def oIsN (x y : T) : Option T := match y with
  | .non => some (.bl (isNon x))
  | _ => none
def oNotN (x y : T) : Option T := match y with
  | .non => some (.bl (!isNon x))
  | _ => none
section
variable {a : Wd} {t : T} {w : W} {ts : List T} {ws : List W}
theorem tq_n {g : Int → Int → W} {gt : Int → Int → T} (h : ∀ a i j, Rp a (gt i j) (g i j)) : Op2 (iOp g) (nOp gt) := fun a x y tx ty v ok p q e => by
  cases p <;> cases q <;> cases e
  exact ⟨_, a, rfl, ok, .rfl', h a _ _⟩
theorem tq_nc {c : Int → Int → Bool} {g : Int → Int → W} {gt : Int → Int → T} (h : ∀ a i j, Rp a (gt i j) (g i j)) : Op2 (iOpC c g) (nOpC c gt) := fun a x y tx ty v ok p q e => by
  cases p with
  | int => cases q with
    | int =>
      simp only [nOpC] at e
      split at e
      · next z => cases e; exact ⟨_, a, by simp only [iOpC]; rw [if_pos z], ok, .rfl', h a _ _⟩
      · cases e
    | _ => cases e
  | _ => cases e
theorem tq_sub : Op2 kSub oSub := tq_n fun _ _ _ => .int
theorem tq_lt : Op2 kLt oLt := tq_n fun _ _ _ => .bl
theorem tq_le : Op2 kLe oLe := tq_n fun _ _ _ => .bl
theorem tq_gt : Op2 kGt oGt := tq_n fun _ _ _ => .bl
theorem tq_ge : Op2 kGe oGe := tq_n fun _ _ _ => .bl
theorem tq_div : Op2 kDiv oDiv := tq_nc fun _ _ _ => .int
theorem tq_mod : Op2 kMod oMod := tq_nc fun _ _ _ => .int
theorem tq_pow : Op2 kPow oPow := tq_nc fun _ _ _ => .int
theorem tq_neg : Op1 kNeg oNeg := fun a x tx v ok p e => by
  cases p <;> cases e
  exact ⟨_, a, rfl, ok, .rfl', .int⟩
/-- a new frozen object -/
theorem new_tup (ok : a.Ok) (l : RpL a ts ws) : ∃ w b, al (.tup ws) a.h = .ok w b.h ∧ b.Ok ∧ Gr a b ∧ Rp b (.tup ts) w :=
  ⟨.ref a.h.length, a.newF (.tup ws), rfl, ok.newF, .newF, .tup newF_F newF_at l.1 (l.mono ok Gr.newF.fr).2⟩
theorem new_lst (ok : a.Ok) (l : RpL a ts ws) : ∃ w b, al (.lst ws) a.h = .ok w b.h ∧ b.Ok ∧ Gr a b ∧ Rp b (.lst ts) w :=
  ⟨.ref a.h.length, a.newF (.lst ws), rfl, ok.newF, .newF, .lst newF_F newF_at l.1 (l.mono ok Gr.newF.fr).2⟩
theorem tq_add : Op2 kAdd oAdd := fun a x y tx ty v ok p q e => by
  cases p with
  | int => cases q <;> cases e; exact ⟨_, a, rfl, ok, .rfl', .int⟩
  | str => cases q with
    | str =>
      simp only [oAdd] at e
      split at e
      · next z => cases e; exact ⟨_, a, by simp only [kAdd]; rw [if_pos z], ok, .rfl', .str⟩
      · cases e
    | _ => cases e
  | lst f eh l c => cases q with
    | lst f' eh' l' c' =>
      simp only [oAdd] at e
      split at e
      · next z =>
        cases e
        rw [l, l'] at z
        simp only [kAdd, eh, eh', if_pos z]
        exact new_lst ok (RpL.append ⟨l, c⟩ ⟨l', c'⟩)
      · cases e
    | _ => cases e
  | @tup r ts1 ws1 f eh l c => cases q with
    | @tup r2 ts2 ws2 f' eh' l' c' =>
      simp only [oAdd] at e
      split at e
      · next z =>
        cases e
        rw [l, l'] at z
        simp only [kAdd, eh, eh', if_pos z]
        by_cases h1 : ws1.isEmpty = true
        · simp only [h1, if_true]
          have h2 : ts1 = [] := List.eq_nil_of_length_eq_zero (by rw [l, List.isEmpty_iff.mp h1] <;> rfl)
          subst h2
          exact ⟨_, a, rfl, ok, .rfl', .tup f' eh' l' c'⟩
        · simp only [h1, Bool.false_eq_true, if_false]
          by_cases h3 : ws2.isEmpty = true
          · simp only [h3, if_true]
            have h2 : ts2 = [] := List.eq_nil_of_length_eq_zero (by rw [l', List.isEmpty_iff.mp h3] <;> rfl)
            subst h2
            rw [List.append_nil]
            exact ⟨_, a, rfl, ok, .rfl', .tup f eh l c⟩
          · simp only [h3, Bool.false_eq_true, if_false]
            exact new_tup ok (RpL.append ⟨l, c⟩ ⟨l', c'⟩)
      · cases e
    | _ => cases e
  | _ => cases e
theorem tq_mul : Op2 kMul oMul := fun a x y tx ty v ok p q e => by
  cases p with
  | int => cases q with
    | int =>
      simp only [oMul] at e
      split at e
      · next z => cases e; exact ⟨_, a, by simp only [kMul]; rw [if_pos z], ok, .rfl', .int⟩
      · cases e
    | _ => cases e
  | lst f eh l c => cases q with
    | int =>
      simp only [oMul] at e
      split at e
      · next z =>
        cases e
        rw [l] at z
        simp only [kMul, eh, if_pos z]
        exact new_lst ok (RpL.flat ⟨l, c⟩ _)
      · cases e
    | _ => cases e
  | @tup r ts1 ws1 f eh l c => cases q with
    | int =>
      simp only [oMul] at e
      split at e
      · next z =>
        cases e
        rw [l] at z
        have z' : ws1 ≠ [] := fun y => by rw [y] at z; simp at z
        simp only [kMul, eh]
        rw [if_pos ⟨z', z.2⟩]
        exact new_tup ok (RpL.flat ⟨l, c⟩ _)
      · cases e
    | _ => cases e
  | _ => cases e
theorem isNon_rp (p : Rp a t w) : decide (w = .non) = isNon t := by cases p <;> simp [isNon]
theorem tq_isN : Op2 kIsN oIsN := fun a x y tx ty v ok p q e => by
  cases q <;> cases e
  refine ⟨_, a, rfl, ok, .rfl', ?_⟩
  rw [isNon_rp p]; exact .bl
theorem tq_notN : Op2 kNotN oNotN := fun a x y tx ty v ok p q e => by
  cases q <;> cases e
  refine ⟨_, a, rfl, ok, .rfl', ?_⟩
  rw [isNon_rp p]; exact .bl
end
/-! ### sequences -/
def sqL : T → Option (List T)
  | .lst xs => some xs
  | .frl xs => some xs
  | _ => none
def sqT : T → Option (List T)
  | .tup xs => some xs
  | .ktp xs => some xs
  | _ => none
def sqA : T → Option (List T)
  | .lst xs => some xs
  | .frl xs => some xs
  | .tup xs => some xs
  | .ktp xs => some xs
  | _ => none
section
variable {a : Wd} {t : T} {w : W} {ts : List T} {ws : List W}
theorem sqL_rp (p : Rp a t w) (e : sqL t = some ts) : ∃ ws, seqL a.h w = some ws ∧ RpL a ts ws := by
  cases p <;> cases e
  · next f eh l c => exact ⟨_, by simp only [seqL, eh], l, c⟩
  · next f eh l c => exact ⟨_, by simp only [seqL, eh], l, c⟩
theorem sqT_rp (p : Rp a t w) (e : sqT t = some ts) : ∃ ws, seqL a.h w = none ∧ seqT a.h w = some ws ∧ RpL a ts ws := by
  cases p <;> cases e
  · next f eh l c => exact ⟨_, by simp only [seqL, eh], by simp only [seqT, eh], l, c⟩
  · next f eh l c => exact ⟨_, by simp only [seqL, eh], by simp only [seqT, eh], l, c⟩
theorem sqA_or (e : sqA t = some ts) : sqL t = some ts ∨ sqT t = some ts := by cases t <;> cases e <;> first | exact .inl rfl | exact .inr rfl
theorem sqA_rp (p : Rp a t w) (e : sqA t = some ts) : ∃ ws, seqA a.h w = some ws ∧ RpL a ts ws := by
  rcases sqA_or e with e | e
  · obtain ⟨ws, e1, l⟩ := sqL_rp p e; exact ⟨ws, by simp only [seqA, e1], l⟩
  · obtain ⟨ws, e0, e1, l⟩ := sqT_rp p e; exact ⟨ws, by simp only [seqA, e0, e1], l⟩
theorem RpL.ofA (p : Rp a t w) (e : sqA t = some ts) : (∃ ws, seqL a.h w = some ws ∧ RpL a ts ws) ∨ ∃ ws, seqL a.h w = none ∧ seqT a.h w = some ws ∧ RpL a ts ws := (sqA_or e).imp (sqL_rp p) (sqT_rp p)
end
def oTup (xs : List T) : Option T := if xs.length ≤ lim then some (.tup xs) else none
def oLst (xs : List T) : Option T := if xs.length ≤ lim then some (.lst xs) else none
def oLen (ts : List T) : Option T := match ts with
  | [.str z] => if z.length ≤ lim then some (.int z.length) else none
  | [w] => (sqA w).map fun xs => .int xs.length
  | _ => none
def oAbs (ws : List T) : Option T := match ws with
  | [.int i] => some (.int (if i < 0 then -i else i))
  | _ => none
def intsT : List T → Option (List Int)
  | [] => some []
  | .int i :: l => (intsT l).map (i :: ·)
  | _ :: _ => none
def blsT : List T → Option (List Bool)
  | [] => some []
  | .bl i :: l => (blsT l).map (i :: ·)
  | _ :: _ => none
def oMin (ws : List T) : Option T := match ws with
  | [.int i, .int j] => some (.int (if j < i then j else i))
  | [w] => match (sqL w).bind intsT with
    | some (x :: l) => some (.int (minL (x :: l)))
    | _ => none
  | _ => none
def oMax (ws : List T) : Option T := match ws with
  | [.int i, .int j] => some (.int (if j > i then j else i))
  | [w] => match (sqL w).bind intsT with
    | some (x :: l) => some (.int (maxL (x :: l)))
    | _ => none
  | _ => none
def oSum (ws : List T) : Option T := match ws with
  | [w] => ((sqL w).bind intsT).map fun ns => .int ns.sum
  | _ => none
def oAll (ws : List T) : Option T := match ws with
  | [w] => ((sqL w).bind blsT).map fun bs => .bl (bs.all id)
  | _ => none
def oAny (ws : List T) : Option T := match ws with
  | [w] => ((sqL w).bind blsT).map fun bs => .bl (bs.any id)
  | _ => none
def oDivmod (ws : List T) : Option T := match ws with
  | [.int i, .int j] => if 0 < j ∧ j < 1073741824 then some (.tup [.int (i / j), .int (i % j)]) else none
  | _ => none
def oInt (ws : List T) : Option T := match ws with
  | [.int i] => some (.int i)
  | [.bl b] => some (.int (if b then 1 else 0))
  | _ => none
def oTuple (ws : List T) : Option T := match ws with
  | [.lst xs] => some (.tup xs)
  | [.frl xs] => some (.tup xs)
  | [.tup xs] => some (.tup xs)
  | [.ktp xs] => some (.ktp xs)
  | _ => none
def oList (ws : List T) : Option T := match ws with
  | [w] => (sqA w).map .lst
  | _ => none
section
variable {a : Wd} {t : T} {w : W} {ts : List T} {ws : List W}
theorem RpL.one (p : RpL a [t] ws) : ∃ w, ws = [w] ∧ Rp a t w := by
  obtain ⟨w, l, rfl, hw, hl⟩ := p.inv_cons
  rw [hl.inv_nil]; exact ⟨w, rfl, hw⟩
theorem RpL.two {u : T} (p : RpL a [t, u] ws) : ∃ w x, ws = [w, x] ∧ Rp a t w ∧ Rp a u x := by
  obtain ⟨w, l, rfl, hw, hl⟩ := p.inv_cons
  obtain ⟨x, rfl, hx⟩ := hl.one
  exact ⟨w, x, rfl, hw, hx⟩
theorem ol_tup : OpL kTup oTup := fun a xs ts v ok p e => by
  unfold oTup at e
  split at e
  · next z => cases e; rw [p.1] at z; unfold kTup; rw [if_pos z]; exact new_tup ok p
  · cases e
theorem ol_lst : OpL kLst oLst := fun a xs ts v ok p e => by
  unfold oLst at e
  split at e
  · next z => cases e; rw [p.1] at z; unfold kLst; rw [if_pos z]; exact new_lst ok p
  · cases e
theorem oneW {k : List W → Mh → R W} {kt : List T → Option T} (n : ∀ ts v, kt ts = some v → ∃ t, ts = [t]) (h : ∀ a x t v, a.Ok → Rp a t x → kt [t] = some v → ∃ w b, k [x] a.h = .ok w b.h ∧ b.Ok ∧ Gr a b ∧ Rp b v w) : OpL k kt := fun a xs ts v ok p e => by
  obtain ⟨t, rfl⟩ := n ts v e
  obtain ⟨w, rfl, hw⟩ := p.one
  exact h a w t v ok hw e
theorem ol_len : OpL kLen oLen := oneW (fun ts v e => by unfold oLen at e; split at e <;> first | exact ⟨_, rfl⟩ | cases e) fun a w t v ok hw e => by
  by_cases h : ∃ z, t = .str z
  · obtain ⟨z, rfl⟩ := h
    simp only [oLen] at e
    split at e
    · next z => cases e; cases hw; exact ⟨_, a, by simp only [kLen]; rw [if_pos z], ok, .rfl', .int⟩
    · cases e
  · have e : (sqA t).map (fun xs => T.int xs.length) = some v := by cases t <;> first | exact e | exact absurd ⟨_, rfl⟩ h
    cases hs : sqA t with
    | none => rw [hs] at e; cases e
    | some ts =>
      rw [hs] at e; cases e
      have hn : ∀ z, w ≠ .str z := fun z y => by subst y; cases hw; exact h ⟨_, rfl⟩
      rcases RpL.ofA hw hs with ⟨ws, e1, l⟩ | ⟨ws, e0, e1, l⟩
      · show ∃ w_1 b, kLen [w] a.h = R.ok w_1 b.h ∧ b.Ok ∧ Gr a b ∧ Rp b (.int ts.length) w_1
        rw [l.1]
        refine ⟨_, a, ?_, ok, .rfl', .int⟩
        cases w <;> first | exact absurd rfl (hn _) | (simp only [kLen, e1])
      · show ∃ w_1 b, kLen [w] a.h = R.ok w_1 b.h ∧ b.Ok ∧ Gr a b ∧ Rp b (.int ts.length) w_1
        rw [l.1]
        refine ⟨_, a, ?_, ok, .rfl', .int⟩
        cases w <;> first | exact absurd rfl (hn _) | (simp only [kLen, e0, e1])
theorem ol_abs : OpL kAbs oAbs := oneW (fun ts v e => by unfold oAbs at e; split at e <;> first | exact ⟨_, rfl⟩ | cases e) fun a x t v ok p e => by
  cases p <;> cases e
  exact ⟨_, a, rfl, ok, .rfl', .int⟩
theorem ints_rp (p : RpL a ts ws) {ns : List Int} (e : intsT ts = some ns) : intsOf ws = some ns := by
  induction ts generalizing ws ns with
  | nil => rw [p.inv_nil]; exact e
  | cons t ts ih =>
    obtain ⟨w, l, rfl, hw, hl⟩ := p.inv_cons
    cases hw with
    | int =>
      simp only [intsT] at e
      cases q : intsT ts with
      | none => rw [q] at e; cases e
      | some ms => rw [q] at e; simp only [intsOf, ih hl q]; exact e
    | _ => simp only [intsT] at e; cases e
theorem bls_rp (p : RpL a ts ws) {ns : List Bool} (e : blsT ts = some ns) : blsOf ws = some ns := by
  induction ts generalizing ws ns with
  | nil => rw [p.inv_nil]; exact e
  | cons t ts ih =>
    obtain ⟨w, l, rfl, hw, hl⟩ := p.inv_cons
    cases hw with
    | bl =>
      simp only [blsT] at e
      cases q : blsT ts with
      | none => rw [q] at e; cases e
      | some ms => rw [q] at e; simp only [blsOf, ih hl q]; exact e
    | _ => simp only [blsT] at e; cases e
theorem intL_rp (p : Rp a t w) {ns : List Int} (e : (sqL t).bind intsT = some ns) : intL a.h w = some ns := by
  cases q : sqL t with
  | none => rw [q] at e; cases e
  | some ts =>
    rw [q] at e
    obtain ⟨ws, e1, l⟩ := sqL_rp p q
    simp only [intL, e1, Option.bind_some]
    exact ints_rp l e
theorem blL_rp (p : Rp a t w) {ns : List Bool} (e : (sqL t).bind blsT = some ns) : (seqL a.h w).bind blsOf = some ns := by
  cases q : sqL t with
  | none => rw [q] at e; cases e
  | some ts =>
    rw [q] at e
    obtain ⟨ws, e1, l⟩ := sqL_rp p q
    simp only [e1, Option.bind_some]
    exact bls_rp l e
theorem ol_min : OpL kMin oMin := fun a xs ts v ok p e => by
  unfold oMin at e
  split at e
  · obtain ⟨w, x, rfl, hw, hx⟩ := p.two
    cases hw; cases hx; cases e
    exact ⟨_, a, rfl, ok, .rfl', .int⟩
  · obtain ⟨w, rfl, hw⟩ := p.one
    split at e
    · next x l hq => cases e; exact ⟨_, a, by simp only [kMin, intL_rp hw hq], ok, .rfl', .int⟩
    · cases e
  · cases e
theorem ol_max : OpL kMax oMax := fun a xs ts v ok p e => by
  unfold oMax at e
  split at e
  · obtain ⟨w, x, rfl, hw, hx⟩ := p.two
    cases hw; cases hx; cases e
    exact ⟨_, a, rfl, ok, .rfl', .int⟩
  · obtain ⟨w, rfl, hw⟩ := p.one
    split at e
    · next x l hq => cases e; exact ⟨_, a, by simp only [kMax, intL_rp hw hq], ok, .rfl', .int⟩
    · cases e
  · cases e
theorem ol_sum : OpL kSum oSum := oneW (fun ts v e => by unfold oSum at e; split at e <;> first | exact ⟨_, rfl⟩ | cases e) fun a x t v ok p e => by
  simp only [oSum] at e
  cases q : (sqL t).bind intsT with
  | none => rw [q] at e; cases e
  | some ns => rw [q] at e; cases e; exact ⟨_, a, by simp only [kSum, intL_rp p q], ok, .rfl', .int⟩
theorem ol_all : OpL kAll oAll := oneW (fun ts v e => by unfold oAll at e; split at e <;> first | exact ⟨_, rfl⟩ | cases e) fun a x t v ok p e => by
  simp only [oAll] at e
  cases q : (sqL t).bind blsT with
  | none => rw [q] at e; cases e
  | some ns => rw [q] at e; cases e; exact ⟨_, a, by simp only [kAll, blL_rp p q], ok, .rfl', .bl⟩
theorem ol_any : OpL kAny oAny := oneW (fun ts v e => by unfold oAny at e; split at e <;> first | exact ⟨_, rfl⟩ | cases e) fun a x t v ok p e => by
  simp only [oAny] at e
  cases q : (sqL t).bind blsT with
  | none => rw [q] at e; cases e
  | some ns => rw [q] at e; cases e; exact ⟨_, a, by simp only [kAny, blL_rp p q], ok, .rfl', .bl⟩
theorem ol_divmod : OpL kDivmod oDivmod := fun a xs ts v ok p e => by
  match ts, p, e with
  | [.int i, .int j], p, e =>
    obtain ⟨w, x, rfl, hw, hx⟩ := p.two
    cases hw; cases hx
    simp only [oDivmod] at e
    split at e
    · next z =>
      cases e
      simp only [kDivmod, if_pos z]
      exact new_tup ok (.cons .int (.cons .int .nil))
    · cases e
theorem ol_int : OpL kInt oInt := oneW (fun ts v e => by unfold oInt at e; split at e <;> first | exact ⟨_, rfl⟩ | cases e) fun a x t v ok p e => by
  cases p <;> cases e
  · exact ⟨_, a, rfl, ok, .rfl', .int⟩
  · exact ⟨_, a, rfl, ok, .rfl', .int⟩
theorem ol_tuple : OpL kTuple oTuple := oneW (fun ts v e => by unfold oTuple at e; split at e <;> first | exact ⟨_, rfl⟩ | cases e) fun a x t v ok p e => by
  cases hp : p <;> cases e
  · next f eh l c => exact ⟨_, a, by simp only [kTuple, seqL, seqT, eh], ok, .rfl', p⟩
  · next f eh l c => simp only [kTuple, seqL, eh]; exact new_tup ok ⟨l, c⟩
  · next f eh l c => simp only [kTuple, seqL, eh]; exact new_tup ok ⟨l, c⟩
  · next f eh l c => exact ⟨_, a, by simp only [kTuple, seqL, seqT, eh], ok, .rfl', p⟩
theorem ol_list : OpL kList oList := oneW (fun ts v e => by unfold oList at e; split at e <;> first | exact ⟨_, rfl⟩ | cases e) fun a x t v ok p e => by
  simp only [oList] at e
  cases q : sqA t with
  | none => rw [q] at e; cases e
  | some ns =>
    rw [q] at e; cases e
    rcases RpL.ofA p q with ⟨ws, e1, l⟩ | ⟨ws, e0, e1, l⟩
    · simp only [kList, e1]; exact new_lst ok l
    · simp only [kList, e0, e1]; exact new_lst ok l
end
end Mc

namespace Mc
open PySem
/-! ### parts of sequences -/
theorem atI_some {α : Type} {xs : List α} {i : Int} {v : α} (e : L2.atI xs i = some v) : ∃ j, L2.ixN xs.length i = some j ∧ xs[j]? = some v := by
  unfold L2.atI at e
  cases q : L2.ixN xs.length i with
  | none => rw [q] at e; cases e
  | some j => rw [q] at e; exact ⟨j, rfl, e⟩
theorem atI_of {α : Type} {xs : List α} {i : Int} {j : Nat} {v : α} (e : L2.ixN xs.length i = some j) (e' : xs[j]? = some v) : L2.atI xs i = some v := by
  unfold L2.atI; rw [e]; exact e'
def oIx (x y : T) : Option T := match y with
  | .int i => match x with
    | .str z => if z.length ≤ lim then (L2.atI z.cps.toList i).map fun c => .str ⟨#[c]⟩ else none
    | x => (sqA x).bind fun xs => L2.atI xs i
  | _ => none
def cutT (xs : List T) (lo hi : Option Int) : List T := (xs.drop (HT.sIx xs.length 0 lo)).take (HT.sIx xs.length xs.length hi - HT.sIx xs.length 0 lo)
def oSl (x : T) (lo hi : Option Int) : Option T := match x with
  | .lst xs => some (.lst (cutT xs lo hi))
  | .frl xs => some (.lst (cutT xs lo hi))
  | .tup xs => some (.tup (cutT xs lo hi))
  | _ => none
abbrev TOx := TSt → RT (Option Int)
def nNone : TOx := fun τ => .ok none τ
def oI (t : T) : Option (Option Int) := match t with
  | .int i => some (some i)
  | _ => none
def nSome (m : TEx) : TOx := fun τ => (m τ).bind fun v τ1 => opt (oI v) τ1
def eSl (m : TEx) (l u : TOx) : TEx := fun τ => (m τ).bind fun x τ1 => (l τ1).bind fun lo τ2 => (u τ2).bind fun hi τ3 => opt (oSl x lo hi) τ3
def SimO' (m : MOx) (t : TOx) : Prop := ∀ a σ τ, a.Ok → SR a σ τ → SimR a σ relB (m σ a.h) (t τ)
section
variable {a : Wd} {t : T} {w : W} {ts : List T} {ws : List W} {m : MEx} {e : TEx}
theorem atI_rp (p : RpL a ts ws) {i : Int} (e : L2.atI ts i = some t) : ∃ w, L2.atI ws i = some w ∧ Rp a t w := by
  obtain ⟨j, e1, e2⟩ := atI_some e
  obtain ⟨w, e3, l⟩ := p.get e2
  exact ⟨w, atI_of (by rw [← p.1]; exact e1) e3, l⟩
theorem tq_ix : Op2 kIx oIx := fun a x y tx ty v ok p q e => by
  cases q with
  | @int i =>
    by_cases h : ∃ z, tx = .str z
    · obtain ⟨z, rfl⟩ := h
      simp only [oIx] at e
      split at e
      · next hz =>
        cases p
        cases q : L2.atI z.cps.toList i with
        | none => rw [q] at e; cases e
        | some c => rw [q] at e; cases e; exact ⟨_, a, by simp only [kIx, if_pos hz, q], ok, .rfl', .str⟩
      · cases e
    · have e : ((sqA tx).bind fun xs => L2.atI xs i) = some v := by cases tx <;> first | exact e | exact absurd ⟨_, rfl⟩ h
      have hn : ∀ z, x ≠ .str z := fun z y => by subst y; cases p; exact h ⟨_, rfl⟩
      cases hs : sqA tx with
      | none => rw [hs] at e; cases e
      | some ts =>
        rw [hs] at e
        rcases RpL.ofA p hs with ⟨ws, e1, l⟩ | ⟨ws, e0, e1, l⟩
        · obtain ⟨w, e2, l2⟩ := atI_rp l e
          refine ⟨w, a, ?_, ok, .rfl', l2⟩
          cases x <;> first | exact absurd rfl (hn _) | simp only [kIx, e1, e2]
        · obtain ⟨w, e2, l2⟩ := atI_rp l e
          refine ⟨w, a, ?_, ok, .rfl', l2⟩
          cases x <;> first | exact absurd rfl (hn _) | simp only [kIx, e0, e1, e2]
  | _ => cases e
theorem cut_rp (p : RpL a ts ws) {lo hi : Option Int} : RpL a (cutT ts lo hi) (cutW ws lo hi) := by
  unfold cutT cutW
  rw [p.1]
  exact (p.drop _).take _
theorem sl_rp (ok : a.Ok) (p : Rp a t w) {lo hi : Option Int} {v : T} (e : oSl t lo hi = some v) : ∃ w' b, kSl w lo hi a.h = .ok w' b.h ∧ b.Ok ∧ Gr a b ∧ Rp b v w' := by
  have p' := p
  cases p <;> cases e
  · next r ts ws f eh l c =>
    simp only [kSl, seqL, seqT, eh]
    split
    · next z =>
      refine ⟨_, a, rfl, ok, .rfl', ?_⟩
      have : cutT ts lo hi = ts := by
        unfold cutT
        rw [l, z.1, z.2, List.drop_zero, Nat.sub_zero, ← l, List.take_length]
      rw [this]; exact p'
    · exact new_tup ok (cut_rp ⟨l, c⟩)
  · next f eh l c => simp only [kSl, seqL, eh]; exact new_lst ok (cut_rp ⟨l, c⟩)
  · next f eh l c => simp only [kSl, seqL, eh]; exact new_lst ok (cut_rp ⟨l, c⟩)
theorem so_none : SimO' oNone nNone := fun a σ τ ok s => .now ok s rfl
theorem so_some (h : SimE m e) : SimO' (oSome m) (nSome e) := fun a σ τ ok s => (h a σ τ ok s).bind fun b v w τ' ok' f s' l => .op ok' s' fun u q => by
  cases l <;> cases q
  exact ⟨_, b, rfl, ok', .rfl', rfl⟩
theorem se_sl {l u : MOx} {lt ut : TOx} (h : SimE m e) (hl : SimO' l lt) (hu : SimO' u ut) : SimE (mSl m l u) (eSl e lt ut) := fun a σ τ ok s =>
  (h a σ τ ok s).bind fun b v w τ' ok' f s' p => (hl b σ τ' ok' s').bind fun c lo lo' τ2 ok2 f2 s2 e2 => (hu c σ τ2 ok2 s2).bind fun d hi hi' τ3 ok3 f3 s3 e3 => .op ok3 s3 fun u q => by
    cases (show lo = lo' from e2); cases (show hi = hi' from e3)
    exact sl_rp ok3 ((p.mono ok' f2).mono ok2 f3) q
end
/-! ### values read -/
def rdTL (f : T → Option PyData) : List T → Option (List PyData)
  | [] => some []
  | x :: l => match f x, rdTL f l with
    | some d, some ds => some (d :: ds)
    | _, _ => none
def rdT : Nat → T → Option PyData
  | _, .non => some .none
  | _, .bl b => some (.bool b)
  | _, .int i => some (.int i)
  | _, .str x => some (.str x)
  | n + 1, .lst xs => (rdTL (rdT n) xs).map .list
  | n + 1, .frl xs => (rdTL (rdT n) xs).map .list
  | n + 1, .tup xs => (rdTL (rdT n) xs).map .tuple
  | n + 1, .ktp xs => (rdTL (rdT n) xs).map .tuple
  | _, _ => none
def rd2T (x y : T) : Option (PyData × PyData) := match rdT 40 x, rdT 40 y with
  | some d, some e => if SeqAt.shaped d && SeqAt.shaped e then some (d, e) else none
  | _, _ => none
def oEq (x y : T) : Option T := match x, y with
  | .int i, .int j => some (.bl (decide (i = j)))
  | .str a, .str b => some (.bl (decide (a = b)))
  | x, y => (rd2T x y).map fun p => .bl (PyData.eqv p.1 p.2)
def oNe (x y : T) : Option T := match x, y with
  | .int i, .int j => some (.bl (!decide (i = j)))
  | .str a, .str b => some (.bl (!decide (a = b)))
  | x, y => (rd2T x y).map fun p => .bl (!PyData.eqv p.1 p.2)
def oRepr (ws : List T) : Option T := match ws with
  | [x] => (rdT 40 x).bind fun d => if d.showable && decide (d.depth ≤ 64) && decide (d.shown.length ≤ lim) && !d.hasDict then some (.str d.shown) else none
  | _ => none
section
variable {a : Wd} {t u : T} {w x : W} {ts : List T} {ws : List W}
theorem rdL_rp {n : Nat} (ih : ∀ t w d, Rp a t w → rdT n t = some d → rd n a.h w = some d) (p : RpL a ts ws) {ds : List PyData} (e : rdTL (rdT n) ts = some ds) : rdL (rd n a.h) ws = some ds := by
  induction ts generalizing ws ds with
  | nil => rw [p.inv_nil]; exact e
  | cons t ts ih2 =>
    obtain ⟨w, l, rfl, hw, hl⟩ := p.inv_cons
    simp only [rdTL] at e
    cases q : rdT n t with
    | none => rw [q] at e; cases e
    | some d =>
      cases q2 : rdTL (rdT n) ts with
      | none => rw [q, q2] at e; cases e
      | some ds' => rw [q, q2] at e; simp only [rdL, ih t w d hw q, ih2 hl q2]; exact e
theorem rd_rp {n : Nat} : ∀ t w d, Rp a t w → rdT n t = some d → rd n a.h w = some d := by
  induction n with
  | zero =>
    intro t w d p e
    cases p <;> first | exact e | cases e
  | succ n ih =>
    intro t w d p e
    cases p with
    | non => exact e
    | bl => exact e
    | int => exact e
    | str => exact e
    | @tup r ts ws f eh l c =>
      simp only [rdT] at e
      cases q : rdTL (rdT n) ts with
      | none => rw [q] at e; cases e
      | some ds => rw [q] at e; simp only [rd, eh, rdL_rp ih ⟨l, c⟩ q]; exact e
    | @lst r ts ws f eh l c =>
      simp only [rdT] at e
      cases q : rdTL (rdT n) ts with
      | none => rw [q] at e; cases e
      | some ds => rw [q] at e; simp only [rd, eh, rdL_rp ih ⟨l, c⟩ q]; exact e
    | @frl r ts ws f eh l c =>
      simp only [rdT] at e
      cases q : rdTL (rdT n) ts with
      | none => rw [q] at e; cases e
      | some ds => rw [q] at e; simp only [rd, eh, rdL_rp ih ⟨l, c⟩ q]; exact e
    | @ktp r ts ws f eh l c =>
      simp only [rdT] at e
      cases q : rdTL (rdT n) ts with
      | none => rw [q] at e; cases e
      | some ds => rw [q] at e; simp only [rd, eh, rdL_rp ih ⟨l, c⟩ q]; exact e
    | _ => cases e
theorem rd2_rp (p : Rp a t w) (q : Rp a u x) {r : PyData × PyData} (e : rd2T t u = some r) : rd2 w x a.h = some r := by
  unfold rd2T at e
  cases q1 : rdT 40 t with
  | none => rw [q1] at e; cases e
  | some d =>
    cases q2 : rdT 40 u with
    | none => rw [q1, q2] at e; cases e
    | some d2 =>
      rw [q1, q2] at e
      simp only [rd2, rd_rp _ _ _ p q1, rd_rp _ _ _ q q2]
      exact e
theorem eqq {k : W → W → Mh → R W} {f : PyData → PyData → Bool} (p : Rp a t w) (q : Rp a u x) (ok : a.Ok) {v : T} (hk : ∀ x y h, k x y h = match rd2 x y h with | some (d, e) => .ok (.bl (f d e)) h | none => .no)
    (e : (rd2T t u).map (fun p => T.bl (f p.1 p.2)) = some v) : ∃ w' b, k w x a.h = .ok w' b.h ∧ b.Ok ∧ Gr a b ∧ Rp b v w' := by
  cases z : rd2T t u with
  | none => rw [z] at e; cases e
  | some r =>
    rw [z] at e; cases e
    refine ⟨_, a, ?_, ok, .rfl', .bl⟩
    rw [hk, rd2_rp p q z]
theorem tq_eq2 : Op2 kEq2 oEq := fun a x y tx ty v ok p q e => by
  unfold oEq at e
  split at e
  · cases p; cases q; cases e; exact ⟨_, a, rfl, ok, .rfl', .bl⟩
  · cases p; cases q; cases e; exact ⟨_, a, rfl, ok, .rfl', .bl⟩
  · next n1 n2 =>
    have hk : kEq2 x y a.h = kEq x y a.h := by
      unfold kEq2
      split
      · cases p; cases q; exact absurd rfl (n1 _ _ rfl)
      · cases p; cases q; exact absurd rfl (n2 _ _ rfl)
      · rfl
    rw [hk]
    exact eqq (k := kEq) (f := PyData.eqv) p q ok (fun _ _ _ => rfl) e
theorem tq_ne2 : Op2 kNe2 oNe := fun a x y tx ty v ok p q e => by
  unfold oNe at e
  split at e
  · cases p; cases q; cases e; exact ⟨_, a, rfl, ok, .rfl', .bl⟩
  · cases p; cases q; cases e; exact ⟨_, a, rfl, ok, .rfl', .bl⟩
  · next n1 n2 =>
    have hk : kNe2 x y a.h = kNe x y a.h := by
      unfold kNe2
      split
      · cases p; cases q; exact absurd rfl (n1 _ _ rfl)
      · cases p; cases q; exact absurd rfl (n2 _ _ rfl)
      · rfl
    rw [hk]
    exact eqq (k := kNe) (f := (fun d e => !PyData.eqv d e)) p q ok (fun _ _ _ => rfl) e
theorem ol_repr : OpL kRepr oRepr := oneW (fun ts v e => by unfold oRepr at e; split at e <;> first | exact ⟨_, rfl⟩ | cases e) fun a x t v ok p e => by
  simp only [oRepr] at e
  cases q : rdT 40 t with
  | none => rw [q] at e; cases e
  | some d =>
    rw [q, Option.bind_some] at e
    split at e
    · next z => cases e; exact ⟨_, a, by simp only [kRepr, rd_rp _ _ _ p q, if_pos z], ok, .rfl', .str⟩
    · cases e
end
/-! ### flat values in sequences -/
def flatT : T → Bool
  | .non => true
  | .bl _ => true
  | .int _ => true
  | .str _ => true
  | _ => false
def eqT : T → T → Bool
  | .non, .non => true
  | .bl a, .bl b => a == b
  | .bl a, .int b => (if a then 1 else 0) == b
  | .int a, .bl b => a == (if b then 1 else 0)
  | .int a, .int b => a == b
  | .str a, .str b => a == b
  | _, _ => false
def inT (x : T) (xs : List T) : Bool := xs.any fun y => eqT y x
def oIn (neg : Bool) (x y : T) : Option T := (sqA y).bind fun xs => if flatT x && xs.all flatT then some (.bl (if neg then !inT x xs else inT x xs)) else none
def fstT (p : T → Bool) : List T → Option Nat
  | [] => none
  | x :: l => if p x then some 0 else (fstT p l).map (· + 1)
def oIndex (x : T) (ws : List T) : Option T := match ws with
  | [y] => (sqL x).bind fun xs => if flatT y && xs.all flatT then (fstT (fun z => eqT z y) xs).map fun j => .int j else none
  | _ => none
def OpM' (k : W → List W → Mh → R W) (kt : T → List T → Option T) : Prop := ∀ a x xs tx ts v, a.Ok → Rp a tx x → RpL a ts xs → kt tx ts = some v → ∃ w b, k x xs a.h = .ok w b.h ∧ b.Ok ∧ Gr a b ∧ Rp b v w
def tyB (T' : String) (t : T) : Bool := match t with
  | .str _ => T' == "str"
  | .lst _ => T' == "list"
  | .frl _ => T' == "list"
  | .dK _ => T' == "dict"
  | _ => false
def eMt (T' : String) (k : T → List T → Option T) (mo : TEx) (m : TAx) : TEx := fun τ => (mo τ).bind fun x τ1 => if tyB T' x then (m τ1).bind fun ws τ2 => opt (k x ws) τ2 else .no
section
variable {a : Wd} {t u : T} {w x : W} {ts : List T} {ws : List W} {m : MEx} {e : TEx} {ma : MAx} {ta : TAx}
theorem flat_rp (p : Rp a t w) : flatW w = flatT t := by cases p <;> rfl
theorem eq_rp (p : Rp a t w) (q : Rp a u x) : flatT t = true → flatT u = true → eqW w x = eqT t u := by
  intro h1 h2
  cases p <;> first | exact absurd h1 Bool.false_ne_true | skip
  all_goals (cases q <;> first | exact absurd h2 Bool.false_ne_true | rfl)
theorem flatL_rp (p : RpL a ts ws) : ws.all flatW = ts.all flatT := by
  induction ts generalizing ws with
  | nil => rw [p.inv_nil] <;> rfl
  | cons t ts ih => obtain ⟨w, l, rfl, hw, hl⟩ := p.inv_cons; simp only [List.all_cons, flat_rp hw, ih hl]
theorem in_rp (p : RpL a ts ws) (q : Rp a u x) (h : ts.all flatT = true) (hu : flatT u = true) : inW x ws = inT u ts := by
  unfold inW inT
  induction ts generalizing ws with
  | nil => rw [p.inv_nil] <;> rfl
  | cons t ts ih =>
    obtain ⟨w, l, rfl, hw, hl⟩ := p.inv_cons
    simp only [List.all_cons, Bool.and_eq_true] at h
    simp only [List.any_cons, eq_rp hw q h.1 hu, ih hl h.2]
theorem tq_in {neg : Bool} : Op2 (kInF neg) (oIn neg) := fun a x y tx ty v ok p q e => by
  unfold oIn at e
  cases hs : sqA ty with
  | none => rw [hs] at e; cases e
  | some ts =>
    rw [hs, Option.bind_some] at e
    obtain ⟨ws, e1, l⟩ := sqA_rp q hs
    split at e
    · next z =>
      cases e
      simp only [Bool.and_eq_true] at z
      refine ⟨_, a, ?_, ok, .rfl', .bl⟩
      simp only [kInF, e1]
      rw [flat_rp p, flatL_rp l, z.1, z.2, in_rp l p z.2 z.1] <;> rfl
    · cases e
theorem fst_rp (p : RpL a ts ws) (q : Rp a u x) (h : ts.all flatT = true) (hu : flatT u = true) : fstAt (fun z => eqW z x) ws = fstT (fun z => eqT z u) ts := by
  induction ts generalizing ws with
  | nil => rw [p.inv_nil] <;> rfl
  | cons t ts ih =>
    obtain ⟨w, l, rfl, hw, hl⟩ := p.inv_cons
    simp only [List.all_cons, Bool.and_eq_true] at h
    simp only [fstAt, fstT, eq_rp hw q h.1 hu, ih hl h.2]
theorem om_index : OpM' kIndex oIndex := fun a x xs tx ts v ok p q e => by
  unfold oIndex at e
  split at e
  · obtain ⟨y, rfl, hy⟩ := q.one
    cases hs : sqL tx with
    | none => rw [hs] at e; cases e
    | some us =>
      rw [hs, Option.bind_some] at e
      obtain ⟨ws, e1, l⟩ := sqL_rp p hs
      split at e
      · next t z =>
        simp only [Bool.and_eq_true] at z
        cases hf : fstT (fun z => eqT z t) us with
        | none => rw [hf] at e; cases e
        | some j =>
          rw [hf] at e; cases e
          refine ⟨_, a, ?_, ok, .rfl', .int⟩
          simp only [kIndex, e1]
          rw [flat_rp hy, flatL_rp l, z.1, z.2, fst_rp l hy z.2 z.1, hf] <;> rfl
      · cases e
  · cases e
theorem ty_rp {T' : String} (p : Rp a t w) (h : tyB T' t = true) : isT T' w a.h = true := by
  cases p <;> first | exact h | cases h | skip
  all_goals (next f eh l c => simp only [isT, eh]; exact h)
theorem se_mt {T' : String} {k : W → List W → Mh → R W} {kt : T → List T → Option T} (o : OpM' k kt) (h : SimE m e) (h' : SimA ma ta) : SimE (mMt T' k m ma) (eMt T' kt e ta) := fun a σ τ ok s =>
  (h a σ τ ok s).bind fun b v w τ' ok' f s' l => by
    cases hT : tyB T' v with
    | false => trivial
    | true =>
      rw [if_pos (ty_rp l hT)]
      exact (h' b σ τ' ok' s').bind fun c vs ws τ2 ok2 f2 s2 l2 => .op ok2 s2 fun u q => o c w ws v vs u ok2 (l.mono ok' f2) l2 q
end
end Mc

namespace Mc
open PySem
/-! ### statements -/
inductive TFl where
  | nx | rt (v : T) | bk | ct | xc (x : TExn)
abbrev TRS := Option (TFl × TSt)
abbrev TSx := TSt → TRS
abbrev TGx := T → TSt → Option TSt
abbrev TGs := List T → TSt → Option TSt
def RT.stm {α : Type} (r : RT α) (k : α → TSt → TRS) : TRS := match r with
  | .ok a τ => k a τ
  | .ex x τ => some (.xc x, τ)
  | .no => none
def oNx (o : Option TSt) : TRS := match o with
  | some τ => some (.nx, τ)
  | none => none
def zNil : TSx := fun τ => some (.nx, τ)
def zSeq (a b : TSx) : TSx := fun τ => match a τ with
  | some (.nx, τ') => b τ'
  | r => r
def zBreak : TSx := fun τ => some (.bk, τ)
def zCont : TSx := fun τ => some (.ct, τ)
def zNo : TSx := fun _ => none
def zDrop (m : TEx) : TSx := fun τ => (m τ).stm fun _ τ' => some (.nx, τ')
def zRet (m : TEx) : TSx := fun τ => (m τ).stm fun v τ' => some (.rt v, τ')
def zRetN : TSx := fun τ => some (.rt .non, τ)
def zIf (c : TTx) (a b : TSx) : TSx := fun τ => (c τ).stm fun k τ' => if k then a τ' else b τ'
def zAsg (m : TEx) (g : TGx) : TSx := fun τ => (m τ).stm fun v τ' => oNx (g v τ')
def zAsg2 (m : TEx) (g1 g2 : TGx) : TSx := fun τ => (m τ).stm fun v τ' => oNx ((g1 v τ').bind fun τ2 => g2 v τ2)
def yN (i : Nat) : TGx := fun v τ => some (τ.set i (some (.fz v)))
def ysNil : TGs := fun vs τ => match vs with
  | [] => some τ
  | _ => none
def ysCons (g : TGx) (gs : TGs) : TGs := fun vs τ => match vs with
  | v :: r => (g v τ).bind fun τ' => gs r τ'
  | [] => none
def yTp (n : Nat) (gs : TGs) : TGx := fun v τ => (sqA v).bind fun xs => if xs.length = n then gs xs τ else none
def yAt (k : Nat) (ti : TEx) : TGx := fun v τ => match ti τ with
  | .ok (.int i) τ1 => match owAt τ1 k with
    | some (.lst xs) => (L2.ixN xs.length i).map fun j => τ1.set k (some (.ow (.lst (xs.set j v))))
    | _ => none
  | _ => none
def frzT (τ : TSt) (k : Nat) : TSt := match τ[k]? with
  | some (some (.ow t)) => τ.set k (some (.fz t))
  | _ => τ
def zFz (k : Nat) (t : TSx) : TSx := fun τ => t (frzT τ k)
def zAug (i : Nat) (k : T → T → Option T) (m : TEx) : TSx := fun τ => match fzAt τ i with
  | some x => (m τ).stm fun y τ1 => (opt (k x y) τ1).stm fun z τ2 => some (.nx, τ2.set i (some (.fz z)))
  | none => none
def setAll : List Nat → List T → TSt → TSt
  | i :: is, v :: vs, τ => setAll is vs (τ.set i (some (.fz v)))
  | _, _, τ => τ
def zPar (is : List Nat) (m : TAx) : TSx := fun τ => (m τ).stm fun vs τ1 => if vs.length = is.length then some (.nx, setAll is vs τ1) else none
/-! ### what follows what -/
def Pin (P : List Nat) (σ σ' : MSt) : Prop := ∀ k ∈ P, σ'[k]? = σ[k]?
def FlR (b : Wd) (σ' : MSt) : TFl → Fl → Prop
  | .nx, .nx σ1 => σ1 = σ'
  | .rt v, .rt w => Rp b v w
  | .bk, .bk σ1 => σ1 = σ'
  | .ct, .ct σ1 => σ1 = σ'
  | .xc x, .xc e σ1 => σ1 = σ' ∧ ExR b x e
  | _, _ => False
def SimFl (P : List Nat) (a : Wd) (σ : MSt) (r : MR) : TRS → Prop
  | none => True
  | some (f, τ) => ∃ g b σ', r = some (g, b.h) ∧ b.Ok ∧ Fr a b ∧ SR b σ' τ ∧ Pin P σ σ' ∧ FlR b σ' f g
def SimS (P : List Nat) (m : MSx) (t : TSx) : Prop := ∀ a σ τ, a.Ok → SR a σ τ → SimFl P a σ (m σ a.h) (t τ)
def SimGr (P : List Nat) (a : Wd) (σ : MSt) (r : Option (MSt × Mh)) : Option TSt → Prop
  | none => True
  | some τ => ∃ σ' b, r = some (σ', b.h) ∧ b.Ok ∧ Fr a b ∧ SR b σ' τ ∧ Pin P σ σ'
def SimG (P : List Nat) (g : MGx) (t : TGx) : Prop := ∀ a σ τ w v, a.Ok → SR a σ τ → Rp a v w → SimGr P a σ (g w σ a.h) (t v τ)
def SimGs (P : List Nat) (g : MGs) (t : TGs) : Prop := ∀ a σ τ ws vs, a.Ok → SR a σ τ → RpL a vs ws → SimGr P a σ (g ws σ a.h) (t vs τ)
section
variable {P : List Nat} {a b : Wd} {σ σ' σ2 : MSt} {τ : TSt} {m m' : MEx} {t t' : TEx} {ms mt : MSx} {ts tt : TSx} {c : MTx} {u : TTx} {g g' : MGx} {y y' : TGx} {gs : MGs} {ys : TGs} {ma : MAx} {ta : TAx}
theorem Pin.rfl' : Pin P σ σ := fun _ _ => rfl
theorem Pin.trans (p : Pin P σ σ') (q : Pin P σ' σ2) : Pin P σ σ2 := fun k h => (q k h).trans (p k h)
theorem Pin.set {i : Nat} {x : Option W} (h : i ∉ P) : Pin P σ (σ.set i x) := fun k hk => List.getElem?_set_ne (show i ≠ k from fun z => h (z ▸ hk))
theorem SimFl.pre {r : MR} {q : TRS} (f : Fr a b) (p : Pin P σ σ') (s : SimFl P b σ' r q) : SimFl P a σ r q := by
  cases q with
  | none => trivial
  | some x => obtain ⟨fl, τ⟩ := x; obtain ⟨g, c, σ2, e, ok, f2, s2, p2, l⟩ := s; exact ⟨g, c, σ2, e, ok, f.trans f2, s2, p.trans p2, l⟩
theorem SimGr.pre {r : Option (MSt × Mh)} {q : Option TSt} (f : Fr a b) (p : Pin P σ σ') (s : SimGr P b σ' r q) : SimGr P a σ r q := by
  cases q with
  | none => trivial
  | some τ => obtain ⟨σ2, c, e, ok, f2, s2, p2⟩ := s; exact ⟨σ2, c, e, ok, f.trans f2, s2, p.trans p2⟩
theorem SimR.stm {α β : Type} {rel : Wd → α → β → Prop} {r : R β} {q : RT α} {k : β → Mh → MR} {kt : α → TSt → TRS} (s : SimR a σ rel r q) (n : ∀ b v w τ', b.Ok → Fr a b → SR b σ τ' → rel b v w → SimFl P b σ (k w b.h) (kt v τ')) : SimFl P a σ (r.stm σ k) (q.stm kt) := by
  cases q with
  | ok v τ =>
    obtain ⟨w, c, rfl, ok, g, z, l⟩ := s
    exact (n c v w τ ok g z l).pre g .rfl'
  | ex x τ =>
    obtain ⟨w, c, rfl, ok, g, z, l⟩ := s
    exact ⟨_, c, σ, rfl, ok, g, z, .rfl', rfl, l⟩
  | no => trivial
theorem SimFl.nx (ok : a.Ok) (s : SR a σ τ) : SimFl P a σ (some (.nx σ, a.h)) (some (.nx, τ)) := ⟨_, a, σ, rfl, ok, .rfl', s, .rfl', rfl⟩
theorem SimFl.rt {v : T} {w : W} (ok : a.Ok) (s : SR a σ τ) (l : Rp a v w) : SimFl P a σ (some (.rt w, a.h)) (some (.rt v, τ)) := ⟨_, a, σ, rfl, ok, .rfl', s, .rfl', l⟩
theorem ss_nil : SimS P sNil zNil := fun a σ τ ok s => .nx ok s
theorem ss_pass : SimS P sPass zNil := fun a σ τ ok s => .nx ok s
theorem ss_seq (h : SimS P ms ts) (h' : SimS P mt tt) : SimS P (sSeq ms mt) (zSeq ts tt) := fun a σ τ ok s => by
  have z := h a σ τ ok s
  unfold sSeq zSeq
  cases q : ts τ with
  | none => trivial
  | some x =>
    obtain ⟨f, τ1⟩ := x
    rw [q] at z
    obtain ⟨g, b, σ1, e, ok1, f1, s1, p1, l1⟩ := z
    rw [e]
    cases f <;> cases g <;> first | exact l1.elim | skip
    · cases (show _ = σ1 from l1); exact (h' b _ τ1 ok1 s1).pre f1 p1
    · exact ⟨_, b, σ1, rfl, ok1, f1, s1, p1, l1⟩
    · exact ⟨_, b, σ1, rfl, ok1, f1, s1, p1, l1⟩
    · exact ⟨_, b, σ1, rfl, ok1, f1, s1, p1, l1⟩
    · exact ⟨_, b, σ1, rfl, ok1, f1, s1, p1, l1⟩
theorem ss_break : SimS P sBreak zBreak := fun a σ τ ok s => ⟨_, a, σ, rfl, ok, .rfl', s, .rfl', rfl⟩
theorem ss_cont : SimS P sCont zCont := fun a σ τ ok s => ⟨_, a, σ, rfl, ok, .rfl', s, .rfl', rfl⟩
theorem ss_no : SimS P ms zNo := fun a σ τ ok s => trivial
theorem ss_drop (h : SimE m t) : SimS P (sDrop m) (zDrop t) := fun a σ τ ok s => (h a σ τ ok s).stm fun b v w τ' ok' f s' l => .nx ok' s'
theorem ss_ret (h : SimE m t) : SimS P (sRet m) (zRet t) := fun a σ τ ok s => (h a σ τ ok s).stm fun b v w τ' ok' f s' l => .rt ok' s' l
theorem ss_retN : SimS P sRetN zRetN := fun a σ τ ok s => .rt ok s .non
theorem ss_if (h : SimT c u) (h1 : SimS P ms ts) (h2 : SimS P mt tt) : SimS P (sIf c ms mt) (zIf u ts tt) := fun a σ τ ok s => (h a σ τ ok s).stm fun b v w τ' ok' f s' l => by
  cases (show v = w from l)
  cases v
  · exact h2 b σ τ' ok' s'
  · exact h1 b σ τ' ok' s'
theorem ss_asg (h : SimE m t) (hg : SimG P g y) : SimS P (sAsg m g) (zAsg t y) := fun a σ τ ok s => (h a σ τ ok s).stm fun b v w τ' ok' f s' l => by
  have z := hg b σ τ' w v ok' s' l
  cases q : y v τ' with
  | none => trivial
  | some τ1 =>
    rw [q] at z
    obtain ⟨σ1, c, e1, ok1, f1, s1, p1⟩ := z
    rw [e1]
    exact ⟨_, c, σ1, rfl, ok1, f1, s1, p1, rfl⟩
theorem ss_asg2 (h : SimE m t) (hg : SimG P g y) (hg' : SimG P g' y') : SimS P (sAsg2 m g g') (zAsg2 t y y') := fun a σ τ ok s => (h a σ τ ok s).stm fun b v w τ' ok' f s' l => by
  have z := hg b σ τ' w v ok' s' l
  cases q : y v τ' with
  | none => trivial
  | some τ1 =>
    rw [q] at z
    obtain ⟨σ1, c, e1, ok1, f1, s1, p1⟩ := z
    have z2 := (hg' c σ1 τ1 w v ok1 s1 (l.mono ok' f1)).pre f1 p1
    rw [e1]
    simp only [Option.bind_some]
    cases q2 : y' v τ1 with
    | none => trivial
    | some τ2 =>
      rw [q2] at z2
      obtain ⟨σ2, d, e2, ok2, f2, s2, p2⟩ := z2
      rw [e2]
      exact ⟨_, d, σ2, rfl, ok2, f2, s2, p2, rfl⟩
theorem sg_n {i : Nat} (h : i ∉ P) : SimG P (gN i) (yN i) := fun a σ τ w v ok s l => ⟨_, a, rfl, ok, .rfl', s.put l i, .set h⟩
theorem sgs_nil : SimGs P gsNil ysNil := fun a σ τ ws vs ok s l => by
  cases vs with
  | nil => rw [l.inv_nil]; exact ⟨_, a, rfl, ok, .rfl', s, .rfl'⟩
  | cons v vs => trivial
theorem sgs_cons (h : SimG P g y) (h' : SimGs P gs ys) : SimGs P (gsCons g gs) (ysCons y ys) := fun a σ τ ws vs ok s l => by
  cases vs with
  | nil => trivial
  | cons v vs =>
    obtain ⟨w, ws, rfl, hw, hl⟩ := l.inv_cons
    have z := h a σ τ w v ok s hw
    simp only [ysCons, gsCons]
    cases q : y v τ with
    | none => trivial
    | some τ1 =>
      rw [q] at z
      obtain ⟨σ1, c, e1, ok1, f1, s1, p1⟩ := z
      rw [e1]
      exact (h' c σ1 τ1 ws vs ok1 s1 (hl.mono ok f1)).pre f1 p1
theorem sg_tp {n : Nat} (h : SimGs P gs ys) : SimG P (gTp n gs) (yTp n ys) := fun a σ τ w v ok s l => by
  unfold gTp yTp
  cases q : sqA v with
  | none => trivial
  | some xs =>
    obtain ⟨ws, e, hl⟩ := sqA_rp l q
    rw [e, Option.bind_some]
    by_cases c : xs.length = n
    · simp only [if_pos c, if_pos (show ws.length = n by rw [← hl.1]; exact c)]
      exact h a σ τ ws xs ok s hl
    · rw [if_neg c]; trivial
theorem kStore_rp {r : Nat} {ws : List W} {i : Int} {j : Nat} {w : W} (e : a.h[r]? = some (.lst ws)) (hj : L2.ixN ws.length i = some j) : kStore (.ref r) (.int i) w a.h = some (a.put r (.lst (ws.set j w))).h := by
  simp only [kStore, e, hj]; rfl
theorem put_get {r : Nat} {o o' : MO} (e : a.h[r]? = some o') : (a.put r o).h[r]? = some o := List.getElem?_set_self (List.getElem?_eq_some_iff.mp e).1
theorem sg_at {k : Nat} (h : SimE m t) : SimG P (gAt (mV k) m) (yAt k t) := fun a σ τ w v ok s l => by
  have z := h a σ τ ok s
  unfold yAt
  cases q : t τ with
  | no => trivial
  | ex x τ' => trivial
  | ok x τ1 =>
    cases x with
    | int i =>
      rw [q] at z
      obtain ⟨w1, b, e1, ok1, f1, s1, l1⟩ := z
      cases l1
      simp only []
      cases q2 : owAt τ1 k with
      | none => trivial
      | some o =>
        cases o with
        | lst xs =>
          simp only []
          obtain ⟨r, es, hr, ws, eh, hl⟩ := s1.ow (owAt_some q2)
          cases q3 : L2.ixN xs.length i with
          | none => trivial
          | some j =>
            have e0 : mV k σ a.h = .ok (.ref r) a.h := by simp only [mV, es]
            refine ⟨σ, b.put r (.lst (ws.set j w)), ?_, ok1.put, f1.trans (.put hr), ?_, .rfl'⟩
            · simp only [gAt, e0, rok, e1, kStore_rp eh (by rw [← hl.1]; exact q3)]; rfl
            · exact s1.chg ok1 (owAt_some q2) es hr ⟨_, put_get eh, ((hl.mono ok1 (.put hr)).set ((l.mono ok f1).mono ok1 (.put hr)) j)⟩
        | _ => trivial
    | _ => trivial
theorem frz_sr (ok : a.Ok) (s : SR a σ τ) (k : Nat) : ∃ b, b.Ok ∧ Fr a b ∧ b.h = a.h ∧ SR b σ (frzT τ k) := by
  unfold frzT
  split
  · next t e =>
    obtain ⟨r, es, hr, p⟩ := s.ow e
    exact ⟨a.frz r, ok.frz (ok.ol r hr), .frz (.inl hr), rfl, s.frz ok e es⟩
  · exact ⟨a, ok, .rfl', rfl, s⟩
theorem ss_fz {k : Nat} (h : SimS P ms ts) : SimS P ms (zFz k ts) := fun a σ τ ok s => by
  obtain ⟨b, ok', f, e, s'⟩ := frz_sr ok s k
  have z := (h b σ _ ok' s').pre f .rfl'
  rw [e] at z
  exact z
theorem ss_aug {i : Nat} {k : W → W → Mh → R W} {kt : T → T → Option T} (o : Op2 k kt) (hi : i ∉ P) (h : SimE m t) : SimS P (sAug i k m) (zAug i kt t) := fun a σ τ ok s => by
  unfold sAug zAug
  cases q : fzAt τ i with
  | none => trivial
  | some x =>
    obtain ⟨w, ew, l⟩ := s.fz (fzAt_some q)
    rw [ew]
    exact (h a σ τ ok s).stm fun b v w2 τ' ok' f s' l2 => (SimR.op ok' s' fun v' e => o b w w2 x v v' ok' (l.mono ok f) l2 e).stm fun c v3 w3 τ3 ok3 f3 s3 l3 => ⟨_, c, _, rfl, ok3, .rfl', s3.put l3 i, .set hi, rfl⟩
theorem setAll_sr {is : List Nat} {vs : List T} {ws : List W} (hi : ∀ i ∈ is, i ∉ P) (l : RpL a vs ws) (s : SR a σ τ) : SR a ((is.zip ws).foldl (fun τ p => τ.set p.1 (some p.2)) σ) (setAll is vs τ) ∧ Pin P σ ((is.zip ws).foldl (fun τ p => τ.set p.1 (some p.2)) σ) := by
  induction is generalizing vs ws σ τ with
  | nil => exact ⟨by simpa [setAll] using s, by simpa using Pin.rfl'⟩
  | cons i is ih =>
    cases vs with
    | nil => rw [l.inv_nil]; exact ⟨by simpa [setAll] using s, by simpa using Pin.rfl'⟩
    | cons v vs =>
      obtain ⟨w, ws, rfl, hw, hl⟩ := l.inv_cons
      have z := ih (σ := σ.set i (some w)) (fun j hj => hi j (List.mem_cons_of_mem _ hj)) hl (s.put hw i)
      exact ⟨z.1, (Pin.set (hi i List.mem_cons_self)).trans z.2⟩
theorem ss_par {is : List Nat} (hi : ∀ i ∈ is, i ∉ P) (h : SimA ma ta) : SimS P (sPar is ma) (zPar is ta) := fun a σ τ ok s => (h a σ τ ok s).stm fun b vs ws τ' ok' f s' l => by
  by_cases c : vs.length = is.length
  · rw [if_pos c, if_pos (by rw [← l.1]; exact c)]
    have z := setAll_sr hi l s'
    exact ⟨_, b, _, rfl, ok', .rfl', z.1, z.2, rfl⟩
  · rw [if_neg c]; trivial
end
/-! ### what is owned -/
def SimOr (a : Wd) (σ : MSt) (r : R W) : RT T → Prop
  | .ok v τ => ∃ i b, r = .ok (.ref i) b.h ∧ b.Ok ∧ Fr a b ∧ SR b σ τ ∧ b.O i ∧ OwR b v i ∧ a.h.length ≤ i ∧ ∀ (k : Nat) (u : T), τ[k]? = some (some (.ow u)) → σ[k]? ≠ some (some (.ref i))
  | .ex x τ => ∃ e b, r = .ex e b.h ∧ b.Ok ∧ Fr a b ∧ SR b σ τ ∧ ExR b x e
  | .no => True
def SimO (m : MEx) (t : TEx) : Prop := ∀ a σ τ, a.Ok → SR a σ τ → SimOr a σ (m σ a.h) (t τ)
def OpLo (k : List W → Mh → R W) (kt : List T → Option T) : Prop := ∀ a xs ts v, a.Ok → RpL a ts xs → kt ts = some v → ∃ ws vs, v = .lst vs ∧ k xs a.h = al (.lst ws) a.h ∧ RpL a vs ws
def Op2o (k : W → W → Mh → R W) (kt : T → T → Option T) : Prop := ∀ a x y tx ty v, a.Ok → Rp a tx x → Rp a ty y → kt tx ty = some v → ∃ ws vs, v = .lst vs ∧ k x y a.h = al (.lst ws) a.h ∧ RpL a vs ws
def zAsgO (m : TEx) (i : Nat) : TSx := fun τ => (m τ).stm fun v τ' => some (.nx, τ'.set i (some (.ow v)))
def isL : T → Bool
  | .lst _ => true
  | _ => false
def onL (k : T → T → Option T) (x y : T) : Option T := if isL x then k x y else none
section
variable {P : List Nat} {a b : Wd} {σ σ' σ2 : MSt} {τ : TSt} {m m' : MEx} {t t' : TEx} {ma : MAx} {ta : TAx}
theorem SimOr.pre {r : R W} {q : RT T} (f : Fr a b) (s : SimOr b σ r q) : SimOr a σ r q := by
  cases q with
  | ok v τ => obtain ⟨w, c, e, ok, g, z1, z2, z3, z4, z⟩ := s; exact ⟨w, c, e, ok, f.trans g, z1, z2, z3, Nat.le_trans f.len z4, z⟩
  | ex x τ => obtain ⟨w, c, e, ok, g, z⟩ := s; exact ⟨w, c, e, ok, f.trans g, z⟩
  | no => trivial
theorem SimR.bindO {α β : Type} {rel : Wd → α → β → Prop} {r : R β} {q : RT α} {k : β → Mh → R W} {kt : α → TSt → RT T} (s : SimR a σ rel r q) (n : ∀ b v w τ', b.Ok → Fr a b → SR b σ τ' → rel b v w → SimOr b σ (k w b.h) (kt v τ')) : SimOr a σ (r.bind k) (q.bind kt) := by
  cases q with
  | ok v τ =>
    obtain ⟨w, c, rfl, ok, g, z, l⟩ := s
    exact (n c v w τ ok g z l).pre g
  | ex x τ =>
    obtain ⟨w, c, rfl, ok, g, z, l⟩ := s
    exact ⟨w, c, rfl, ok, g, z, l⟩
  | no => trivial
theorem fresh_len (ok : a.Ok) (s : SR a σ τ) : ∀ (k : Nat) (u : T), τ[k]? = some (some (.ow u)) → σ[k]? ≠ some (some (.ref a.h.length)) := fun k u e z => by
  obtain ⟨r, es, hr, _⟩ := s.ow e
  rw [z] at es
  cases es
  exact Nat.lt_irrefl _ (ok.ol _ hr)
theorem SimOr.new {ws : List W} {vs : List T} (ok : a.Ok) (s : SR a σ τ) (l : RpL a vs ws) : SimOr a σ (al (.lst ws) a.h) (.ok (.lst vs) τ) :=
  ⟨a.h.length, a.newO (.lst ws), rfl, ok.newO, .newO, s.newO ok, .inr rfl, ⟨ws, newO_at, l.mono ok .newO⟩, Nat.le_refl _, fresh_len ok s⟩
theorem so_arg {k : List W → Mh → R W} {kt : List T → Option T} (o : OpLo k kt) (h : SimA ma ta) : SimO (mArg k ma) (eArg kt ta) := fun a σ τ ok s =>
  (h a σ τ ok s).bindO fun b v w τ' ok' f s' l => by
    cases q : kt v with
    | none => trivial
    | some u => obtain ⟨ws, vs, rfl, e, l2⟩ := o b w v u ok' l q; rw [e]; exact .new ok' s' l2
theorem so_2 {k : W → W → Mh → R W} {kt : T → T → Option T} (o : Op2o k kt) (h : SimE m t) (h' : SimE m' t') : SimO (m2 k m m') (e2 kt t t') := fun a σ τ ok s =>
  (h a σ τ ok s).bindO fun b v w τ' ok' f s' l => (h' b σ τ' ok' s').bindO fun c v2 w2 τ2 ok2 f2 s2 l2 => by
    cases q : kt v v2 with
    | none => trivial
    | some u => obtain ⟨ws, vs, rfl, e, l3⟩ := o c w w2 v v2 u ok2 (l.mono ok' f2) l2 q; rw [e]; exact .new ok2 s2 l3
theorem oo_lst : OpLo kLst oLst := fun a xs ts v ok p e => by
  unfold oLst at e
  split at e
  · next z => cases e; rw [p.1] at z; exact ⟨xs, ts, rfl, by unfold kLst; rw [if_pos z], p⟩
  · cases e
theorem oo_list : OpLo kList oList := fun a xs ts v ok p e => by
  unfold oList at e
  split at e
  · obtain ⟨x, rfl, hx⟩ := p.one
    next t =>
    cases q : sqA t with
    | none => rw [q] at e; cases e
    | some ns =>
      rw [q] at e; cases e
      rcases RpL.ofA hx q with ⟨ws, e1, l⟩ | ⟨ws, e0, e1, l⟩
      · exact ⟨ws, ns, rfl, by simp only [kList, e1], l⟩
      · exact ⟨ws, ns, rfl, by simp only [kList, e0, e1], l⟩
  · cases e
theorem oo_mul : Op2o kMul (onL oMul) := fun a x y tx ty v ok p q e => by
  unfold onL at e
  split at e
  · cases p <;> first | (next h => cases h; done) | skip
    next f eh l c h =>
    cases q with
    | int =>
      simp only [oMul] at e
      split at e
      · next z =>
        cases e
        rw [l] at z
        exact ⟨_, _, rfl, by simp only [kMul, eh, if_pos z], RpL.flat ⟨l, c⟩ _⟩
      · cases e
    | _ => cases e
  · cases e
theorem oo_add : Op2o kAdd (onL oAdd) := fun a x y tx ty v ok p q e => by
  unfold onL at e
  split at e
  · cases p <;> first | (next h => cases h; done) | skip
    next f eh l c h =>
    cases q with
    | lst f' eh' l' c' =>
      simp only [oAdd] at e
      split at e
      · next z =>
        cases e
        rw [l, l'] at z
        exact ⟨_, _, rfl, by simp only [kAdd, eh, eh', if_pos z], RpL.append ⟨l, c⟩ ⟨l', c'⟩⟩
      · cases e
    | _ => cases e
  · cases e
theorem ss_asgO {i : Nat} (hi : i ∉ P) (h : SimO m t) : SimS P (sAsg m (gN i)) (zAsgO t i) := fun a σ τ ok s => by
  have z := h a σ τ ok s
  unfold sAsg zAsgO
  cases q : t τ with
  | no => trivial
  | ex x τ' =>
    rw [q] at z
    obtain ⟨e, b, e1, ok1, f1, s1, l1⟩ := z
    rw [e1]
    exact ⟨_, b, σ, rfl, ok1, f1, s1, .rfl', rfl, l1⟩
  | ok v τ' =>
    rw [q] at z
    obtain ⟨r, b, e1, ok1, f1, s1, hr, ow, _, fr⟩ := z
    rw [e1]
    exact ⟨_, b, _, rfl, ok1, f1, s1.own hr ow fr i, .set hi, rfl⟩
/-- frozen at once -/
theorem SimO.e (h : SimO m t) : SimE m t := fun a σ τ ok s => by
  have z := h a σ τ ok s
  cases q : t τ with
  | no => trivial
  | ex x τ' => rw [q] at z; exact z
  | ok v τ' =>
    rw [q] at z
    obtain ⟨r, b, e1, ok1, f1, s1, hr, ow, _, fr⟩ := z
    have F : Fr b (b.frz r) := .frz (.inl hr)
    refine ⟨.ref r, b.frz r, e1, ok1.frz (ok1.ol r hr), f1.trans F, ⟨s1.len, fun k x y e e' => ?_, s1.inj⟩, (ow.keep ok1 F fun _ z => z).rp (.inr rfl)⟩
    have z := s1.at_ k x y e e'
    cases y with
    | none => trivial
    | some sv => cases sv with
      | fz t => obtain ⟨w, e, l⟩ := z; exact ⟨w, e, l.mono ok1 F⟩
      | ow t' =>
        obtain ⟨r2, e2, o2, l⟩ := z
        refine ⟨r2, e2, ⟨o2, fun z => ?_⟩, l.keep ok1 F fun o3 e3 => e3⟩
        subst z; subst e2
        exact fr k t' e' e
end
/-! ### parts of what a slot owns -/
def owL (τ : TSt) (k : Nat) : Option (List T) := match τ[k]? with
  | some (some (.ow (.lst xs))) => some xs
  | _ => none
theorem owL_some {τ : TSt} {i : Nat} {xs : List T} (e : owL τ i = some xs) : τ[i]? = some (some (.ow (.lst xs))) := by
  unfold owL at e
  split at e
  · cases e; assumption
  · cases e
def oAt (xs : List T) : T → Option T
  | .int i => L2.atI xs i
  | _ => none
def hasO {α : Type} (τ : TSt) (k : Nat) (r : RT α) : RT α := match owL τ k with
  | some _ => r
  | none => .no
def eIxO (k : Nat) (ti : TEx) : TEx := fun τ => hasO τ k <| (ti τ).bind fun y τ1 => opt ((owL τ1 k).bind fun xs => oAt xs y) τ1
def eLenO (k : Nat) : TEx := fun τ => opt ((owL τ k).map fun xs => .int xs.length) τ
def eTupO (k : Nat) : TEx := fun τ => opt ((owL τ k).map .tup) τ
def eAppO (k : Nat) (m : TEx) : TEx := fun τ => hasO τ k <| (m τ).bind fun v τ1 => (opt (owL τ1 k) τ1).bind fun xs τ2 => if xs.length < lim then .ok .non (τ2.set k (some (.ow (.lst (xs ++ [v]))))) else .no
def eExtO (k : Nat) (m : TEx) : TEx := fun τ => hasO τ k <| (m τ).bind fun v τ1 => (opt (owL τ1 k) τ1).bind fun xs τ2 => match v with
  | .lst ys => if xs.length + ys.length ≤ lim then .ok .non (τ2.set k (some (.ow (.lst (xs ++ ys))))) else .no
  | _ => .no
def hasS (τ : TSt) (k : Nat) (r : TRS) : TRS := match owL τ k with
  | some _ => r
  | none => none
def zAugS (k : Nat) (kt : T → T → Option T) (ti m : TEx) : TSx := fun τ => hasS τ k <| (ti τ).stm fun y τ1 => match owL τ1 k, y with
  | some xs, .int i => if 0 ≤ i then (match xs[i.toNat]? with
    | some x => (m τ1).stm fun u τ2 => match kt x u, owL τ2 k with
      | some z, some xs' => (match L2.ixN xs'.length i with
        | some j => some (.nx, τ2.set k (some (.ow (.lst (xs'.set j z)))))
        | none => none)
      | _, _ => none
    | none => none) else none
  | _, _ => none
section
variable {P : List Nat} {a b : Wd} {σ σ' σ2 : MSt} {τ : TSt} {m m' : MEx} {t t' : TEx} {k : Nat}
theorem SR.owL (s : SR a σ τ) {xs : List T} (e : Mc.owL τ k = some xs) : ∃ r ws, σ[k]? = some (some (.ref r)) ∧ a.O r ∧ a.h[r]? = some (.lst ws) ∧ RpL a xs ws := by
  obtain ⟨r, es, hr, ws, e1, l⟩ := s.ow (owL_some e)
  exact ⟨r, ws, es, hr, e1, l⟩
theorem se_lenO : SimE (mArg kLen (mCons (mV k) mNil)) (eLenO k) := fun a σ τ ok s => .op ok s fun v e => by
  cases q : owL τ k with
  | none => rw [q] at e; cases e
  | some xs =>
    rw [q] at e; cases e
    obtain ⟨r, ws, es, hr, eh, l⟩ := s.owL q
    exact ⟨.int ws.length, a, by simp only [mArg, mCons, mV, es, R.bind, mNil, kLen, seqL, eh], ok, .rfl', by rw [← l.1]; exact .int⟩
theorem se_tupO : SimE (mArg kTuple (mCons (mV k) mNil)) (eTupO k) := fun a σ τ ok s => .op ok s fun v e => by
  cases q : owL τ k with
  | none => rw [q] at e; cases e
  | some xs =>
    rw [q] at e; cases e
    obtain ⟨r, ws, es, hr, eh, l⟩ := s.owL q
    simp only [mArg, mCons, mV, es, R.bind, mNil, kTuple, seqL, eh]
    exact new_tup ok l
theorem SimR.has {α β : Type} {rel : Wd → α → β → Prop} {r : R β} {q : RT α} (s : SR a σ τ) (h : ∀ i ws, σ[k]? = some (some (.ref i)) → a.h[i]? = some (.lst ws) → SimR a σ rel r q) : SimR a σ rel r (hasO τ k q) := by
  unfold hasO
  cases e : Mc.owL τ k with
  | none => trivial
  | some xs =>
    obtain ⟨i, ws, es, hr, eh, l⟩ := s.owL e
    exact h i ws es eh
theorem mV_ref {i : Nat} {h : Mh} (es : σ[k]? = some (some (.ref i))) : mV k σ h = .ok (.ref i) h := by simp only [mV, es]
theorem se_ixO (h : SimE m t) : SimE (m2 kIx (mV k) m) (eIxO k t) := fun a σ τ ok s => .has s fun i _ es _ => by
  have e0 : m2 kIx (mV k) m σ a.h = (m σ a.h).bind fun y h2 => kIx (.ref i) y h2 := by simp only [m2, mV_ref es, R.bind]
  rw [e0]
  exact (h a σ τ ok s).bind fun b v w τ1 ok1 f1 s1 l1 => .op ok1 s1 fun u q => by
    cases q2 : owL τ1 k with
    | none => rw [q2] at q; cases q
    | some xs =>
      rw [q2, Option.bind_some] at q
      obtain ⟨r, ws, es2, hr, eh, l⟩ := s1.owL q2
      rw [es] at es2; cases es2
      cases v with
      | int j =>
        cases l1
        obtain ⟨w, e2, l2⟩ := atI_rp l q
        exact ⟨w, b, by simp only [kIx, seqL, eh, e2], ok1, .rfl', l2⟩
      | _ => cases q
theorem se_appO (h : SimE m t) : SimE (mMt "list" kAppend (mV k) (mCons m mNil)) (eAppO k t) := fun a σ τ ok s => .has s fun i ws es eh => by
  have e0 : mMt "list" kAppend (mV k) (mCons m mNil) σ a.h = (m σ a.h).bind fun y h2 => kAppend (.ref i) [y] h2 := by
    simp only [mMt, mV_ref es, R.bind, isT, eh, beq_self_eq_true, if_true, mCons, mNil]
    cases m σ a.h <;> rfl
  rw [e0]
  refine (h a σ τ ok s).bind fun b v w τ1 ok1 f1 s1 l1 => ?_
  cases q2 : owL τ1 k with
  | none => trivial
  | some xs =>
    obtain ⟨r, ws, es2, hr, eh, l⟩ := s1.owL q2
    rw [es] at es2; cases es2
    simp only [opt, RT.bind]
    split
    · next z =>
      refine ⟨.non, b.put i (.lst (ws ++ [w])), ?_, ok1.put, .put hr, ?_, .non⟩
      · simp only [kAppend, eh]; rw [if_pos (by rw [← l.1]; exact z)]; rfl
      · exact s1.chg ok1 (owL_some q2) es hr ⟨_, put_get eh, (l.mono ok1 (.put hr)).mem (l1.mono ok1 (.put hr))⟩
    · trivial
theorem se_extO (h : SimE m t) : SimE (mMt "list" kExtend (mV k) (mCons m mNil)) (eExtO k t) := fun a σ τ ok s => .has s fun i ws es eh => by
  have e0 : mMt "list" kExtend (mV k) (mCons m mNil) σ a.h = (m σ a.h).bind fun y h2 => kExtend (.ref i) [y] h2 := by
    simp only [mMt, mV_ref es, R.bind, isT, eh, beq_self_eq_true, if_true, mCons, mNil]
    cases m σ a.h <;> rfl
  rw [e0]
  refine (h a σ τ ok s).bind fun b v w τ1 ok1 f1 s1 l1 => ?_
  cases q2 : owL τ1 k with
  | none => trivial
  | some xs =>
    obtain ⟨r, ws, es2, hr, eh, l⟩ := s1.owL q2
    rw [es] at es2; cases es2
    simp only [opt, RT.bind]
    cases l1 with
    | @lst r2 ts2 ws2 f2 eh2 l2 c2 =>
      simp only []
      split
      · next z =>
        refine ⟨.non, b.put i (.lst (ws ++ ws2)), ?_, ok1.put, .put hr, ?_, .non⟩
        · simp only [kExtend, eh, eh2]; rw [if_pos (by rw [← l.1, ← l2]; exact z)]; rfl
        · exact s1.chg ok1 (owL_some q2) es hr ⟨_, put_get eh, (l.mono ok1 (.put hr)).append (RpL.mono ok1 (.put hr) ⟨l2, c2⟩)⟩
      · trivial
    | _ => trivial
theorem SimFl.has {r : MR} {q : TRS} (s : SR a σ τ) (h : ∀ i ws, σ[k]? = some (some (.ref i)) → a.h[i]? = some (.lst ws) → SimFl P a σ r q) : SimFl P a σ r (hasS τ k q) := by
  unfold hasS
  cases e : Mc.owL τ k with
  | none => trivial
  | some xs =>
    obtain ⟨i, ws, es, hr, eh, l⟩ := s.owL e
    exact h i ws es eh
theorem ss_augS {kk : W → W → Mh → R W} {kt : T → T → Option T} (o : Op2 kk kt) (hi : SimE m' t') (h : SimE m t) : SimS P (sAugS kk (mV k) m' m) (zAugS k kt t' t) := fun a σ τ ok s => .has s fun i _ es _ => by
  have e0 : sAugS kk (mV k) m' m σ a.h = (m' σ a.h).stm σ fun b h2 => (kGetL (.ref i) b h2).stm σ fun x h3 => (m σ h3).stm σ fun y h4 => (kk x y h4).stm σ fun z h5 => match kStore (.ref i) b z h5 with
    | some h6 => some (.nx σ, h6)
    | none => none := by unfold sAugS; rw [mV_ref es]; rfl
  rw [e0]
  refine (hi a σ τ ok s).stm fun b v w τ1 ok1 f1 s1 l1 => ?_
  cases q2 : owL τ1 k with
  | none => trivial
  | some xs =>
    obtain ⟨r, ws, es2, hr, eh, l⟩ := s1.owL q2
    rw [es] at es2; cases es2
    cases l1 with
    | @int j =>
      simp only []
      by_cases h0 : 0 ≤ j
      · rw [if_pos h0]
        cases q3 : xs[j.toNat]? with
        | none => trivial
        | some x =>
          obtain ⟨wx, ex, lx⟩ := l.get q3
          simp only [kGetL, if_pos h0, seqL, eh, ex]
          refine (h b σ τ1 ok1 s1).stm fun c u wu τ2 ok2 f2 s2 l2 => ?_
          cases q4 : kt x u with
          | none => trivial
          | some z =>
            cases q5 : owL τ2 k with
            | none => trivial
            | some xs' =>
              simp only []
              cases q6 : L2.ixN xs'.length j with
              | none => trivial
              | some jj =>
                obtain ⟨wz, d, e3, ok3, g3, l3⟩ := o c wx wu x u z ok2 (lx.mono ok1 f2) l2 q4
                have s3 := s2.gr ok2 g3
                obtain ⟨r, ws', es2, hr, eh3, l'⟩ := s3.owL q5
                rw [es] at es2; cases es2
                simp only [e3, R.stm]
                rw [kStore_rp eh3 (by rw [← l'.1]; exact q6)]
                exact ⟨_, d.put i (.lst (ws'.set jj wz)), σ, rfl, ok3.put, g3.fr.trans (.put hr), s3.chg ok3 (owL_some q5) es hr ⟨_, put_get eh3, (l'.mono ok3 (.put hr)).set (l3.mono ok3 (.put hr)) jj⟩, .rfl', rfl⟩
      · rw [if_neg h0]; trivial
    | _ => trivial
end
end Mc

namespace Mc
open PySem
/-! ### what is gone through -/
abbrev TIx := TSt → RT (List T)
/-- what was frozen is kept -/
def Kf (a b : Wd) : Prop := ∀ r, a.F r → b.F r ∧ ∀ o, a.h[r]? = some o → b.h[r]? = some o
theorem Fr.kf {a b : Wd} (ok : a.Ok) (f : Fr a b) : Kf a b := fun r hr => ⟨f.fm r hr, fun o e => f.keep r o e fun z => ok.dj r z hr⟩
theorem Kf.trans {a b c : Wd} (p : Kf a b) (q : Kf b c) : Kf a c := fun r hr => ⟨(q r (p r hr).1).1, fun o e => (q r (p r hr).1).2 o ((p r hr).2 o e)⟩
theorem Rp.kf {a b : Wd} {t : T} {w : W} (f : Kf a b) (q : Rp a t w) : Rp b t w := by
  induction q with
  | non => exact .non
  | bl => exact .bl
  | int => exact .int
  | str => exact .str
  | ty => exact .ty
  | glo => exact .glo
  | tup z e l _ ih => exact .tup (f _ z).1 ((f _ z).2 _ e) l ih
  | lst z e l _ ih => exact .lst (f _ z).1 ((f _ z).2 _ e) l ih
  | frl z e l _ ih => exact .frl (f _ z).1 ((f _ z).2 _ e) l ih
  | ktp z e l _ ih => exact .ktp (f _ z).1 ((f _ z).2 _ e) l ih
  | dK z e l _ ih => exact .dK (f _ z).1 ((f _ z).2 _ e) l ih
  | ins z e l _ ih => exact .ins (f _ z).1 ((f _ z).2 _ e) l ih
  | exn z e z2 e2 l _ ih => exact .exn (f _ z).1 ((f _ z).2 _ e) (f _ z2).1 ((f _ z2).2 _ e2) l ih
structure ItT (a : Wd) (ts : List T) (J : ItM) : Prop where
  n : J.n = ts.length
  go : ∀ b, b.Ok → Kf a b → ∀ (i : Nat) (t : T), ts[i]? = some t → ∃ w c, J.at_ i b.h = some (w, c.h) ∧ c.Ok ∧ Gr b c ∧ Rp c t w
  fin : ∀ b, b.Ok → Kf a b → J.fin b.h = true
def SimI (m : MIx) (t : TIx) : Prop := ∀ a σ τ, a.Ok → SR a σ τ → SimR a σ ItT (m σ a.h) (t τ)
def rgT (lo : Int) (n : Nat) : List T := (List.range n).map fun i => .int (lo + (i : Nat))
def jS (m : TEx) : TIx := fun τ => (m τ).bind fun v τ1 => opt (sqA v) τ1
def oRg1 (ws : List T) : Option (List T) := match ws with
  | [.int j] => if inR j then some (rgT 0 j.toNat) else none
  | _ => none
def oRg2 (ws : List T) : Option (List T) := match ws with
  | [.int i, .int j] => if inR i && inR j then some (rgT i (j - i).toNat) else none
  | _ => none
def enT (xs : List T) : List T := xs.mapIdx fun i t => .tup [.int (i : Nat), t]
def oEn (ws : List T) : Option (List T) := match ws with
  | [t] => (sqA t).map enT
  | _ => none
def jA (k : List T → Option (List T)) (m : TAx) : TIx := fun τ => (m τ).bind fun vs τ1 => opt (k vs) τ1
section
variable {a b : Wd} {σ : MSt} {τ : TSt} {m : MEx} {t : TEx} {ma : MAx} {ta : TAx} {w : W} {v : T} {ts : List T} {ws : List W}
theorem seqL_frz (p : Rp a v w) (f : Kf a b) {xs : List W} (e : seqL a.h w = some xs) : seqL b.h w = some xs := by
  cases p with
  | lst hf eh l c => simp only [seqL, eh] at e; simp only [seqL, (f _ hf).2 _ eh]; exact e
  | frl hf eh l c => simp only [seqL, eh] at e; simp only [seqL, (f _ hf).2 _ eh]; exact e
  | exn hf eh h2 e2 l c => simp only [seqL, eh] at e; cases e
  | _ => first | (next hf eh l c => simp only [seqL, eh] at e; cases e; done) | (simp only [seqL] at e; cases e; done)
theorem seqT_frz (p : Rp a v w) (f : Kf a b) {xs : List W} (e : seqT a.h w = some xs) : seqT b.h w = some xs := by
  cases p with
  | tup hf eh l c => simp only [seqT, eh] at e; simp only [seqT, (f _ hf).2 _ eh]; exact e
  | ktp hf eh l c => simp only [seqT, eh] at e; simp only [seqT, (f _ hf).2 _ eh]; exact e
  | exn hf eh h2 e2 l c => simp only [seqT, eh] at e; cases e
  | _ => first | (next hf eh l c => simp only [seqT, eh] at e; cases e; done) | (simp only [seqT] at e; cases e; done)
theorem it_seq (ok : a.Ok) (p : Rp a v w) (e : seqL a.h w = some ws) (l : RpL a ts ws) : ItT a ts (jSeq w ws) := ⟨l.1.symm, fun b okb f i t ht => by
  obtain ⟨x, ex, lx⟩ := l.get ht
  exact ⟨x, b, by simp only [jSeq, seqL_frz p f e, if_true, ex]; rfl, okb, .rfl', lx.kf f⟩, fun b okb f => by simp only [jSeq, seqL_frz p f e, decide_true]⟩
theorem it_tup (ok : a.Ok) (p : Rp a v w) (e : seqT a.h w = some ws) (l : RpL a ts ws) : ItT a ts (jTup w ws) := ⟨l.1.symm, fun b okb f i t ht => by
  obtain ⟨x, ex, lx⟩ := l.get ht
  exact ⟨x, b, by simp only [jTup, seqT_frz p f e, if_true, ex]; rfl, okb, .rfl', lx.kf f⟩, fun b okb f => by simp only [jTup, seqT_frz p f e, decide_true]⟩
theorem enT_get {xs : List T} {i : Nat} {t : T} (e : (enT xs)[i]? = some t) : ∃ u, xs[i]? = some u ∧ t = .tup [.int (i : Nat), u] := by
  unfold enT at e
  rw [List.getElem?_mapIdx] at e
  cases q : xs[i]? with
  | none => rw [q] at e; cases e
  | some u => rw [q] at e; cases e; exact ⟨u, rfl, rfl⟩
theorem it_enL (ok : a.Ok) (p : Rp a v w) (e : seqL a.h w = some ws) (l : RpL a ts ws) : ItT a (enT ts) (jEnL w ws) := ⟨by simp [enT, jEnL, l.1], fun b okb f i t ht => by
  obtain ⟨u, hu, rfl⟩ := enT_get ht
  obtain ⟨x, ex, lx⟩ := l.get hu
  refine ⟨.ref b.h.length, b.newF (.tup [.int (i : Nat), x]), by simp only [jEnL, seqL_frz p f e, if_true, ex]; rfl, okb.newF, .newF, ?_⟩
  have z := (RpL.cons (.int (i := (i : Nat))) (.cons (lx.kf f) .nil)).mono okb (Gr.newF (o := .tup [.int (i : Nat), x])).fr
  exact .tup newF_F newF_at z.1 z.2, fun b okb f => by simp only [jEnL, seqL_frz p f e, decide_true]⟩
theorem it_enT (ok : a.Ok) (p : Rp a v w) (e : seqT a.h w = some ws) (l : RpL a ts ws) : ItT a (enT ts) (jEnT w ws) := ⟨by simp [enT, jEnT, l.1], fun b okb f i t ht => by
  obtain ⟨u, hu, rfl⟩ := enT_get ht
  obtain ⟨x, ex, lx⟩ := l.get hu
  refine ⟨.ref b.h.length, b.newF (.tup [.int (i : Nat), x]), by simp only [jEnT, seqT_frz p f e, if_true, ex]; rfl, okb.newF, .newF, ?_⟩
  have z := (RpL.cons (.int (i := (i : Nat))) (.cons (lx.kf f) .nil)).mono okb (Gr.newF (o := .tup [.int (i : Nat), x])).fr
  exact .tup newF_F newF_at z.1 z.2, fun b okb f => by simp only [jEnT, seqT_frz p f e, decide_true]⟩
theorem rgT_get {lo : Int} {n i : Nat} {t : T} (e : (rgT lo n)[i]? = some t) : i < n ∧ t = .int (lo + (i : Nat)) := by
  unfold rgT at e
  rw [List.getElem?_map] at e
  have hl : i < n := by
    cases q : (List.range n)[i]? with
    | none => rw [q] at e; cases e
    | some u => have := (List.getElem?_eq_some_iff.mp q).1; simpa using this
  rw [List.getElem?_range hl] at e
  cases e; exact ⟨hl, rfl⟩
theorem it_rng {lo : Int} {n : Nat} : ItT a (rgT lo n) (jRng lo n) := ⟨by simp [rgT, jRng], fun b okb f i t ht => by
  obtain ⟨_, rfl⟩ := rgT_get ht
  exact ⟨_, b, rfl, okb, .rfl', .int⟩, fun b okb f => rfl⟩
theorem si_seq (h : SimE m t) : SimI (iSeq m) (jS t) := fun a σ τ ok s => (h a σ τ ok s).bind fun b v w τ' ok' f s' l => .op ok' s' fun ts e => by
  rcases RpL.ofA l e with ⟨ws, e1, l2⟩ | ⟨ws, e0, e1, l2⟩
  · exact ⟨jSeq w ws, b, by simp only [e1], ok', .rfl', it_seq ok' l e1 l2⟩
  · exact ⟨jTup w ws, b, by simp only [e0, e1], ok', .rfl', it_tup ok' l e1 l2⟩
theorem si_rg1 (h : SimA ma ta) : SimI (iRg1 ma) (jA oRg1 ta) := fun a σ τ ok s => (h a σ τ ok s).bind fun b v w τ' ok' f s' l => .op ok' s' fun ts e => by
  unfold oRg1 at e
  split at e
  · next j =>
    split at e
    · next z =>
      cases e
      obtain ⟨x, rfl, hx⟩ := l.one
      cases hx
      exact ⟨jRng 0 j.toNat, b, by simp only [z, if_true], ok', .rfl', it_rng⟩
    · cases e
  · cases e
theorem si_rg2 (h : SimA ma ta) : SimI (iRg2 ma) (jA oRg2 ta) := fun a σ τ ok s => (h a σ τ ok s).bind fun b v w τ' ok' f s' l => .op ok' s' fun ts e => by
  unfold oRg2 at e
  split at e
  · next i j =>
    split at e
    · next z =>
      cases e
      obtain ⟨x, y, rfl, hx, hy⟩ := l.two
      cases hx; cases hy
      exact ⟨jRng i (j - i).toNat, b, by simp only [z, if_true], ok', .rfl', it_rng⟩
    · cases e
  · cases e
theorem si_en (h : SimA ma ta) : SimI (iEn ma) (jA oEn ta) := fun a σ τ ok s => (h a σ τ ok s).bind fun b v w τ' ok' f s' l => .op ok' s' fun ts e => by
  unfold oEn at e
  split at e
  · next t =>
    obtain ⟨x, rfl, hx⟩ := l.one
    cases q : sqA t with
    | none => rw [q] at e; cases e
    | some us =>
      rw [q] at e; cases e
      rcases RpL.ofA hx q with ⟨ws, e1, l2⟩ | ⟨ws, e0, e1, l2⟩
      · exact ⟨jEnL x ws, b, by simp only [e1], ok', .rfl', it_enL ok' hx e1 l2⟩
      · exact ⟨jEnT x ws, b, by simp only [e0, e1], ok', .rfl', it_enT ok' hx e1 l2⟩
  · cases e
end
/-! ### loops -/
def loopT (g : TGx) (b : TSx) : List T → TSt → TRS
  | [], τ => some (.nx, τ)
  | x :: xs, τ => match g x τ with
    | none => none
    | some τ1 => match b τ1 with
      | some (.nx, τ2) => loopT g b xs τ2
      | some (.ct, τ2) => loopT g b xs τ2
      | some (.bk, τ2) => some (.nx, τ2)
      | r => r
def zFor (ti : TIx) (g : TGx) (b : TSx) : TSx := fun τ => (ti τ).stm fun ts τ1 => loopT g b ts τ1
def whileT (c : TTx) (b : TSx) : Nat → TSt → TRS
  | 0, _ => none
  | n + 1, τ => (c τ).stm fun k τ1 => if k then (match b τ1 with
    | some (.nx, τ2) => whileT c b n τ2
    | some (.ct, τ2) => whileT c b n τ2
    | some (.bk, τ2) => some (.nx, τ2)
    | r => r) else some (.nx, τ1)
def zWhile (c : TTx) (b : TSx) : TSx := whileT c b lim
section
variable {P : List Nat} {a b : Wd} {σ : MSt} {τ : TSt} {mi : MIx} {ti : TIx} {g : MGx} {y : TGx} {ms : MSx} {ts : TSx} {c : MTx} {u : TTx}
theorem loop_rp {J : ItM} {xs : List T} (it : ItT a xs J) (ok : a.Ok) (hg : SimG P g y) (hb : SimS P ms ts) : ∀ (n i : Nat) (b : Wd) (σ : MSt) (τ : TSt), i + n = J.n → b.Ok → Fr a b → SR b σ τ → SimFl P b σ (loopM J g ms n i σ b.h) (loopT y ts (xs.drop i) τ) := by
  intro n
  induction n with
  | zero =>
    intro i b σ τ hi okb f s
    have : xs.drop i = [] := List.drop_eq_nil_of_le (by rw [← it.n]; omega)
    rw [this]
    simp only [loopM, loopT, it.fin b okb (f.kf ok), if_true]
    exact .nx okb s
  | succ n ih =>
    intro i b σ τ hi okb f s
    have hlt : i < xs.length := by rw [← it.n]; omega
    rw [List.drop_eq_getElem_cons hlt]
    obtain ⟨w, c, e1, okc, gc, l⟩ := it.go b okb (f.kf ok) i xs[i] (List.getElem?_eq_getElem hlt)
    simp only [loopM, loopT, e1]
    have z := hg c σ τ w xs[i] okc (s.gr okb gc) l
    cases q : y xs[i] τ with
    | none => trivial
    | some τ1 =>
      rw [q] at z
      obtain ⟨σ1, d, e2, okd, fd, s1, p1⟩ := z
      simp only [e2]
      have z2 := hb d σ1 τ1 okd s1
      have fbd := gc.fr.trans fd
      cases q2 : ts τ1 with
      | none => trivial
      | some r =>
        obtain ⟨fl, τ2⟩ := r
        rw [q2] at z2
        obtain ⟨gl, e, σ2, e3, oke, fe, s2, p2, l2⟩ := z2
        rw [e3]
        cases fl <;> cases gl <;> first | exact l2.elim | skip
        · cases (show _ = σ2 from l2)
          exact (ih (i + 1) e _ τ2 (by omega) oke ((f.trans fbd).trans fe) s2).pre (fbd.trans fe) (p1.trans p2)
        · exact ⟨_, e, σ2, rfl, oke, fbd.trans fe, s2, p1.trans p2, l2⟩
        · cases (show _ = σ2 from l2)
          exact ⟨_, e, _, rfl, oke, fbd.trans fe, s2, p1.trans p2, rfl⟩
        · cases (show _ = σ2 from l2)
          exact (ih (i + 1) e _ τ2 (by omega) oke ((f.trans fbd).trans fe) s2).pre (fbd.trans fe) (p1.trans p2)
        · exact ⟨_, e, σ2, rfl, oke, fbd.trans fe, s2, p1.trans p2, l2⟩
theorem ss_for (hi : SimI mi ti) (hg : SimG P g y) (hb : SimS P ms ts) : SimS P (sFor mi g ms) (zFor ti y ts) := fun a σ τ ok s => (hi a σ τ ok s).stm fun b v w τ' ok' f s' l => by
  have z := loop_rp l ok' hg hb w.n 0 b σ τ' (Nat.zero_add _) ok' .rfl' s'
  rwa [List.drop_zero] at z
theorem ss_while (hc : SimT c u) (hb : SimS P ms ts) : SimS P (sWhile c ms) (zWhile u ts) := by
  have : ∀ n, SimS P (whileM c ms n) (whileT u ts n) := by
    intro n
    induction n with
    | zero => intro a σ τ ok s; trivial
    | succ n ih =>
      intro a σ τ ok s
      refine (hc a σ τ ok s).stm fun b v w τ' ok' f s' l => ?_
      cases (show v = w from l)
      cases v
      · exact .nx ok' s'
      · simp only [if_true]
        have z2 := hb b σ τ' ok' s'
        cases q2 : ts τ' with
        | none => trivial
        | some r =>
          obtain ⟨fl, τ2⟩ := r
          rw [q2] at z2
          obtain ⟨gl, e, σ2, e3, oke, fe, s2, p2, l2⟩ := z2
          rw [e3]
          cases fl <;> cases gl <;> first | exact l2.elim | skip
          · cases (show _ = σ2 from l2)
            exact (ih e _ τ2 oke s2).pre fe p2
          · exact ⟨_, e, σ2, rfl, oke, fe, s2, p2, l2⟩
          · cases (show _ = σ2 from l2)
            exact ⟨_, e, _, rfl, oke, fe, s2, p2, rfl⟩
          · cases (show _ = σ2 from l2)
            exact (ih e _ τ2 oke s2).pre fe p2
          · exact ⟨_, e, σ2, rfl, oke, fe, s2, p2, l2⟩
  exact this lim
end
/-! ### comprehensions -/
def wipT (τ : TSt) : List Nat → TSt
  | [] => τ
  | v :: vs => (wipT τ vs).set v none
/-- back to what stood there, as far as it was frozen -/
def bakT (τ0 τ : TSt) : List Nat → TSt
  | [] => τ
  | v :: vs => (bakT τ0 τ vs).set v ((fzAt τ0 v).map .fz)
def collT (g : TGx) (t : TTx) (e : TEx) (vs : List Nat) : List T → List T → TSt → RT (List T)
  | [], acc, τ => .ok acc τ
  | x :: xs, acc, τ => match g x τ with
    | none => .no
    | some τ1 => match t τ1 with
      | .ok k τ2 => if k then (match e τ2 with
        | .ok y τ3 => if acc.length < lim then collT g t e vs xs (acc ++ [y]) (wipT τ3 vs) else .no
        | _ => .no) else collT g t e vs xs acc (wipT τ2 vs)
      | _ => .no
def eLc (ti : TIx) (g : TGx) (t : TTx) (e : TEx) (vs : List Nat) : TEx := fun τ => (ti τ).bind fun xs τ1 => (collT g t e vs xs [] (wipT τ1 vs)).bind fun acc τ2 => .ok (.lst acc) (bakT τ1 τ2 vs)
/-- a target that stores into these alone -/
def OnlyG (vs : List Nat) (g : MGx) : Prop := ∀ w σ h σ1 h1, g w σ h = some (σ1, h1) → wip σ1 vs = wip σ vs
def OnlyGs (vs : List Nat) (g : MGs) : Prop := ∀ ws σ h σ1 h1, g ws σ h = some (σ1, h1) → wip σ1 vs = wip σ vs
section
variable {P : List Nat} {a b : Wd} {σ σ' : MSt} {τ τ0 : TSt} {mi : MIx} {ti : TIx} {g : MGx} {gs : MGs} {y : TGx} {m : MEx} {e : TEx} {c : MTx} {u : TTx} {vs : List Nat}
theorem wip_get2 {i : Nat} : (wip σ vs)[i]? = if i ∈ vs ∧ i < σ.length then some none else σ[i]? := by
  induction vs with
  | nil => simp [wip]
  | cons v vs ih =>
    have hl : (wip σ vs).length = σ.length := by
      clear ih
      induction vs with
      | nil => rfl
      | cons v vs ih => simp only [wip, List.length_set, ih]
    simp only [wip]
    by_cases h : v = i
    · subst h
      by_cases hi : v < σ.length
      · rw [List.getElem?_set_self (by rw [hl]; exact hi), if_pos ⟨List.mem_cons_self, hi⟩]
      · rw [List.getElem?_eq_none (by rw [List.length_set, hl]; omega), if_neg (fun z => hi z.2), List.getElem?_eq_none (by omega)]
    · rw [List.getElem?_set_ne h, ih]
      simp only [List.mem_cons, show (i = v) = False from by simp [Ne.symm h], false_or]
theorem wip_set2 {i : Nat} {x : Option W} (h : i ∈ vs) : wip (σ.set i x) vs = wip σ vs := by
  apply List.ext_getElem?
  intro j
  rw [wip_get2, wip_get2, List.length_set]
  by_cases hj : i = j
  · subst hj
    by_cases hl : i < σ.length
    · rw [if_pos ⟨h, hl⟩, if_pos ⟨h, hl⟩]
    · rw [if_neg fun z => hl z.2, if_neg fun z => hl z.2, List.getElem?_eq_none (by rw [List.length_set]; omega), List.getElem?_eq_none (by omega)]
  · rw [List.getElem?_set_ne hj]
theorem wip_wip : wip (wip σ vs) vs = wip σ vs := by
  have hl : (wip σ vs).length = σ.length := by
    induction vs with
    | nil => rfl
    | cons v vs ih => simp only [wip, List.length_set, ih]
  apply List.ext_getElem?
  intro j
  rw [wip_get2, wip_get2, hl]
  split <;> rfl
theorem only_n {i : Nat} (h : i ∈ vs) : OnlyG vs (gN i) := fun w σ h' σ1 h1 e => by
  cases e; exact wip_set2 h
theorem only_nil : OnlyGs vs gsNil := fun ws σ h σ1 h1 e => by
  unfold gsNil at e
  split at e
  · cases e; rfl
  · cases e
theorem only_cons (p : OnlyG vs g) (q : OnlyGs vs gs) : OnlyGs vs (gsCons g gs) := fun ws σ h σ1 h1 e => by
  unfold gsCons at e
  split at e
  · split at e
    · next e2 => exact (q _ _ _ _ _ e).trans (p _ _ _ _ _ e2)
    · cases e
  · cases e
theorem only_tp {n : Nat} (q : OnlyGs vs gs) : OnlyG vs (gTp n gs) := fun w σ h σ1 h1 e => by
  unfold gTp at e
  split at e
  · split at e
    · exact q _ _ _ _ _ e
    · cases e
  · cases e
theorem SR.wip (s : SR a σ τ) : SR a (wip σ vs) (wipT τ vs) := by
  induction vs with
  | nil => exact s
  | cons v vs ih => exact ih.drop v none
theorem SR.bak (ok : a.Ok) (f : Fr a b) (s0 : SR a σ τ0) (s : SR b (Mc.wip σ vs) τ) : SR b σ (bakT τ0 τ vs) := by
  have len : (Mc.wip σ vs).length = σ.length := by
    clear s
    induction vs with
    | nil => rfl
    | cons v vs ih => simp only [Mc.wip, List.length_set, ih]
  have hl : (bakT τ0 τ vs).length = τ.length := by
    clear s len
    induction vs with
    | nil => rfl
    | cons v vs ih => simp only [bakT, List.length_set, ih]
  have get : ∀ i : Nat, i < τ.length → (bakT τ0 τ vs)[i]? = if i ∈ vs then some ((fzAt τ0 i).map .fz) else τ[i]? := by
    clear s len hl
    intro i hi
    induction vs with
    | nil => simp [bakT]
    | cons v vs ih =>
      have hl : (bakT τ0 τ vs).length = τ.length := by
        clear ih
        induction vs with
        | nil => rfl
        | cons v vs ih => simp only [bakT, List.length_set, ih]
      simp only [bakT]
      by_cases h : v = i
      · subst h; rw [List.getElem?_set_self (by rw [hl]; exact hi), if_pos List.mem_cons_self]
      · rw [List.getElem?_set_ne h, ih]; simp only [List.mem_cons, show (i = v) = False from by simp [Ne.symm h], false_or]
  have tl : τ.length = σ.length := by rw [← s.len, len]
  refine ⟨by rw [hl, tl], fun k x y e e' => ?_, fun i j t u r e1 e2 e3 e4 => ?_⟩
  · have hk := (List.getElem?_eq_some_iff.mp e).1
    rw [get k (by rw [tl]; exact hk)] at e'
    by_cases h : k ∈ vs
    · rw [if_pos h] at e'
      cases e'
      cases q : fzAt τ0 k with
      | none => trivial
      | some t =>
        obtain ⟨w, ew, l⟩ := s0.fz (fzAt_some q)
        rw [e] at ew
        cases ew
        exact ⟨w, rfl, l.mono ok f⟩
    · rw [if_neg h] at e'
      exact s.at_ k x y (by rw [wip_get2, if_neg fun z => h z.1]; exact e) e'
  · have no : ∀ {k : Nat} {t : T}, (bakT τ0 τ vs)[k]? = some (some (.ow t)) → k ∉ vs ∧ τ[k]? = some (some (.ow t)) := fun {k t} e => by
      have hk := (List.getElem?_eq_some_iff.mp e).1
      rw [hl] at hk
      rw [get k hk] at e
      by_cases h : k ∈ vs
      · rw [if_pos h] at e
        cases q : fzAt τ0 k <;> rw [q] at e <;> cases e
      · rw [if_neg h] at e; exact ⟨h, e⟩
    obtain ⟨n1, f1⟩ := no e1
    obtain ⟨n2, f2⟩ := no e2
    exact s.inj i j t u r f1 f2 (by rw [wip_get2, if_neg fun z => n1 z.1]; exact e3) (by rw [wip_get2, if_neg fun z => n2 z.1]; exact e4)
/-- an object that is neither owned nor frozen is changed -/
theorem free_put {d : Nat} {o : MO} (ok : b.Ok) (hd : ¬b.F d ∧ ¬b.O d) (s : SR b σ τ) : (b.put d o).Ok ∧ SR (b.put d o) σ τ ∧ (∀ t w, Rp b t w → Rp (b.put d o) t w) := by
  let b' : Wd := ⟨b.F, fun r => b.O r ∨ r = d, b.h⟩
  have keepF : ∀ r o', b.F r → b.h[r]? = some o' → (b.put d o).h[r]? = some o' := fun r o' hf e => by
    show (b.h.set d o)[r]? = some o'
    rw [List.getElem?_set_ne (show d ≠ r from fun z => hd.1 (z ▸ hf))]; exact e
  have keepO : ∀ r o', b.O r → b.h[r]? = some o' → (b.put d o).h[r]? = some o' := fun r o' hf e => by
    show (b.h.set d o)[r]? = some o'
    rw [List.getElem?_set_ne (show d ≠ r from fun z => hd.2 (z ▸ hf))]; exact e
  have mono : ∀ t w, Rp b t w → Rp (b.put d o) t w := fun t w q => by
    induction q with
    | non => exact .non
    | bl => exact .bl
    | int => exact .int
    | str => exact .str
    | ty => exact .ty
    | glo => exact .glo
    | tup z e l _ ih => exact .tup z (keepF _ _ z e) l ih
    | lst z e l _ ih => exact .lst z (keepF _ _ z e) l ih
    | frl z e l _ ih => exact .frl z (keepF _ _ z e) l ih
    | ktp z e l _ ih => exact .ktp z (keepF _ _ z e) l ih
    | dK z e l _ ih => exact .dK z (keepF _ _ z e) l ih
    | ins z e l _ ih => exact .ins z (keepF _ _ z e) l ih
    | exn z e z2 e2 l _ ih => exact .exn z (keepF _ _ z e) z2 (keepF _ _ z2 e2) l ih
  refine ⟨ok.put, ⟨s.len, fun k x y e e' => ?_, s.inj⟩, mono⟩
  have z := s.at_ k x y e e'
  cases y with
  | none => trivial
  | some v => cases v with
    | fz t => obtain ⟨w, e, l⟩ := z; exact ⟨w, e, mono _ _ l⟩
    | ow t =>
      obtain ⟨r, e, hr, l⟩ := z
      refine ⟨r, e, hr, ?_⟩
      cases t with
      | lst ts => obtain ⟨ws, e, l⟩ := l; exact ⟨ws, keepO _ _ hr e, l.1, fun i t w p q => mono _ _ (l.2 i t w p q)⟩
      | ins C fs => obtain ⟨dx, ws, e, l⟩ := l; exact ⟨dx, ws, keepO _ _ hr e, l.1, fun i t w p q => mono _ _ (l.2 i t w p q)⟩
      | dK kvs => obtain ⟨ws, e, l⟩ := l; exact ⟨ws, keepO _ _ hr e, l.1, fun i t w p q => mono _ _ (l.2 i t w p q)⟩
      | _ => exact l.elim
theorem Fr.free {d : Nat} (f : Fr a b) (hd : a.h.length ≤ d) (hb : d < b.h.length) (n : ¬b.F d ∧ ¬b.O d) {c : Wd} (f2 : Fr b c) : ¬c.F d ∧ ¬c.O d := ⟨fun z => (f2.fn d z).elim n.1 fun y => y.elim n.2 fun x => absurd hb (Nat.not_lt.mpr x), fun z => (f2.on d z).elim n.2 fun x => absurd hb (Nat.not_lt.mpr x)⟩
theorem Fr.fput {d : Nat} {o : MO} (f : Fr a b) (hd : a.h.length ≤ d) : Fr a (b.put d o) := ⟨f.fm, f.fn, f.on, by simpa [Wd.put] using f.len, fun r o' e n => by
  show (b.h.set d o)[r]? = some o'
  have := (List.getElem?_eq_some_iff.mp e).1
  rw [List.getElem?_set_ne (by omega)]; exact f.keep r o' e n⟩
theorem Kf.put {d : Nat} {o : MO} (h : ¬b.F d) : Kf b (b.put d o) := fun r hr => ⟨hr, fun o' e => by
  show (b.h.set d o)[r]? = some o'
  rw [List.getElem?_set_ne (show d ≠ r from fun z => h (z ▸ hr))]; exact e⟩
theorem coll_rp {J : ItM} {xs : List T} {d : Nat} {a1 : Wd} (it : ItT a1 xs J) (hd : a.h.length ≤ d) (hg : SimG [] g y) (ho : OnlyG vs g) (ht : SimT c u) (he : SimE m e) : ∀ (n i : Nat) (b : Wd) (acc : List T) (wacc : List W) (τ : TSt),
    i + n = J.n → b.Ok → Fr a b → Kf a1 b → SR b (Mc.wip σ vs) τ → ¬b.F d ∧ ¬b.O d → b.h[d]? = some (.lst wacc) → RpL b acc wacc →
    match collT y u e vs (xs.drop i) acc τ with
    | .ok acc' τ' => ∃ b' wacc', collM J g c m (Mc.wip σ vs) vs d n i b.h = some b'.h ∧ b'.Ok ∧ Fr a b' ∧ Kf a1 b' ∧ SR b' (Mc.wip σ vs) τ' ∧ (¬b'.F d ∧ ¬b'.O d) ∧ b'.h[d]? = some (.lst wacc') ∧ RpL b' acc' wacc'
    | .ex _ _ => False
    | .no => True := by
  intro n
  induction n with
  | zero =>
    intro i b acc wacc τ hi okb f kf s nd ed la
    have : xs.drop i = [] := List.drop_eq_nil_of_le (by rw [← it.n]; omega)
    rw [this]
    simp only [collT]
    exact ⟨b, wacc, by simp only [collM, it.fin b okb kf, if_true], okb, f, kf, s, nd, ed, la⟩
  | succ n ih =>
    intro i b acc wacc τ hi okb f kf s nd ed la
    have hlt : i < xs.length := by rw [← it.n]; omega
    rw [List.drop_eq_getElem_cons hlt]
    obtain ⟨w, b1, e1, ok1, g1, l⟩ := it.go b okb kf i xs[i] (List.getElem?_eq_getElem hlt)
    have db : d < b.h.length := (List.getElem?_eq_some_iff.mp ed).1
    simp only [collM, collT, e1]
    have z := hg b1 _ τ w xs[i] ok1 (s.gr okb g1) l
    cases q : y xs[i] τ with
    | none => trivial
    | some τ1 =>
      rw [q] at z
      obtain ⟨σ1, b2, e2, ok2, f2, s2, p2⟩ := z
      simp only [e2]
      have hw : Mc.wip σ1 vs = Mc.wip (Mc.wip σ vs) vs := ho _ _ _ _ _ e2
      rw [if_pos hw]
      rw [wip_wip] at hw
      have z3 := ht b2 σ1 τ1 ok2 s2
      have fb2 := g1.fr.trans f2
      cases q3 : u τ1 with
      | no => trivial
      | ex x τ' => trivial
      | ok k τ2 =>
        rw [q3] at z3
        obtain ⟨k', b3, e3, ok3, f3, s3, hk⟩ := z3
        cases (show k = k' from hk)
        simp only [e3, rok]
        have fb3 := fb2.trans f3
        cases k with
        | false =>
          simp only [Bool.false_eq_true, if_false]
          have s3' := s3.wip (vs := vs)
          rw [hw] at s3'
          exact ih (i + 1) b3 acc wacc _ (by omega) ok3 (f.trans fb3) (kf.trans (fb3.kf okb)) s3' (f.free hd db nd fb3) (fb3.keep d _ ed nd.2) (la.mono okb fb3)
        | true =>
          simp only [if_true]
          have z4 := he b3 σ1 τ2 ok3 s3
          cases q4 : e τ2 with
          | no => trivial
          | ex x τ' => trivial
          | ok v τ3 =>
            rw [q4] at z4
            obtain ⟨wv, b4, e4, ok4, f4, s4, lv⟩ := z4
            simp only [e4]
            have fb4 := fb3.trans f4
            have nd4 := f.free hd db nd fb4
            have ed4 := fb4.keep d _ ed nd.2
            rw [ed4]
            simp only []
            by_cases hl : acc.length < lim
            · rw [if_pos hl, if_pos (by rw [← la.1]; exact hl)]
              have s4' := s4.wip (vs := vs)
              rw [hw] at s4'
              obtain ⟨ok5, s5, mo⟩ := free_put (o := .lst (wacc ++ [wv])) ok4 nd4 s4'
              have la4 := (la.mono okb fb4).mem lv
              exact ih (i + 1) (b4.put d (.lst (wacc ++ [wv]))) (acc ++ [v]) (wacc ++ [wv]) _ (by omega) ok5 ((f.trans fb4).fput hd) ((kf.trans (fb4.kf okb)).trans (.put nd4.1)) s5 nd4 (put_get ed4) ⟨la4.1, fun i t w p q => mo _ _ (la4.2 i t w p q)⟩
            · rw [if_neg hl]; trivial
theorem so_lc (hi : SimI mi ti) (hg : SimG [] g y) (ho : OnlyG vs g) (ht : SimT c u) (he : SimE m e) : SimO (mLc mi g c m vs) (eLc ti y u e vs) := fun a σ τ ok s => (hi a σ τ ok s).bindO fun b xs J τ1 ok1 f1 s1 it => by
  have F : Gr b (b.newN (.lst [])) := .newN
  have nd : ¬(b.newN (.lst [])).F b.h.length ∧ ¬(b.newN (.lst [])).O b.h.length := ⟨fun z => Nat.lt_irrefl _ (ok1.fl _ z), fun z => Nat.lt_irrefl _ (ok1.ol _ z)⟩
  have z := coll_rp (σ := σ) (a := b) (d := b.h.length) it (Nat.le_refl _) hg ho ht he J.n 0 (b.newN (.lst [])) [] [] (wipT τ1 vs) (Nat.zero_add _) ok1.newN F.fr (F.fr.kf ok1) ((s1.gr ok1 F).wip) nd newN_at .nil
  rw [List.drop_zero] at z
  cases q : collT y u e vs xs [] (wipT τ1 vs) with
  | no => trivial
  | ex x τ' => rw [q] at z; exact z.elim
  | ok acc τ' =>
    rw [q] at z
    obtain ⟨b', wacc, e1, ok', f', _, s', nd', ed', la'⟩ := z
    have e1 : collM J g c m (Mc.wip σ vs) vs b.h.length J.n 0 (b.h ++ [.lst []]) = some b'.h := e1
    simp only [e1, RT.bind]
    have sb := SR.bak ok1 f' s1 s'
    let b2 : Wd := ⟨b'.F, fun r => b'.O r ∨ r = b.h.length, b'.h⟩
    have dl : b.h.length < b'.h.length := (List.getElem?_eq_some_iff.mp ed').1
    have F2 : Fr b b2 := ⟨f'.fm, f'.fn, fun r z => z.elim (f'.on r) fun y => .inr (Nat.le_of_eq y.symm), f'.len, f'.keep⟩
    have F3 : Fr b' b2 ∨ True := .inr trivial
    have ok2 : b2.Ok := ⟨fun r z y => z.elim (fun x => ok'.dj r x y) fun x => nd'.1 (x ▸ y), fun r z => z.elim (ok'.ol r) fun x => x ▸ dl, ok'.fl⟩
    have mo : ∀ t w, Rp b' t w → Rp b2 t w := fun t w q => by
      induction q with
      | non => exact .non
      | bl => exact .bl
      | int => exact .int
      | str => exact .str
      | ty => exact .ty
      | glo => exact .glo
      | tup z e l _ ih => exact .tup z e l ih
      | lst z e l _ ih => exact .lst z e l ih
      | frl z e l _ ih => exact .frl z e l ih
      | ktp z e l _ ih => exact .ktp z e l ih
      | dK z e l _ ih => exact .dK z e l ih
      | ins z e l _ ih => exact .ins z e l ih
      | exn z e z2 e2 l _ ih => exact .exn z e z2 e2 l ih
    refine ⟨b.h.length, b2, rfl, ok2, F2, ⟨sb.len, fun k x y e e' => ?_, sb.inj⟩, .inr rfl, ⟨wacc, ed', la'.1, fun i t w p q => mo _ _ (la'.2 i t w p q)⟩, Nat.le_refl _, fun k t e e' => ?_⟩
    · have z := sb.at_ k x y e e'
      cases y with
      | none => trivial
      | some v => cases v with
        | fz t => obtain ⟨w, e, l⟩ := z; exact ⟨w, e, mo _ _ l⟩
        | ow t =>
          obtain ⟨r, e, hr, l⟩ := z
          refine ⟨r, e, .inl hr, ?_⟩
          cases t with
          | lst ts => obtain ⟨ws, e, l⟩ := l; exact ⟨ws, e, l.1, fun i t w p q => mo _ _ (l.2 i t w p q)⟩
          | ins C fs => obtain ⟨dx, ws, e, l⟩ := l; exact ⟨dx, ws, e, l.1, fun i t w p q => mo _ _ (l.2 i t w p q)⟩
          | dK kvs => obtain ⟨ws, e, l⟩ := l; exact ⟨ws, e, l.1, fun i t w p q => mo _ _ (l.2 i t w p q)⟩
          | _ => exact l.elim
    · obtain ⟨r, es, hr, _⟩ := sb.ow e
      rw [e'] at es
      cases es
      exact nd'.2 hr
end
end Mc

namespace Mc
open PySem
/-! ### functions -/
abbrev Ft := List SV → RT T
def startT (n : Nat) (vs : List SV) : TSt := vs.map some ++ List.replicate (n - vs.length) none
def outsT (P : List Nat) (τ : TSt) : TSt := P.map fun k => (τ[k]?).join
def fnT (n : Nat) (P : List Nat) (t : TSx) : Ft := fun vs => match t (startT n vs) with
  | some (.rt v, τ) => .ok v (outsT P τ)
  | some (.nx, τ) => .ok .non (outsT P τ)
  | some (.xc x, τ) => .ex x (outsT P τ)
  | _ => .no
def OutR (P : List Nat) (b : Wd) (ws : List W) (os : TSt) : Prop := os.length = P.length ∧ ∀ (j k : Nat) (y : Option SV) (w : W), P[j]? = some k → os[j]? = some y → ws[k]? = some w → SlR b (some w) y
def SimFr (P : List Nat) (a : Wd) (ws : List W) (r : R W) : RT T → Prop
  | .ok v os => ∃ w b, r = .ok w b.h ∧ b.Ok ∧ Fr a b ∧ Rp b v w ∧ OutR P b ws os
  | .ex x os => ∃ e b, r = .ex e b.h ∧ b.Ok ∧ Fr a b ∧ ExR b x e ∧ OutR P b ws os
  | .no => True
abbrev AgR (a : Wd) (ws : List W) (vs : List SV) : Prop := SR a (ws.map some) (vs.map some)
def SimF (P : List Nat) (F : Fm) (f : Ft) : Prop := ∀ a ws vs, a.Ok → AgR a ws vs → SimFr P a ws (F ws a.h) (f vs)
section
variable {P : List Nat} {a b : Wd} {σ : MSt} {τ : TSt} {ms : MSx} {ts : TSx} {ws : List W} {vs : List SV}
theorem start_sr {n : Nat} (s : AgR a ws vs) : SR a (startW n ws) (startT n vs) := by
  have hl : ws.length = vs.length := by simpa using s.len
  refine ⟨by simp [startW, startT, hl], fun k x y e e' => ?_, fun k l t u r e1 e2 e3 e4 => ?_⟩
  · by_cases h : k < ws.length
    · rw [startW, List.getElem?_append_left (by simpa using h)] at e
      rw [startT, List.getElem?_append_left (by simpa [← hl] using h)] at e'
      exact s.at_ k x y e e'
    · rw [startT, List.getElem?_append_right (by simp; omega)] at e'
      have := List.mem_of_getElem? e'
      rw [List.eq_of_mem_replicate this]
      trivial
  · have lt : ∀ {k : Nat} {t : T}, (startT n vs)[k]? = some (some (.ow t)) → k < vs.length := fun {k t} e => by
      by_cases h : k < vs.length
      · exact h
      · rw [startT, List.getElem?_append_right (by simp; omega)] at e
        have := List.eq_of_mem_replicate (List.mem_of_getElem? e)
        cases this
    have h1 := lt e1
    have h2 := lt e2
    rw [startT, List.getElem?_append_left (by simpa using h1)] at e1
    rw [startT, List.getElem?_append_left (by simpa using h2)] at e2
    rw [startW, List.getElem?_append_left (by simpa [hl] using h1)] at e3
    rw [startW, List.getElem?_append_left (by simpa [hl] using h2)] at e4
    exact s.inj k l t u r e1 e2 e3 e4
theorem outs_ok {n : Nat} {σ' : MSt} (s : SR b σ' τ) (p : Pin P (startW n ws) σ') : OutR P b ws (outsT P τ) := by
  refine ⟨by simp [outsT], fun j k y w e e' ew => ?_⟩
  have hk : k < ws.length := (List.getElem?_eq_some_iff.mp ew).1
  have e1 : σ'[k]? = some (some w) := by
    rw [p k (List.mem_of_getElem? e), startW, List.getElem?_append_left (by simpa using hk), List.getElem?_map, ew] <;> rfl
  rw [outsT, List.getElem?_map, e] at e'
  cases q : τ[k]? with
  | none => rw [Option.map_some, q] at e'; cases e'; trivial
  | some z => rw [Option.map_some, q] at e'; cases e'; exact s.at_ k _ _ e1 q
theorem sf_fn {n : Nat} (h : SimS P ms ts) : SimF P (fnRun n ms) (fnT n P ts) := fun a ws vs ok s => by
  have z := h a _ _ ok (start_sr (n := n) s)
  unfold fnRun fnT
  cases q : ts (startT n vs) with
  | none => trivial
  | some r =>
    obtain ⟨fl, τ⟩ := r
    rw [q] at z
    obtain ⟨gl, b, σ', e, ok', f, s', p, l⟩ := z
    rw [e]
    cases fl <;> cases gl <;> first | exact l.elim | trivial | skip
    · exact ⟨_, b, rfl, ok', f, .non, outs_ok s' p⟩
    · exact ⟨_, b, rfl, ok', f, l, outs_ok s' p⟩
    · exact ⟨_, b, rfl, ok', f, l.2, outs_ok s' p⟩
end
/-! ### calls -/
def retT (r : RT T) (τ : TSt) : RT T := match r with
  | .ok v _ => .ok v τ
  | .ex x _ => .ex x τ
  | .no => .no
def LenA (t : TAx) (n : Nat) : Prop := ∀ τ xs τ', t τ = .ok xs τ' → xs.length = n
def eCall (f : Ft) (ta : TAx) : TEx := fun τ => (ta τ).bind fun xs τ1 => retT (f (xs.map .fz)) τ1
def eCallK (f : Ft) (is : List Nat) (dT : List T) (ta tk : TAx) : TEx := fun τ => (ta τ).bind fun xs τ1 => (tk τ1).bind fun zs τ2 => retT (f ((sel is (xs ++ zs ++ dT)).map .fz)) τ2
theorem len_nil : LenA aNil 0 := fun τ xs τ' e => by cases e; rfl
theorem len_cons {e : TEx} {t : TAx} {n : Nat} (h : LenA t n) : LenA (aCons e t) (n + 1) := fun τ xs τ' q => by
  unfold aCons at q
  cases q1 : e τ with
  | no => rw [q1] at q; cases q
  | ex _ _ => rw [q1] at q; cases q
  | ok x τ1 =>
    rw [q1] at q
    simp only [RT.bind] at q
    cases q2 : t τ1 with
    | no => rw [q2] at q; cases q
    | ex _ _ => rw [q2] at q; cases q
    | ok ys τ2 =>
      rw [q2] at q
      cases q
      simp only [List.length_cons, h _ _ _ q2]
/-- what a callee may touch -/
def Wd.only (a : Wd) (p : Nat → Prop) : Wd := ⟨a.F, fun r => a.O r ∧ p r, a.h⟩
/-- back in the caller -/
def Wd.back (a b : Wd) : Wd := ⟨b.F, a.O, b.h⟩
section
variable {P : List Nat} {a b c : Wd} {σ : MSt} {τ : TSt} {F : Fm} {f : Ft} {ma mk : MAx} {ta tk : TAx} {ts : List T} {ws : List W} {m : MEx} {t : TEx} {p : Nat → Prop}
theorem Wd.Ok.only (ok : a.Ok) : (a.only p).Ok := ⟨fun r z => ok.dj r z.1, fun r z => ok.ol r z.1, ok.fl⟩
theorem rp_same {t : T} {w : W} (hF : ∀ r, a.F r → b.F r) (hh : a.h = b.h) (q : Rp a t w) : Rp b t w := by
  induction q with
  | non => exact .non
  | bl => exact .bl
  | int => exact .int
  | str => exact .str
  | ty => exact .ty
  | glo => exact .glo
  | tup z e l _ ih => exact .tup (hF _ z) (hh ▸ e) l ih
  | lst z e l _ ih => exact .lst (hF _ z) (hh ▸ e) l ih
  | frl z e l _ ih => exact .frl (hF _ z) (hh ▸ e) l ih
  | ktp z e l _ ih => exact .ktp (hF _ z) (hh ▸ e) l ih
  | dK z e l _ ih => exact .dK (hF _ z) (hh ▸ e) l ih
  | ins z e l _ ih => exact .ins (hF _ z) (hh ▸ e) l ih
  | exn z e z2 e2 l _ ih => exact .exn (hF _ z) (hh ▸ e) (hF _ z2) (hh ▸ e2) l ih
theorem rpL_same (hF : ∀ r, a.F r → b.F r) (hh : a.h = b.h) (q : RpL a ts ws) : RpL b ts ws := ⟨q.1, fun i t w x y => rp_same hF hh (q.2 i t w x y)⟩
theorem owr_same {t : T} {r : Nat} (hF : ∀ r, a.F r → b.F r) (hh : a.h = b.h) (q : OwR a t r) : OwR b t r := by
  cases t with
  | lst ts => obtain ⟨ws, e, l⟩ := q; exact ⟨ws, hh ▸ e, rpL_same hF hh l⟩
  | ins C fs => obtain ⟨dx, ws, e, l⟩ := q; exact ⟨dx, ws, hh ▸ e, l.1, fun i t w x y => rp_same hF hh (l.2 i t w x y)⟩
  | dK kvs => obtain ⟨ws, e, l⟩ := q; exact ⟨ws, hh ▸ e, l.1, fun i t w x y => rp_same hF hh (l.2 i t w x y)⟩
  | _ => exact q.elim
theorem exr_same {x : TExn} {e : Exn} (hF : ∀ r, a.F r → b.F r) (hh : a.h = b.h) (q : ExR a x e) : ExR b x e := by
  obtain ⟨c, d, ws, ed, hf, eh, l⟩ := q
  exact ⟨c, d, ws, ed, hF d hf, hh ▸ eh, l.1, fun i t w x y => rp_same hF hh (l.2 i t w x y)⟩
/-- frozen arguments -/
theorem ag_fz (q : RpL a ts ws) : AgR a ws (ts.map .fz) := by
  refine ⟨by simp [q.1], fun k x y e e' => ?_, fun k l t u r e1 _ _ _ => ?_⟩
  · simp only [List.getElem?_map] at e e'
    cases h1 : ws[k]? with
    | none => rw [h1] at e; cases e
    | some w =>
      cases h2 : ts[k]? with
      | none => rw [h2] at e'; cases e'
      | some t => rw [h1] at e; rw [h2] at e'; cases e; cases e'; exact ⟨w, rfl, q.2 k t w h2 h1⟩
  · simp only [List.getElem?_map] at e1
    cases h2 : ts[k]? with
    | none => rw [h2] at e1; cases e1
    | some t => rw [h2] at e1; cases e1
/-- what the caller sees of a call, where some owned things were handed on -/
theorem back_ok (ok : a.Ok) (okb : b.Ok) (f : Fr (a.only p) b) (hp : ∀ r, a.O r → p r → b.O r) : (a.back b).Ok ∧ Fr a (a.back b) := by
  refine ⟨⟨fun r z y => ?_, fun r z => Nat.lt_of_lt_of_le (ok.ol r z) f.len, okb.fl⟩, ⟨f.fm, fun r z => ?_, fun r z => .inl z, f.len, fun r o e n => f.keep r o e fun z => n z.1⟩⟩
  · rcases f.fn r y with x | x | x
    · exact ok.dj r z x
    · exact okb.dj r (hp r z x.2) y
    · exact absurd (ok.ol r z) (Nat.not_lt.mpr x)
  · rcases f.fn r z with x | x | x
    · exact .inl x
    · exact .inr (.inl x.1)
    · exact .inr (.inr x)
theorem back_sr (ok : a.Ok) (okb : b.Ok) (f : Fr (a.only p) b) (hp : ∀ r, a.O r → p r → b.O r) (s : SR a σ τ) (hs : ∀ (k : Nat) (t : T) (r : Nat), τ[k]? = some (some (.ow t)) → σ[k]? = some (some (.ref r)) → ¬p r) : SR (a.back b) σ τ := by
  obtain ⟨ok', f'⟩ := back_ok ok okb f hp
  refine ⟨s.len, fun k x y e e' => ?_, s.inj⟩
  have z := s.at_ k x y e e'
  cases y with
  | none => trivial
  | some v => cases v with
    | fz t => obtain ⟨w, e, l⟩ := z; exact ⟨w, e, l.mono ok f'⟩
    | ow t =>
      obtain ⟨r, er, hr, l⟩ := z
      subst er
      exact ⟨r, rfl, hr, l.keep ok f' fun o eo => f.keep r o eo fun z => hs k t r e' e z.2⟩
/-- a call that hands on nothing that is owned -/
theorem call_fz (hf : SimF P F f) (ok : a.Ok) (s : SR a σ τ) (l : RpL a ts ws) : SimR a σ Rp (F ws a.h) (retT (f (ts.map .fz)) τ) := by
  have z := hf (a.only fun _ => False) ws (ts.map .fz) ok.only (ag_fz (rpL_same (a := a) (b := a.only fun _ => False) (fun _ y => y) rfl l))
  cases q : f (ts.map .fz) with
  | no => trivial
  | ok v os =>
    rw [q] at z
    obtain ⟨w, b, e, okb, fb, lb, _⟩ := z
    obtain ⟨ok', f'⟩ := back_ok ok okb fb (fun _ _ z => z.elim)
    exact ⟨w, a.back b, e, ok', f', back_sr ok okb fb (fun _ _ z => z.elim) s (fun _ _ _ _ _ z => z), rp_same (a := b) (fun _ y => y) rfl lb⟩
  | ex x os =>
    rw [q] at z
    obtain ⟨w, b, e, okb, fb, lb, _⟩ := z
    obtain ⟨ok', f'⟩ := back_ok ok okb fb (fun _ _ z => z.elim)
    exact ⟨w, a.back b, e, ok', f', back_sr ok okb fb (fun _ _ z => z.elim) s (fun _ _ _ _ _ z => z), exr_same (a := b) (fun _ y => y) rfl lb⟩
theorem sel_range {α : Type} {l : List α} : sel (List.range l.length) l = l := by
  unfold sel
  induction l with
  | nil => rfl
  | cons x l ih =>
    rw [List.length_cons, List.range_succ_eq_map, List.filterMap_cons, List.filterMap_map]
    simp only [List.getElem?_cons_zero]
    congr 1
theorem sel_rp (q : RpL a ts ws) {is : List Nat} : RpL a (sel is ts) (sel is ws) := by
  unfold sel
  induction is with
  | nil => exact .nil
  | cons i is ih =>
    simp only [List.filterMap_cons]
    cases h : ts[i]? with
    | none =>
      have : ws[i]? = none := by
        rw [List.getElem?_eq_none_iff] at h ⊢
        rw [← q.1]; exact h
      rw [this]; exact ih
    | some t =>
      obtain ⟨w, e, l⟩ := q.get h
      rw [e]; exact .cons l ih
theorem sel_len {α : Type} {is : List Nat} {l : List α} (h : ∀ i ∈ is, i < l.length) : (sel is l).length = is.length := by
  unfold sel
  induction is with
  | nil => rfl
  | cons i is ih =>
    simp only [List.filterMap_cons]
    rw [List.getElem?_eq_getElem (h i List.mem_cons_self)]
    simp only [List.length_cons, ih fun j hj => h j (List.mem_cons_of_mem _ hj)]
theorem SimR.lenA {n : Nat} {r : R (List W)} (hl : LenA ta n) (s : SimR a σ RpL r (ta τ)) : SimR a σ (fun b v w => RpL b v w ∧ v.length = n) r (ta τ) := by
  cases q : ta τ with
  | no => trivial
  | ex x τ' => rw [q] at s; exact s
  | ok xs τ' => rw [q] at s; obtain ⟨w, b, e, ok, f, s', l⟩ := s; exact ⟨w, b, e, ok, f, s', l, hl _ _ _ q⟩
theorem se_call {n np : Nat} {is : List Nat} (hf : SimF P F f) (h : SimA ma ta) (hl : LenA ta n) (hn : np = n) (hi : is = List.range n) : SimE (mCall F n 0 np [] is ma mNil) (eCall f ta) := fun a σ τ ok s => by
  subst hn hi
  refine (SimR.lenA hl (h a σ τ ok s)).bind fun b v w τ' ok' f' s' l => ?_
  have hw : w.length = np := by rw [← l.1.1]; exact l.2
  have e1 : sel (List.range np) w = w := by rw [← hw]; exact sel_range
  simp only [mNil, R.bind, List.append_nil, e1]
  rw [if_pos ⟨hw, rfl, hw⟩]
  exact call_fz hf ok' s' l.1
theorem se_callK {n nk np : Nat} {is : List Nat} {dT : List T} {dW : List W} (hf : SimF P F f) (h : SimA ma ta) (hl : LenA ta n) (h' : SimA mk tk) (hl' : LenA tk nk) (hd : ∀ a, RpL a dT dW) (hi : ∀ i ∈ is, i < n + nk + dT.length) (hn : is.length = np) :
    SimE (mCall F n nk np dW is ma mk) (eCallK f is dT ta tk) := fun a σ τ ok s => by
  refine (SimR.lenA hl (h a σ τ ok s)).bind fun b v w τ' ok' f' s' l => ?_
  refine (SimR.lenA hl' (h' b σ τ' ok' s')).bind fun c v2 w2 τ2 ok2 f2 s2 l2 => ?_
  have hw : w.length = n := by rw [← l.1.1]; exact l.2
  have hw2 : w2.length = nk := by rw [← l2.1.1]; exact l2.2
  have hwd : dW.length = dT.length := (hd c).1.symm
  rw [if_pos ⟨hw, hw2, by rw [sel_len (by simp only [List.length_append, hw, hw2, hwd]; exact hi)]; exact hn⟩]
  exact call_fz hf ok2 s2 (sel_rp (((l.1.mono ok' f2).append l2.1).append (hd c)))
/-- a call that hands on one slot as the first argument -/
def eCallS (f : Ft) (k : Nat) (ta : TAx) : TEx := fun τ => match owAt τ k with
  | none => .no
  | some _ => (ta τ).bind fun xs τ1 => match owAt τ1 k with
    | none => .no
    | some t => match f (.ow t :: xs.map .fz) with
      | .ok v [some (.ow t')] => .ok v (τ1.set k (some (.ow t')))
      | .ex x [some (.ow t')] => .ex x (τ1.set k (some (.ow t')))
      | _ => .no
theorem ag_ow {r : Nat} {u : T} (hr : a.O r) (ow : OwR a u r) (q : RpL a ts ws) : AgR a (.ref r :: ws) (.ow u :: ts.map .fz) := by
  have z := ag_fz q
  refine ⟨by simp [q.1], fun k x y e e' => ?_, fun k l t u' r' e1 e2 _ _ => ?_⟩
  · cases k with
    | zero => simp at e e'; subst e e'; exact ⟨r, rfl, hr, ow⟩
    | succ k => simp only [List.map_cons, List.getElem?_cons_succ] at e e'; exact z.at_ k x y e e'
  · have no : ∀ {k : Nat} {t : T}, (List.map some (SV.ow u :: ts.map .fz))[k]? = some (some (.ow t)) → k = 0 := fun {k t} e => by
      cases k with
      | zero => rfl
      | succ k =>
        simp only [List.map_cons, List.getElem?_cons_succ, List.getElem?_map] at e
        cases h : ts[k]? with
        | none => rw [h] at e; cases e
        | some x => rw [h] at e; cases e
    rw [no e1, no e2]
theorem back_sr1 (ok : a.Ok) (okb : b.Ok) {r k : Nat} {u u' : T} (f : Fr (a.only (· = r)) b) (hb : b.O r) (ow : OwR b u' r) (s : SR a σ τ) (ek : τ[k]? = some (some (.ow u))) (es : σ[k]? = some (some (.ref r))) (hr : a.O r) : SR (a.back b) σ (τ.set k (some (.ow u'))) := by
  have hp : ∀ i, a.O i → i = r → b.O i := fun i _ z => z ▸ hb
  obtain ⟨ok', f'⟩ := back_ok ok okb f hp
  have hk := (List.getElem?_eq_some_iff.mp ek).1
  refine ⟨by simp [s.len], fun i x y e e' => ?_, fun i j t v r' e1 e2 e3 e4 => ?_⟩
  · by_cases h : k = i
    · subst h
      rw [List.getElem?_set_self hk] at e'
      rw [es] at e
      cases e; cases e'
      exact ⟨r, rfl, hr, owr_same (a := b) (fun _ y => y) rfl ow⟩
    · rw [List.getElem?_set_ne h] at e'
      have z := s.at_ i x y e e'
      cases y with
      | none => trivial
      | some v => cases v with
        | fz t => obtain ⟨w, e, l⟩ := z; exact ⟨w, e, l.mono ok f'⟩
        | ow t =>
          obtain ⟨r2, er, hr2, l⟩ := z
          subst er
          refine ⟨r2, rfl, hr2, l.keep ok f' fun o eo => f.keep r2 o eo fun z => ?_⟩
          have hz : r2 = r := z.2
          rw [hz] at e
          exact h (s.inj k i u t r ek e' es e)
  · have oo : ∀ {i : Nat} {t : T}, (τ.set k (some (.ow u')))[i]? = some (some (.ow t)) → ∃ v, τ[i]? = some (some (.ow v)) := fun {i t} f => by
      by_cases h : k = i
      · subst h; exact ⟨u, ek⟩
      · rw [List.getElem?_set_ne h] at f; exact ⟨t, f⟩
    obtain ⟨v1, g1⟩ := oo e1
    obtain ⟨v2, g2⟩ := oo e2
    exact s.inj i j v1 v2 r' g1 g2 e3 e4
theorem out_one {r : Nat} {os : TSt} {t' : T} (o : OutR [0] b (.ref r :: ws) os) (e : os = [some (.ow t')]) : b.O r ∧ OwR b t' r := by
  subst e
  obtain ⟨r', e, hr, ow⟩ := o.2 0 0 _ (.ref r) rfl rfl rfl
  cases e
  exact ⟨hr, ow⟩
theorem se_callS {n np k : Nat} {is : List Nat} (hf : SimF [0] F f) (h : SimA ma ta) (hl : LenA ta n) (hn : np = n + 1) (hi : is = List.range (n + 1)) : SimE (mCall F (n + 1) 0 np [] is (mCons (mV k) ma) mNil) (eCallS f k ta) := fun a σ τ ok s => by
  subst hn hi
  unfold eCallS
  cases q0 : owAt τ k with
  | none => trivial
  | some u0 =>
    obtain ⟨r, es, hr0, _⟩ := s.ow (owAt_some q0)
    have e0 : mCall F (n + 1) 0 (n + 1) [] (List.range (n + 1)) (mCons (mV k) ma) mNil σ a.h = (ma σ a.h).bind fun ws h2 => if ws.length = n then F (.ref r :: ws) h2 else .no := by
      unfold mCall mCons
      rw [mV_ref es]
      simp only [R.bind]
      cases ma σ a.h with
      | no => rfl
      | ex _ _ => rfl
      | ok ws h2 =>
        simp only [mNil, List.append_nil]
        by_cases c : ws.length = n
        · have e1 : sel (List.range (n + 1)) (W.ref r :: ws) = .ref r :: ws := by
            rw [show n + 1 = (W.ref r :: ws).length by simp [c]]; exact sel_range
          rw [e1, if_pos c, if_pos ⟨by simp [c], rfl, by simp [c]⟩]
        · rw [if_neg c, if_neg fun z => c (by simpa using z.1)]
    rw [e0]
    refine (SimR.lenA hl (h a σ τ ok s)).bind fun b v w τ1 ok1 f1 s1 l => ?_
    have hw : w.length = n := by rw [← l.1.1]; exact l.2
    rw [if_pos hw]
    cases q1 : owAt τ1 k with
    | none => trivial
    | some u =>
      obtain ⟨r', es', hr, ow⟩ := s1.ow (owAt_some q1)
      rw [es] at es'; cases es'
      have z := hf (b.only (· = r)) (.ref r :: w) (.ow u :: v.map .fz) ok1.only (ag_ow (a := b.only (· = r)) ⟨hr, rfl⟩ (owr_same (a := b) (fun _ y => y) rfl ow) (rpL_same (a := b) (fun _ y => y) rfl l.1))
      simp only []
      cases q : f (.ow u :: v.map .fz) with
      | no => trivial
      | ok x os =>
        rw [q] at z
        obtain ⟨w', c, e, okc, fc, lc, oc⟩ := z
        split
        · next h => cases h; obtain ⟨hrc, owc⟩ := out_one oc rfl; exact ⟨w', b.back c, e, (back_ok ok1 okc fc (fun i _ z => z ▸ hrc)).1, (back_ok ok1 okc fc (fun i _ z => z ▸ hrc)).2, back_sr1 ok1 okc fc hrc owc s1 (owAt_some q1) es hr, rp_same (a := c) (fun _ y => y) rfl lc⟩
        · next h => cases h
        · trivial
      | ex x os =>
        rw [q] at z
        obtain ⟨w', c, e, okc, fc, lc, oc⟩ := z
        split
        · next h => cases h
        · next h => cases h; obtain ⟨hrc, owc⟩ := out_one oc rfl; exact ⟨w', b.back c, e, (back_ok ok1 okc fc (fun i _ z => z ▸ hrc)).1, (back_ok ok1 okc fc (fun i _ z => z ▸ hrc)).2, back_sr1 ok1 okc fc hrc owc s1 (owAt_some q1) es hr, exr_same (a := c) (fun _ y => y) rfl lc⟩
        · trivial
end
end Mc

namespace Mc
open PySem
/-! ### functions whose result is new and owned -/
def SimFo (F : Fm) (f : Ft) : Prop := ∀ a ws vs, a.Ok → (∀ r, ¬a.O r) → AgR a ws vs → match f vs with
  | .ok v _ => ∃ r b, F ws a.h = .ok (.ref r) b.h ∧ b.Ok ∧ Fr a b ∧ b.O r ∧ OwR b v r ∧ a.h.length ≤ r
  | .ex x _ => ∃ e b, F ws a.h = .ex e b.h ∧ b.Ok ∧ Fr a b ∧ ExR b x e
  | .no => True
def NoRt (t : TSx) : Prop := ∀ τ v τ', t τ ≠ some (.rt v, τ')
section
variable {P : List Nat} {a b c : Wd} {σ : MSt} {τ : TSt} {F : Fm} {f : Ft} {ma mk : MAx} {ta tk : TAx} {ts : List T} {ws : List W} {m : MEx} {t : TEx} {ms : MSx} {zs : TSx} {g : TGx}
theorem noRt_asg : NoRt (zAsg t g) := fun τ v τ' e => by
  unfold zAsg at e
  cases q : t τ with
  | no => rw [q] at e; cases e
  | ex x τ1 => rw [q] at e; cases e
  | ok x τ1 =>
    rw [q] at e
    simp only [RT.stm] at e
    cases q2 : g x τ1 with
    | none => rw [q2] at e; cases e
    | some τ2 => rw [q2] at e; cases e
theorem fo_seq {n : Nat} (h : SimS [] ms zs) (hn : NoRt zs) (h' : SimO m t) : SimFo (fnRun n (sSeq ms (sRet m))) (fnT n [] (zSeq zs (zRet t))) := fun a ws vs ok hO s => by
  have z := h a _ _ ok (start_sr (n := n) s)
  unfold fnRun fnT sSeq zSeq
  cases q : zs (startT n vs) with
  | none => trivial
  | some r =>
    obtain ⟨fl, τ⟩ := r
    rw [q] at z
    obtain ⟨gl, b, σ', e, ok', f, s', p, l⟩ := z
    rw [e]
    cases fl <;> cases gl <;> first | exact l.elim | trivial | skip
    · cases (show _ = σ' from l)
      have z2 := h' b _ τ ok' s'
      simp only [zRet, sRet]
      cases q2 : t τ with
      | no => trivial
      | ex x τ1 =>
        rw [q2] at z2
        obtain ⟨e, c, e1, okc, fc, sc, lc⟩ := z2
        rw [e1]
        exact ⟨e, c, rfl, okc, f.trans fc, lc⟩
      | ok v τ1 =>
        rw [q2] at z2
        obtain ⟨r, c, e1, okc, fc, sc, hr, ow, ln, fr⟩ := z2
        rw [e1]
        exact ⟨r, c, rfl, okc, f.trans fc, hr, ow, Nat.le_trans f.len ln⟩
    · exact absurd q (hn _ _ _)
    · exact ⟨_, b, rfl, ok', f, l.2⟩
theorem fo_ret {n : Nat} (h' : SimO m t) : SimFo (fnRun n (sRet m)) (fnT n [] (zRet t)) := fun a ws vs ok hO s => by
  have z2 := h' a _ _ ok (start_sr (n := n) s)
  unfold fnRun fnT
  simp only [zRet, sRet]
  cases q2 : t (startT n vs) with
  | no => trivial
  | ex x τ1 =>
    rw [q2] at z2
    obtain ⟨e, c, e1, okc, fc, sc, lc⟩ := z2
    rw [e1]
    exact ⟨e, c, rfl, okc, fc, lc⟩
  | ok v τ1 =>
    rw [q2] at z2
    obtain ⟨r, c, e1, okc, fc, sc, hr, ow, ln, fr⟩ := z2
    rw [e1]
    exact ⟨r, c, rfl, okc, fc, hr, ow, ln⟩
/-- the owned result of a call -/
theorem so_call {n np : Nat} {is : List Nat} (hf : SimFo F f) (h : SimA ma ta) (hl : LenA ta n) (hn : np = n) (hi : is = List.range n) : SimO (mCall F n 0 np [] is ma mNil) (eCall f ta) := fun a σ τ ok s => by
  subst hn hi
  refine SimR.bindO (SimR.lenA hl (h a σ τ ok s)) fun b v w τ' ok' f' s' l => ?_
  have hw : w.length = np := by rw [← l.1.1]; exact l.2
  have e1 : sel (List.range np) w = w := by rw [← hw]; exact sel_range
  simp only [mNil, R.bind, List.append_nil, e1]
  rw [if_pos ⟨hw, rfl, hw⟩]
  have z := hf (b.only fun _ => False) w (v.map .fz) ok'.only (fun _ z => z.2) (ag_fz (rpL_same (a := b) (b := b.only fun _ => False) (fun _ y => y) rfl l.1))
  cases q : f (v.map .fz) with
  | no => trivial
  | ok u os =>
    rw [q] at z
    obtain ⟨r, c, e, okc, fc, hr, ow, ln⟩ := z
    obtain ⟨ok2, f2⟩ := back_ok ok' okc fc (fun _ _ z => z.elim)
    have s2 := back_sr ok' okc fc (fun _ _ z => z.elim) s' (fun _ _ _ _ _ z => z)
    let d : Wd := ⟨c.F, fun i => b.O i ∨ i = r, c.h⟩
    have okd : d.Ok := ⟨fun i z y => z.elim (fun x => ok2.dj i x y) fun x => okc.dj i (x ▸ hr) y, fun i z => z.elim (ok2.ol i) fun x => x ▸ okc.ol r hr, okc.fl⟩
    have fd : Fr b d := ⟨f2.fm, f2.fn, fun i z => z.elim .inl fun x => .inr (x ▸ ln), f2.len, f2.keep⟩
    refine ⟨r, d, e, okd, fd, ⟨s2.len, fun k x y e e' => ?_, s2.inj⟩, .inr rfl, owr_same (a := c) (fun _ y => y) rfl ow, ln, fun k u e e' => ?_⟩
    · have z := s2.at_ k x y e e'
      cases y with
      | none => trivial
      | some v => cases v with
        | fz t => obtain ⟨w, e, l⟩ := z; exact ⟨w, e, rp_same (a := b.back c) (fun _ y => y) rfl l⟩
        | ow t => obtain ⟨i, e, hi, l⟩ := z; exact ⟨i, e, .inl hi, owr_same (a := b.back c) (fun _ y => y) rfl l⟩
    · obtain ⟨i, es, hi, _⟩ := s'.ow e
      rw [e'] at es; cases es
      exact absurd (ok'.ol _ hi) (Nat.not_lt.mpr ln)
  | ex x os =>
    rw [q] at z
    obtain ⟨w, c, e, okc, fc, lc⟩ := z
    obtain ⟨ok2, f2⟩ := back_ok ok' okc fc (fun _ _ z => z.elim)
    exact ⟨w, b.back c, e, ok2, f2, back_sr ok' okc fc (fun _ _ z => z.elim) s' (fun _ _ _ _ _ z => z), exr_same (a := c) (fun _ y => y) rfl lc⟩
/-- a call that hands on a new owned thing alone -/
def eCallT (f : Ft) (o : TEx) : TEx := fun τ => (o τ).bind fun u τ1 => match f [.ow u] with
  | .ok v [some (.ow _)] => .ok v τ1
  | .ex x [some (.ow _)] => .ex x τ1
  | _ => .no
theorem se_callT (hf : SimF [0] F f) (h : SimO m t) : SimE (mCall F 1 0 1 [] [0] (mCons m mNil) mNil) (eCallT f t) := fun a σ τ ok s => by
  have e0 : mCall F 1 0 1 [] [0] (mCons m mNil) mNil σ a.h = (m σ a.h).bind fun w h2 => F [w] h2 := by
    unfold mCall mCons
    cases m σ a.h <;> rfl
  rw [e0]
  have z := h a σ τ ok s
  unfold eCallT
  cases q : t τ with
  | no => trivial
  | ex x τ' =>
    rw [q] at z
    obtain ⟨e, b, e1, z⟩ := z
    rw [e1]
    exact ⟨e, b, rfl, z⟩
  | ok u τ1 =>
    rw [q] at z
    obtain ⟨r, b, e1, ok1, f1, s1, hr, ow, ln, fr⟩ := z
    rw [e1]
    refine SimR.pre f1 ?_
    simp only [R.bind, RT.bind]
    have z := hf (b.only (· = r)) [.ref r] [.ow u] ok1.only (ag_ow (a := b.only (· = r)) ⟨hr, rfl⟩ (owr_same (a := b) (fun _ y => y) rfl ow) .nil)
    have hs : ∀ (k : Nat) (t : T) (r' : Nat), τ1[k]? = some (some (.ow t)) → σ[k]? = some (some (.ref r')) → ¬r' = r := fun k t r' e e' z => fr k t e (z ▸ e')
    cases q : f [.ow u] with
    | no => trivial
    | ok x os =>
      rw [q] at z
      obtain ⟨w', c, e, okc, fc, lc, oc⟩ := z
      split
      · next h => cases h; obtain ⟨hrc, owc⟩ := out_one oc rfl; exact ⟨w', b.back c, e, (back_ok ok1 okc fc (fun i _ z => z ▸ hrc)).1, (back_ok ok1 okc fc (fun i _ z => z ▸ hrc)).2, back_sr ok1 okc fc (fun i _ z => z ▸ hrc) s1 hs, rp_same (a := c) (fun _ y => y) rfl lc⟩
      · next h => cases h
      · trivial
    | ex x os =>
      rw [q] at z
      obtain ⟨w', c, e, okc, fc, lc, oc⟩ := z
      split
      · next h => cases h
      · next h => cases h; obtain ⟨hrc, owc⟩ := out_one oc rfl; exact ⟨w', b.back c, e, (back_ok ok1 okc fc (fun i _ z => z ▸ hrc)).1, (back_ok ok1 okc fc (fun i _ z => z ▸ hrc)).2, back_sr ok1 okc fc (fun i _ z => z ▸ hrc) s1 hs, exr_same (a := c) (fun _ y => y) rfl lc⟩
      · trivial
end
/-! ### objects -/
def eMakeG (C : Str) (f : Ft) (xs : List T) (τ : TSt) : RT T := match f (.ow (.ins C []) :: xs.map .fz) with
  | .ok .non [some (.ow t)] => .ok t τ
  | .ex x [some (.ow _)] => .ex x τ
  | _ => .no
def eMake (C : Str) (f : Ft) (ta : TAx) : TEx := fun τ => (ta τ).bind fun xs τ1 => eMakeG C f xs τ1
def eMakeK (C : Str) (f : Ft) (is : List Nat) (dT : List T) (ta tk : TAx) : TEx := fun τ => (ta τ).bind fun xs τ1 => (tk τ1).bind fun zs τ2 => eMakeG C f (sel is (xs ++ zs ++ dT)) τ2
section
variable {P : List Nat} {a b c : Wd} {σ : MSt} {τ : TSt} {F : Fm} {f : Ft} {ma mk : MAx} {ta tk : TAx} {ts : List T} {ws : List W} {m : MEx} {t : TEx} {C : Str}
theorem make_fz (hf : SimF [0] F f) (ok : a.Ok) (s : SR a σ τ) (l : RpL a ts ws) : SimR a σ Rp (newR a.h.length (F (.ref a.h.length :: ws) (newH C a.h))) (eMakeG C f ts τ) := by
  let b : Wd := (a.newN (.ins C (a.h.length + 1) [])).newN (.own a.h.length)
  have G : Gr a b := Gr.newN.trans Gr.newN
  have okb : b.Ok := ok.newN.newN
  let d : Wd := ⟨b.F, fun r => r = a.h.length, b.h⟩
  have hb : b.h = newH C a.h := by simp [b, Wd.newN, newH]
  have okd : d.Ok := ⟨fun r z y => by cases (show r = a.h.length from z); exact Nat.lt_irrefl _ (ok.fl _ y), fun r z => by cases (show r = a.h.length from z); show a.h.length < b.h.length; simp [hb, newH], okb.fl⟩
  have hat : d.h[a.h.length]? = some (.ins C (a.h.length + 1) []) := by show b.h[a.h.length]? = _; simp [hb, newH]
  have ag : AgR d (.ref a.h.length :: ws) (.ow (.ins C []) :: ts.map .fz) := ag_ow (a := d) rfl ⟨_, [], hat, rfl, fun i t w e _ => by simp at e⟩ (rpL_same (a := b) (fun _ y => y) rfl (l.mono ok G.fr))
  have z := hf d _ _ okd ag
  have hd : d.h = newH C a.h := hb
  rw [hd] at z
  unfold eMakeG
  have back : ∀ c : Wd, c.Ok → Fr d c → c.O a.h.length → (∀ (e : Wd), e = ⟨fun r => c.F r ∨ r = a.h.length, a.O, c.h⟩ → e.Ok ∧ Fr a e ∧ SR e σ τ ∧ (∀ t, OwR c t a.h.length → Rp e t (.ref a.h.length)) ∧ ∀ x y, ExR c x y → ExR e x y) := fun c okc fc hc e he => by
    subst he
    have hF : ∀ r, c.F r → a.F r ∨ a.h.length ≤ r := fun r y => by
      rcases fc.fn r y with x | x | x
      · exact .inl x
      · exact .inr (Nat.le_of_eq (Eq.symm x))
      · exact .inr (Nat.le_trans G.fr.len x)
    have oke : (⟨fun r => c.F r ∨ r = a.h.length, a.O, c.h⟩ : Wd).Ok := ⟨fun r z y => by
      rcases y with y | y
      · rcases hF r y with x | x
        · exact ok.dj r z x
        · exact absurd (ok.ol r z) (Nat.not_lt.mpr x)
      · exact absurd (ok.ol r z) (by rw [y]; exact Nat.lt_irrefl _), fun r z => Nat.lt_of_lt_of_le (ok.ol r z) (Nat.le_trans G.fr.len fc.len), fun r z => z.elim (okc.fl r) fun y => by rw [y]; exact okc.ol _ hc⟩
    have keep : ∀ (r : Nat) (o : MO), a.h[r]? = some o → c.h[r]? = some o := fun r o e => fc.keep r o (pre_get G.pre e) fun z => by
      have := (List.getElem?_eq_some_iff.mp e).1
      cases (show r = a.h.length from z)
      exact Nat.lt_irrefl _ this
    have fe : Fr a ⟨fun r => c.F r ∨ r = a.h.length, a.O, c.h⟩ := ⟨fun r z => .inl (fc.fm r z), fun r z => z.elim (fun y => (hF r y).imp id .inr) fun y => .inr (.inr (Nat.le_of_eq y.symm)), fun r z => .inl z, Nat.le_trans G.fr.len fc.len, fun r o e _ => keep r o e⟩
    refine ⟨oke, fe, ⟨s.len, fun k x y e e' => (s.at_ k x y e e').keep ok fe (fun r o _ z => keep r o z) fun r z => z, s.inj⟩, fun t ow => ?_, fun x y q => ?_⟩
    · exact (owr_same (a := c) (b := ⟨fun r => c.F r ∨ r = a.h.length, a.O, c.h⟩) (fun _ y => .inl y) rfl ow).rp (.inr rfl)
    · exact exr_same (a := c) (b := ⟨fun r => c.F r ∨ r = a.h.length, a.O, c.h⟩) (fun _ y => .inl y) rfl q
  cases q : f (.ow (.ins C []) :: ts.map .fz) with
  | no => trivial
  | ok x os =>
    rw [q] at z
    obtain ⟨w', c, e, okc, fc, lc, oc⟩ := z
    split
    · next h =>
      cases h
      obtain ⟨hrc, owc⟩ := out_one oc rfl
      obtain ⟨oke, fe, se, ow, _⟩ := back c okc fc hrc _ rfl
      cases lc
      rw [e]
      exact ⟨.ref a.h.length, ⟨fun r => c.F r ∨ r = a.h.length, a.O, c.h⟩, rfl, oke, fe, se, ow _ owc⟩
    · next h => cases h
    · trivial
  | ex x os =>
    rw [q] at z
    obtain ⟨w', c, e, okc, fc, lc, oc⟩ := z
    split
    · next h => cases h
    · next h =>
      cases h
      obtain ⟨hrc, owc⟩ := out_one oc rfl
      obtain ⟨oke, fe, se, _, ex⟩ := back c okc fc hrc _ rfl
      rw [e]
      exact ⟨w', ⟨fun r => c.F r ∨ r = a.h.length, a.O, c.h⟩, rfl, oke, fe, se, ex _ _ lc⟩
    · trivial
theorem se_make {n np : Nat} {is : List Nat} (hf : SimF [0] F f) (h : SimA ma ta) (hl : LenA ta n) (hn : np = n + 1) (hi : is = List.range (n + 1)) : SimE (mMake C F n 0 np [] is ma mNil) (eMake C f ta) := fun a σ τ ok s => by
  subst hn hi
  refine (SimR.lenA hl (h a σ τ ok s)).bind fun b v w τ' ok' f' s' l => ?_
  have hw : w.length = n := by rw [← l.1.1]; exact l.2
  have e1 : sel (List.range (n + 1)) (W.ref b.h.length :: w) = .ref b.h.length :: w := by
    rw [show n + 1 = (W.ref b.h.length :: w).length by simp [hw]]; exact sel_range
  simp only [mNil, R.bind, List.append_nil, e1]
  rw [if_pos ⟨hw, rfl, by simp [hw]⟩]
  exact make_fz hf ok' s' l.1
theorem sel_shift {α : Type} {is : List Nat} {x : α} {l : List α} : sel (is.map (· + 1)) (x :: l) = sel is l := by
  unfold sel
  rw [List.filterMap_map]
  congr 1
theorem se_makeK {n nk np : Nat} {is js : List Nat} {dT : List T} {dW : List W} (hf : SimF [0] F f) (h : SimA ma ta) (hl : LenA ta n) (h' : SimA mk tk) (hl' : LenA tk nk) (hd : ∀ a, RpL a dT dW) (hj : js = 0 :: is.map (· + 1)) (hi : ∀ i ∈ is, i < n + nk + dT.length) (hn : is.length + 1 = np) :
    SimE (mMake C F n nk np dW js ma mk) (eMakeK C f is dT ta tk) := fun a σ τ ok s => by
  subst hj
  refine (SimR.lenA hl (h a σ τ ok s)).bind fun b v w τ' ok' f' s' l => ?_
  refine (SimR.lenA hl' (h' b σ τ' ok' s')).bind fun c v2 w2 τ2 ok2 f2 s2 l2 => ?_
  have hw : w.length = n := by rw [← l.1.1]; exact l.2
  have hw2 : w2.length = nk := by rw [← l2.1.1]; exact l2.2
  have hwd : dW.length = dT.length := (hd c).1.symm
  have e1 : sel (0 :: is.map (· + 1)) (W.ref c.h.length :: w ++ w2 ++ dW) = .ref c.h.length :: sel is (w ++ w2 ++ dW) := by
    have := sel_shift (is := is) (x := W.ref c.h.length) (l := w ++ w2 ++ dW)
    unfold sel at this ⊢
    simp only [List.filterMap_cons, List.cons_append, List.getElem?_cons_zero, List.append_assoc] at this ⊢
    rw [this]
  rw [e1]
  rw [if_pos ⟨hw, hw2, by rw [List.length_cons, sel_len (by simp only [List.length_append, hw, hw2, hwd]; exact hi)]; exact hn⟩]
  exact make_fz hf ok2 s2 (sel_rp (((l.1.mono ok' f2).append l2.1).append (hd c)))
end
end Mc

namespace Mc
open PySem
/-! ### fields and methods -/
section
variable {a b c : Wd} {σ : MSt} {τ : TSt} {t : T} {w : W}
theorem RpF.inv {κ : Type} {ts : List (κ × T)} {ws : List (κ × W)} (q : RpF a ts ws) : (ts = [] ∧ ws = []) ∨ ∃ k t w ts' ws', ts = (k, t) :: ts' ∧ ws = (k, w) :: ws' ∧ Rp a t w ∧ RpF a ts' ws' := by
  cases ts with
  | nil =>
    cases ws with
    | nil => exact .inl ⟨rfl, rfl⟩
    | cons x l => have := q.1; simp at this
  | cons x l =>
    cases ws with
    | nil => have := q.1; simp at this
    | cons y m =>
      have h := q.1
      simp only [List.map_cons, List.cons.injEq] at h
      obtain ⟨k, t⟩ := x
      obtain ⟨k', w⟩ := y
      cases (show k = k' from h.1)
      exact .inr ⟨k, t, w, l, m, rfl, rfl, q.2 0 (k, t) (k, w) rfl rfl, h.2, fun i u v e e' => q.2 (i + 1) u v (by simpa using e) (by simpa using e')⟩
theorem RpF.cons {κ : Type} {k : κ} {ts : List (κ × T)} {ws : List (κ × W)} (p : Rp a t w) (q : RpF a ts ws) : RpF a ((k, t) :: ts) ((k, w) :: ws) := ⟨by simp [q.1], fun i u x e e' => by
  cases i with
  | zero => simp at e e'; subst e e'; exact p
  | succ n => simp at e e'; exact q.2 n u x e e'⟩
theorem RpF.nil {κ : Type} : RpF a ([] : List (κ × T)) [] := ⟨rfl, fun i t w e _ => by simp at e⟩
theorem RpF.look {ts : List (Str × T)} {ws : List (Str × W)} (q : RpF a ts ws) (f : Str) : (∀ v, ts.lookup f = some v → ∃ x, ws.lookup f = some x ∧ Rp a v x) ∧ (ts.lookup f = none → ws.lookup f = none) := by
  induction ts generalizing ws with
  | nil =>
    rcases q.inv with ⟨_, rfl⟩ | ⟨k, t, w, ts', ws', e, _⟩
    · exact ⟨fun v e => by simp at e, fun _ => rfl⟩
    · cases e
  | cons x l ih =>
    rcases q.inv with ⟨e, _⟩ | ⟨k, t, w, ts', ws', e, rfl, p, q'⟩
    · cases e
    · cases e
      have z := ih q'
      simp only [List.lookup_cons]
      cases h : f == k with
      | true => exact ⟨fun v e => by cases e; exact ⟨w, rfl, p⟩, fun e => by cases e⟩
      | false => exact z
end
def insT : T → Option (Str × List (Str × T))
  | .ins C fs => some (C, fs)
  | _ => none
def oFld (cs : List Str) (f : Str) (x : T) : Option T := match x with
  | .ins C fs => if cs.contains C then fs.lookup f else none
  | _ => none
def putT (f : Str) (v : T) : List (Str × T) → List (Str × T)
  | [] => [(f, v)]
  | (g, w) :: l => if g = f then (g, v) :: l else (g, w) :: putT f v l
def eFldO (cs : List Str) (f : Str) (k : Nat) : TEx := fun τ => opt ((owAt τ k).bind (oFld cs f)) τ
def zFldS (cs : List Str) (f : Str) (k : Nat) (m : TEx) : TSx := fun τ => (m τ).stm fun v τ1 => match owAt τ1 k with
  | some (.ins C fs) => if cs.contains C ∧ fs.length < 100 then some (.nx, τ1.set k (some (.ow (.ins C (putT f v fs))))) else none
  | _ => none
def eMethG (C m : Str) (f : Ft) (x : T) (xs : List T) (τ : TSt) : RT T := retT (f ((x :: xs).map .fz)) τ
def isC (C m : Str) : T → Bool
  | .ins C' fs => decide (C' = C) && (fs.lookup m).isNone
  | _ => false
def eMeth (C m : Str) (f : Ft) (to : TEx) (ta : TAx) : TEx := fun τ => (to τ).bind fun x τ0 => if isC C m x then (ta τ0).bind fun xs τ1 => retT (f ((x :: xs).map .fz)) τ1 else .no
def isC1 (C : Str) : T → Bool
  | .ins C' _ => decide (C' = C)
  | _ => false
def noX (r : RT T) (τ : TSt) : RT T := match r with
  | .ok v _ => .ok v τ
  | _ => .no
def eProp (C : Str) (f : Ft) (to : TEx) : TEx := fun τ => (to τ).bind fun x τ0 => if isC1 C x then noX (f [.fz x]) τ0 else .no
section
variable {P : List Nat} {a b c : Wd} {σ : MSt} {τ : TSt} {t : T} {w : W} {m mo : MEx} {e eo : TEx} {F : Fm} {f : Ft} {ma : MAx} {ta : TAx}
theorem ins_rp (p : Rp a t w) {C : Str} {fs : List (Str × T)} (e : t = .ins C fs) : ∃ dx ws, insAt a.h w = some (C, dx, ws) ∧ RpF a fs ws := by
  subst e
  cases p with
  | @ins r C dx ts ws f e l c => exact ⟨dx, ws, by simp only [insAt, e], l, c⟩
theorem tq_fld {cs : List Str} {f : Str} : Op1 (kFld cs f) (oFld cs f) := fun a x tx v ok p e => by
  unfold oFld at e
  split at e
  · next C fs =>
    split at e
    · next h =>
      obtain ⟨dx, ws, e1, q⟩ := ins_rp p rfl
      obtain ⟨y, e2, l⟩ := (q.look f).1 v e
      exact ⟨y, a, by simp only [kFld, e1, h, if_true, e2], ok, .rfl', l⟩
    · cases e
  · cases e
theorem se_fldO {cs : List Str} {f : Str} {k : Nat} : SimE (m1 (kFld cs f) (mV k)) (eFldO cs f k) := fun a σ τ ok s => .op ok s fun v e => by
  cases q : owAt τ k with
  | none => rw [q] at e; cases e
  | some x =>
    rw [q, Option.bind_some] at e
    obtain ⟨r, es, hr, ow⟩ := s.ow (owAt_some q)
    unfold oFld at e
    split at e
    · next C fs =>
      split at e
      · next h =>
        obtain ⟨dx, ws, e1, l⟩ := ow
        obtain ⟨y, e2, l2⟩ := (l.look f).1 v e
        exact ⟨y, a, by simp only [m1, mV_ref es, R.bind, kFld, insAt, e1, h, if_true, e2], ok, .rfl', l2⟩
      · cases e
    · cases e
theorem put_rpF {f : Str} {fs : List (Str × T)} {ws : List (Str × W)} (q : RpF a fs ws) (p : Rp a t w) : RpF a (putT f t fs) (putW f w ws) := by
  induction fs generalizing ws with
  | nil =>
    rcases q.inv with ⟨_, rfl⟩ | ⟨k, t, w, ts', ws', e, _⟩
    · exact .cons p .nil
    · cases e
  | cons x l ih =>
    rcases q.inv with ⟨e, _⟩ | ⟨k, t', w', ts', ws', e, rfl, p', q'⟩
    · cases e
    · cases e
      simp only [putT, putW]
      split
      · exact .cons p q'
      · exact .cons p' (ih q')
theorem ss_fldS {cs : List Str} {f : Str} {k : Nat} (h : SimE m e) : SimS P (sFldM cs f (mV k) m) (zFldS cs f k e) := fun a σ τ ok s => (h a σ τ ok s).stm fun b v w τ1 ok1 f1 s1 l => by
  cases q : owAt τ1 k with
  | none => trivial
  | some x =>
    cases x with
    | ins C fs =>
      obtain ⟨r, es, hr, dx, ws, e1, lf⟩ := s1.ow (owAt_some q)
      simp only [mV_ref es, R.stm, insAt, e1]
      by_cases hc : cs.contains C = true ∧ fs.length < 100
      · have hl : fs.length = ws.length := by have := congrArg List.length lf.1; simpa using this
        rw [if_pos hc, if_pos ⟨hc.1, by rw [← hl]; exact hc.2⟩]
        exact ⟨_, b.put r (.ins C dx (putW f w ws)), σ, rfl, ok1.put, .put hr, s1.chg ok1 (owAt_some q) es hr ⟨dx, _, put_get e1, put_rpF (lf.mono ok1 (.put hr)) (l.mono ok1 (.put hr))⟩, .rfl', rfl⟩
      · rw [if_neg hc]; trivial
    | _ => trivial
theorem se_meth {C nm : Str} {n np : Nat} {is : List Nat} (hf : SimF P F f) (ho : SimE mo eo) (h : SimA ma ta) (hl : LenA ta n) (hn : np = n + 1) (hi : is = List.range (n + 1)) : SimE (mMeth C nm F n 0 np [] is mo ma mNil) (eMeth C nm f eo ta) := fun a σ τ ok s => by
  subst hn hi
  refine (ho a σ τ ok s).bind fun b v w τ' ok' f' s' l => ?_
  cases hc : isC C nm v with
  | false => trivial
  | true =>
    unfold isC at hc
    split at hc
    · next C' fs =>
      simp only [Bool.and_eq_true, decide_eq_true_eq, Option.isNone_iff_eq_none] at hc
      obtain ⟨dx, ws, e1, q⟩ := ins_rp l rfl
      have e2 := (q.look nm).2 hc.2
      simp only [e1]
      rw [if_pos ⟨hc.1, e2⟩]
      refine (SimR.lenA hl (h b σ τ' ok' s')).bind fun c v2 w2 τ2 ok2 f2 s2 l2 => ?_
      have hw : w2.length = n := by rw [← l2.1.1]; exact l2.2
      have e3 : sel (List.range (n + 1)) (w :: w2) = w :: w2 := by
        rw [show n + 1 = (w :: w2).length by simp [hw]]; exact sel_range
      simp only [mNil, R.bind, List.append_nil, e3]
      rw [if_pos ⟨hw, rfl, by simp [hw]⟩]
      exact call_fz hf ok2 s2 (.cons (l.mono ok' f2) l2.1)
    · cases hc
theorem se_prop {C : Str} (hf : SimF P F f) (ho : SimE mo eo) : SimE (mProp C F mo) (eProp C f eo) := fun a σ τ ok s => by
  refine (ho a σ τ ok s).bind fun b v w τ' ok' f' s' l => ?_
  cases hc : isC1 C v with
  | false => trivial
  | true =>
    unfold isC1 at hc
    split at hc
    · next C' fs =>
      simp only [decide_eq_true_eq] at hc
      obtain ⟨dx, ws, e1, q⟩ := ins_rp l rfl
      simp only [e1, if_pos hc, if_true]
      have z := call_fz (ts := [.ins C' fs]) (ws := [w]) hf ok' s' (.cons l .nil)
      simp only [List.map_cons, List.map_nil] at z
      unfold retT at z
      unfold noX
      cases q : f [.fz (.ins C' fs)] with
      | no => trivial
      | ex x os => trivial
      | ok v os =>
        rw [q] at z
        obtain ⟨w', c, e, z⟩ := z
        simp only [e]
        exact ⟨w', c, rfl, z⟩
    · cases hc
end
/-! ### len, isinstance, tests -/
def lenI (r : RT T) (τ : TSt) : RT T := match r with
  | .ok (.int n) _ => if 0 ≤ n ∧ n < 1000000000 then .ok (.int n) τ else .no
  | .ex x _ => .ex x τ
  | _ => .no
def lenG (ls : List (Str × Ft)) (t : T) (τ : TSt) : RT T := match t with
  | .ins C fs => match ls.lookup C with
    | some f => lenI (f [.fz (.ins C fs)]) τ
    | none => .no
  | t => opt (oLen [t]) τ
def eLen (ls : List (Str × Ft)) (m : TEx) : TEx := fun τ => (m τ).bind fun t τ1 => lenG ls t τ1
def LsR (ls : List (Str × Fm)) (lt : List (Str × Ft)) : Prop := ∀ C f, lt.lookup C = some f → ∃ F P, ls.lookup C = some F ∧ SimF P F f
def tyT : T → Option Ty
  | .non => some (.b "NoneType")
  | .bl _ => some (.b "bool")
  | .int _ => some (.b "int")
  | .str _ => some (.b "str")
  | .lst _ => some (.b "list")
  | .tup _ => some (.b "tuple")
  | .dK _ => some (.b "dict")
  | .ins C _ => some (.c C)
  | _ => none
def oIsi (isa : Ty → Ty → Option Bool) (u : Ty) (x : T) : Option T := (tyT x).bind fun t => (isa t u).map .bl
def oTru : T → Option Bool
  | .non => some false
  | .bl b => some b
  | .int i => some (i != 0)
  | .str y => if y.length ≤ lim then some ((y.length : Int) != 0) else none
  | w => (sqA w).map fun xs => !xs.isEmpty
def bTr (m : TEx) : TTx := fun τ => (m τ).bind fun x τ1 => opt (oTru x) τ1
section
variable {P : List Nat} {a b c : Wd} {σ : MSt} {τ : TSt} {t : T} {w : W} {m mo : MEx} {e eo : TEx} {F : Fm} {f : Ft} {ma : MAx} {ta : TAx}
theorem ls_nil : LsR [] [] := fun C f e => by simp at e
theorem ls_cons {ls : List (Str × Fm)} {lt : List (Str × Ft)} {C : Str} (h : SimF P F f) (r : LsR ls lt) : LsR ((C, F) :: ls) ((C, f) :: lt) := fun D g e => by
  simp only [List.lookup_cons] at e ⊢
  cases q : D == C with
  | true => rw [q] at e; cases e; exact ⟨F, P, rfl, h⟩
  | false => rw [q] at e; exact r D g e
theorem insAt_none (p : Rp a t w) (h : ∀ C fs, t ≠ .ins C fs) : insAt a.h w = none := by
  cases p with
  | ins f e l c => exact absurd rfl (h _ _)
  | exn f e f2 e2 l c => simp only [insAt, e]
  | _ => first | rfl | (next f e l c => simp only [insAt, e])
theorem se_len {ls : List (Str × Fm)} {lt : List (Str × Ft)} (hl : LsR ls lt) (h : SimE m e) : SimE (mArg (kLenO ls) (mCons m mNil)) (eLen lt e) := fun a σ τ ok s => by
  have e0 : mArg (kLenO ls) (mCons m mNil) σ a.h = (m σ a.h).bind fun w h => kLenO ls [w] h := by
    unfold mArg mCons
    cases m σ a.h <;> rfl
  rw [e0]
  refine (h a σ τ ok s).bind fun b v w τ' ok' f' s' l => ?_
  by_cases hc : ∃ C fs, v = .ins C fs
  · obtain ⟨C, fs, rfl⟩ := hc
    obtain ⟨dx, ws, e1, q⟩ := ins_rp l rfl
    simp only [lenG, kLenO, e1]
    cases q : lt.lookup C with
    | none => trivial
    | some f =>
      obtain ⟨F, P, e2, hf⟩ := hl C f q
      simp only [e2]
      have z := call_fz (ts := [.ins C fs]) (ws := [w]) hf ok' s' (.cons l .nil)
      simp only [List.map_cons, List.map_nil] at z
      unfold retT at z
      unfold lenI
      cases q : f [.fz (.ins C fs)] with
      | no => trivial
      | ex x os =>
        rw [q] at z
        obtain ⟨w', c, e, z⟩ := z
        simp only [e, R.bind]
        exact ⟨w', c, rfl, z⟩
      | ok v os =>
        rw [q] at z
        obtain ⟨w', c, e, okc, fc, sc, lc⟩ := z
        cases lc with
        | @int i =>
          simp only [e, R.bind]
          split
          · exact ⟨_, c, rfl, okc, fc, sc, .int⟩
          · trivial
        | _ => trivial
  · have hn : ∀ C fs, v ≠ .ins C fs := fun C fs z => hc ⟨C, fs, z⟩
    have e1 : lenG lt v τ' = opt (oLen [v]) τ' := by
      unfold lenG
      split
      · exact absurd rfl (hn _ _)
      · rfl
    rw [e1]
    have e2 : kLenO ls [w] b.h = kLen [w] b.h := by simp only [kLenO, insAt_none l hn]
    rw [e2]
    exact .op ok' s' fun u q => ol_len b [w] [v] u ok' (.cons l .nil) q
theorem se_len0 (h : SimE m e) : SimE (mArg kLen (mCons m mNil)) (eArg oLen (aCons e aNil)) := se_arg ol_len (sa_cons h sa_nil)
theorem tyT_rp (p : Rp a t w) {u : Ty} (e : tyT t = some u) : tyOf a.h w = some u := by
  cases p <;> first | exact e | (next f eh l c => simp only [tyOf, eh]; exact e) | cases e
theorem tq_isi {isa : Ty → Ty → Option Bool} {u : Ty} : Op1 (kIsi isa u) (oIsi isa u) := fun a x tx v ok p e => by
  unfold oIsi at e
  cases q : tyT tx with
  | none => rw [q] at e; cases e
  | some t =>
    rw [q, Option.bind_some] at e
    cases q2 : isa t u with
    | none => rw [q2] at e; cases e
    | some b => rw [q2] at e; cases e; exact ⟨_, a, by simp only [kIsi, tyT_rp p q, q2], ok, .rfl', .bl⟩
theorem se_isi {isa : Ty → Ty → Option Bool} {u : Ty} (h : SimE m e) : SimE (mIsi isa u m) (e1 (oIsi isa u) e) := se_1 tq_isi h
theorem st_tr (h : SimE m e) : SimT (tTr m) (bTr e) := fun a σ τ ok s => (h a σ τ ok s).bind fun b v w τ' ok' f s' l => .op ok' s' fun k q => by
  have sq : ∀ ts, sqA v = some ts → (∀ z, w ≠ .str z) → (∀ z, w ≠ .int z) → (∀ z, w ≠ .bl z) → w ≠ .non → kTru w b.h = .ok (!ts.isEmpty) b.h := fun ts e n1 n2 n3 n4 => by
    obtain ⟨ws, e1, l1⟩ := sqA_rp l e
    have : ws.isEmpty = ts.isEmpty := by
      have := l1.1
      cases ws <;> cases ts <;> simp at this ⊢
    cases w <;> first | exact absurd rfl (n1 _) | exact absurd rfl (n2 _) | exact absurd rfl (n3 _) | exact absurd rfl n4 | (simp only [kTru, e1, this])
  cases l with
  | non => cases q; exact ⟨_, b, rfl, ok', .rfl', rfl⟩
  | bl => cases q; exact ⟨_, b, rfl, ok', .rfl', rfl⟩
  | int => cases q; exact ⟨_, b, rfl, ok', .rfl', rfl⟩
  | str =>
    simp only [oTru] at q
    split at q
    · next z => cases q; exact ⟨_, b, by simp only [kTru, if_pos z], ok', .rfl', rfl⟩
    · cases q
  | tup _ _ _ _ => cases q; exact ⟨_, b, sq _ rfl (by simp) (by simp) (by simp) (by simp), ok', .rfl', rfl⟩
  | lst _ _ _ _ => cases q; exact ⟨_, b, sq _ rfl (by simp) (by simp) (by simp) (by simp), ok', .rfl', rfl⟩
  | frl _ _ _ _ => cases q; exact ⟨_, b, sq _ rfl (by simp) (by simp) (by simp) (by simp), ok', .rfl', rfl⟩
  | ktp _ _ _ _ => cases q; exact ⟨_, b, sq _ rfl (by simp) (by simp) (by simp) (by simp), ok', .rfl', rfl⟩
  | _ => cases q
end
/-! ### tests that store -/
abbrev TTw := TSt → Option (Bool × TSt)
def SimTw (P : List Nat) (m : MTWx) (t : TTw) : Prop := ∀ a σ τ, a.Ok → SR a σ τ → match t τ with
  | some (k, τ') => ∃ σ' b, m σ a.h = .ok (k, σ') b.h ∧ b.Ok ∧ Fr a b ∧ SR b σ' τ' ∧ Pin P σ σ'
  | none => True
def okT {α : Type} (r : RT α) : Option (α × TSt) := match r with
  | .ok a τ => some (a, τ)
  | _ => none
def wOf (m : TTx) : TTw := fun τ => okT (m τ)
def wNt (m : TTw) : TTw := fun τ => (m τ).map fun p => (!p.1, p.2)
def wOr (a : TTx) (b : TTw) : TTw := fun τ => (okT (a τ)).bind fun p => if p.1 then some (true, p.2) else b p.2
def wCall (f : Ft) (i : Nat) (m : TEx) (ta : TAx) : TTw := fun τ => (okT (m τ)).bind fun p => (okT (ta (p.2.set i (some (.fz p.1))))).bind fun q => match f ((p.1 :: q.1).map .fz) with
  | .ok (.bl b) _ => some (b, q.2)
  | _ => none
def zIfW (c : TTw) (a b : TSx) : TSx := fun τ => (c τ).bind fun p => if p.1 then a p.2 else b p.2
section
variable {P Q : List Nat} {a b c : Wd} {σ : MSt} {τ : TSt} {t : T} {w : W} {m mo : MEx} {e eo : TEx} {F : Fm} {f : Ft} {ma : MAx} {ta : TAx} {mt : MTx} {tt : TTx} {mw : MTWx} {tw : TTw} {ms mz : MSx} {ts tz : TSx}
theorem sw_of (h : SimT mt tt) : SimTw P (twOf mt) (wOf tt) := fun a σ τ ok s => by
  have z := h a σ τ ok s
  unfold wOf twOf
  cases q : tt τ with
  | no => trivial
  | ex x τ' => trivial
  | ok k τ' =>
    rw [q] at z
    obtain ⟨w, b, e, okb, fb, sb, l⟩ := z
    cases (show k = w from l)
    exact ⟨σ, b, by rw [e] <;> rfl, okb, fb, sb, .rfl'⟩
theorem sw_not (h : SimTw P mw tw) : SimTw P (twNt mw) (wNt tw) := fun a σ τ ok s => by
  have z := h a σ τ ok s
  unfold wNt twNt
  cases q : tw τ with
  | none => trivial
  | some r =>
    obtain ⟨k, τ'⟩ := r
    rw [q] at z
    obtain ⟨σ', b, e, z⟩ := z
    exact ⟨σ', b, by rw [e] <;> rfl, z⟩
theorem sw_or (h : SimT mt tt) (h' : SimTw P mw tw) : SimTw P (twOr mt mw) (wOr tt tw) := fun a σ τ ok s => by
  have z := h a σ τ ok s
  unfold wOr twOr
  cases q : tt τ with
  | no => trivial
  | ex x τ' => trivial
  | ok k τ' =>
    rw [q] at z
    obtain ⟨w, b, e, okb, fb, sb, l⟩ := z
    cases (show k = w from l)
    rw [e]
    simp only [okT, Option.bind_some, nx, R.bind]
    cases k with
    | true => exact ⟨σ, b, rfl, okb, fb, sb, .rfl'⟩
    | false =>
      simp only [Bool.false_eq_true, if_false]
      have z2 := h' b σ τ' okb sb
      cases q2 : tw τ' with
      | none => trivial
      | some r =>
        rw [q2] at z2
        obtain ⟨k, τ2⟩ := r
        obtain ⟨σ', c, e, okc, fc, z⟩ := z2
        exact ⟨σ', c, e, okc, fb.trans fc, z⟩
theorem sw_call {n np i : Nat} {is : List Nat} (hf : SimF Q F f) (hP : i ∉ P) (h : SimE m e) (h' : SimA ma ta) (hl : LenA ta n) (hn : np = n + 1) (hi : is = List.range (n + 1)) : SimTw P (twCall F (n + 1) np [] is i m ma) (wCall f i e ta) := fun a σ τ ok s => by
  subst hn hi
  have z := h a σ τ ok s
  unfold wCall twCall
  cases q : e τ with
  | no => trivial
  | ex x τ' => trivial
  | ok v τ' =>
    rw [q] at z
    obtain ⟨w, b, e1, okb, fb, sb, l⟩ := z
    rw [e1]
    simp only [okT, Option.bind_some, nx, R.bind]
    have z2 := SimR.lenA hl (h' b _ _ okb (sb.put l i))
    cases q2 : ta (τ'.set i (some (.fz v))) with
    | no => trivial
    | ex x τ' => trivial
    | ok xs τ2 =>
      rw [q2] at z2
      obtain ⟨ws, c, e2, okc, fc, sc, l2, hx⟩ := z2
      rw [e2]
      simp only [Option.bind_some]
      have hw : ws.length = n := by rw [← l2.1]; exact hx
      have e3 : sel (List.range (n + 1)) (w :: ws) = w :: ws := by
        rw [show n + 1 = (w :: ws).length by simp [hw]]; exact sel_range
      simp only [List.append_nil, e3]
      rw [if_pos ⟨by simp [hw], by simp [hw]⟩]
      have z3 := call_fz (ts := v :: xs) (ws := w :: ws) hf okc sc (.cons (l.mono okb fc) l2)
      unfold retT at z3
      cases q3 : f ((v :: xs).map .fz) with
      | no => trivial
      | ex x os => trivial
      | ok u os =>
        rw [q3] at z3
        obtain ⟨wu, d, e4, okd, fd, sd, lu⟩ := z3
        cases lu with
        | @bl k => simp only [e4]; exact ⟨_, d, rfl, okd, (fb.trans fc).trans fd, sd, .set hP⟩
        | _ => trivial
theorem ss_ifW (h : SimTw P mw tw) (h1 : SimS P ms ts) (h2 : SimS P mz tz) : SimS P (sIfW mw ms mz) (zIfW tw ts tz) := fun a σ τ ok s => by
  have z := h a σ τ ok s
  unfold zIfW sIfW
  cases q : tw τ with
  | none => trivial
  | some r =>
    obtain ⟨k, τ'⟩ := r
    rw [q] at z
    obtain ⟨σ', b, e, okb, fb, sb, pb⟩ := z
    rw [e]
    simp only [Option.bind_some]
    cases k with
    | true => exact (h1 b σ' τ' okb sb).pre fb pb
    | false => exact (h2 b σ' τ' okb sb).pre fb pb
end
end Mc

namespace Mc
open PySem
/-! ### list(range), dicts -/
def oLrg (x y : T) : Option T := match x, y with
  | .int i, .int j => if inR i && inR j && decide ((j - i).toNat ≤ lim) then some (.lst (rgT i (j - i).toNat)) else none
  | _, _ => none
def oLrg1 (y : T) : Option T := oLrg (.int 0) y
def eDict0 : TEx := fun τ => .ok (.dK []) τ
def eDict1 (k : L2.Key) (t : T) : TEx := fun τ => .ok (.dK [(k, t)]) τ
section
variable {P : List Nat} {a b c : Wd} {σ : MSt} {τ : TSt} {t : T} {w : W} {m m' : MEx} {e e' : TEx}
theorem rg_rp {i : Int} {n : Nat} : RpL a (rgT i n) ((List.range n).map fun (k : Nat) => W.int (i + (k : Nat))) := by
  refine ⟨by simp [rgT], fun k t w e e' => ?_⟩
  obtain ⟨hl, rfl⟩ := rgT_get e
  rw [List.getElem?_map, List.getElem?_range hl] at e'
  cases e'; exact .int
theorem tq_lrg : Op2 kLrg oLrg := fun a x y tx ty v ok p q e => by
  unfold oLrg at e
  split at e
  · next i j =>
    split at e
    · next z =>
      cases e; cases p; cases q
      simp only [kLrg, z, if_true]
      exact new_lst ok rg_rp
    · cases e
  · cases e
theorem oo_lrg : Op2o kLrg oLrg := fun a x y tx ty v ok p q e => by
  unfold oLrg at e
  split at e
  · next i j =>
    split at e
    · next z =>
      cases e; cases p; cases q
      exact ⟨_, _, rfl, by simp only [kLrg, z, if_true]; rfl, rg_rp⟩
    · cases e
  · cases e
theorem se_lrg1 (h : SimE m e) : SimE (mLrg1 m) (e1 oLrg1 e) := se_1 (fun a x tx v ok p q => tq_lrg a (.int 0) x (.int 0) tx v ok .int p q) h
theorem se_lrg2 (h : SimE m e) (h' : SimE m' e') : SimE (mLrg2 m m') (e2 oLrg e e') := se_2 tq_lrg h h'
theorem so_lrg2 (h : SimE m e) (h' : SimE m' e') : SimO (mLrg2 m m') (e2 oLrg e e') := so_2 oo_lrg h h'
theorem new_dK {ts : List (L2.Key × T)} {ws : List (L2.Key × W)} (ok : a.Ok) (l : RpF a ts ws) : ∃ w b, al (.dK ws) a.h = .ok w b.h ∧ b.Ok ∧ Gr a b ∧ Rp b (.dK ts) w :=
  ⟨.ref a.h.length, a.newF (.dK ws), rfl, ok.newF, .newF, .dK newF_F newF_at l.1 (l.mono ok Gr.newF.fr).2⟩
theorem se_dict0 : SimE mDict0 eDict0 := fun a σ τ ok s => SimR.op (rel := Rp) (o := some (T.dK [])) ok s fun v e => by cases e; exact new_dK ok .nil
theorem se_dict1 {k : L2.Key} (h : ∀ a, Rp a t w) : SimE (mDict1 k w) (eDict1 k t) := fun a σ τ ok s => SimR.op (rel := Rp) (o := some (T.dK [(k, t)])) ok s fun v e => by cases e; exact new_dK ok (.cons (h a) .nil)
end
/-! ### new lists and values, stored at once -/
inductive VE where
  | v (t : TEx) | o (t : TEx)
def evV : List VE → TSt → RT (List SV)
  | [], τ => .ok [] τ
  | .v e :: l, τ => (e τ).bind fun x τ1 => (evV l τ1).bind fun xs τ2 => .ok (.fz x :: xs) τ2
  | .o e :: l, τ => (e τ).bind fun x τ1 => (evV l τ1).bind fun xs τ2 => .ok (.ow x :: xs) τ2
def putV : List Nat → List SV → TSt → TSt
  | i :: is, v :: l, τ => putV is l (τ.set i (some v))
  | _, _, τ => τ
def zParV (is : List Nat) (l : List VE) : TSx := fun τ => (evV l τ).stm fun xs τ1 => some (.nx, putV is xs τ1)
/-- the machine's arguments -/
inductive VM : MAx → List VE → Prop
  | nil : VM mNil []
  | v {m : MEx} {t : TEx} {ma : MAx} {l : List VE} (h : SimE m t) (r : VM ma l) : VM (mCons m ma) (.v t :: l)
  | o {m : MEx} {t : TEx} {ma : MAx} {l : List VE} (h : SimO m t) (r : VM ma l) : VM (mCons m ma) (.o t :: l)
def gsOf : List Nat → MGs
  | [] => gsNil
  | i :: is => gsCons (gN i) (gsOf is)
/-- new things that nobody owns yet -/
inductive VR (a : Wd) : List SV → List W → Prop
  | nil : VR a [] []
  | v {t : T} {w : W} {l : List SV} {ws : List W} (p : Rp a t w) (r : VR a l ws) : VR a (.fz t :: l) (w :: ws)
  | o {i : Nat} {t : T} {l : List SV} {ws : List W} (f : ¬a.F i) (o : ¬a.O i) (hl : i < a.h.length) (e : OwR a t i) (n : W.ref i ∉ ws) (r : VR a l ws) : VR a (.ow t :: l) (.ref i :: ws)
def Wd.addO (a : Wd) (i : Nat) : Wd := ⟨a.F, fun r => a.O r ∨ r = i, a.h⟩
def Wd.subO (a : Wd) (i : Nat) : Wd := ⟨a.F, fun r => a.O r ∧ r ≠ i, a.h⟩
section
variable {P : List Nat} {a b c : Wd} {σ : MSt} {τ : TSt} {t : T} {w : W} {m m' : MEx} {e e' : TEx} {ma : MAx} {l : List VE} {ws : List W} {xs : List SV}
theorem VR.mono (ok : a.Ok) (f : Fr a b) (q : VR a xs ws) : VR b xs ws := by
  induction q with
  | nil => exact .nil
  | v p _ ih => exact .v (p.mono ok f) ih
  | o hf ho hl e n _ ih =>
    exact .o (fun z => (f.fn _ z).elim hf fun y => y.elim ho fun x => absurd hl (Nat.not_lt.mpr x)) (fun z => (f.on _ z).elim ho fun x => absurd hl (Nat.not_lt.mpr x)) (Nat.lt_of_lt_of_le hl f.len) (e.keep ok f fun o' e' => f.keep _ _ e' ho) n ih
theorem rp_F {i : Nat} (p : Rp a t (.ref i)) : a.F i := by cases p <;> assumption
theorem vm_run (h : VM ma l) : ∀ (a : Wd) (σ : MSt) (τ : TSt), a.Ok → SR a σ τ → SimR a σ (fun b xs ws => VR b xs ws ∧ xs.length = l.length ∧ ∀ i, W.ref i ∈ ws → b.F i ∨ a.h.length ≤ i) (ma σ a.h) (evV l τ) := by
  induction h with
  | nil => intro a σ τ ok s; exact .now ok s ⟨.nil, rfl, fun i z => by simp at z⟩
  | v h r ih =>
    intro a σ τ ok s
    refine (h a σ τ ok s).bind fun b v w τ1 ok1 f1 s1 l1 => ?_
    have z := ih b σ τ1 ok1 s1
    refine SimR.bind z fun c xs ws τ2 ok2 f2 s2 l2 => ?_
    refine .now ok2 s2 ⟨.v (l1.mono ok1 f2) l2.1, by simp [l2.2.1], fun i z => ?_⟩
    rcases List.mem_cons.mp z with z | z
    · subst z; exact .inl (rp_F (l1.mono ok1 f2))
    · exact (l2.2.2 i z).imp id fun y => Nat.le_trans f1.len y
  | @o m t ma l h r ih =>
    intro a σ τ ok s
    have z := h a σ τ ok s
    simp only [mCons, evV]
    cases q : t τ with
    | no => trivial
    | ex x τ' => rw [q] at z; obtain ⟨e, b, e1, z⟩ := z; rw [e1]; exact ⟨e, b, rfl, z⟩
    | ok v τ' =>
      rw [q] at z
      obtain ⟨i, b, e1, okb, fb, sb, hi, ow, ln, fr⟩ := z
      rw [e1]
      simp only [R.bind, RT.bind]
      have okd : (b.subO i).Ok := ⟨fun r z => okb.dj r z.1, fun r z => okb.ol r z.1, okb.fl⟩
      have sd : SR (b.subO i) σ τ' := ⟨sb.len, fun k x y e e' => by
        have z := sb.at_ k x y e e'
        cases y with
        | none => trivial
        | some v => cases v with
          | fz t => obtain ⟨w, e, l⟩ := z; exact ⟨w, e, rp_same (a := b) (fun _ y => y) rfl l⟩
          | ow t =>
            obtain ⟨r, er, hr, l⟩ := z
            subst er
            exact ⟨r, rfl, ⟨hr, fun z => fr k t e' (z ▸ e)⟩, owr_same (a := b) (fun _ y => y) rfl l⟩, sb.inj⟩
      have fd : Fr a (b.subO i) := ⟨fb.fm, fb.fn, fun r z => fb.on r z.1, fb.len, fb.keep⟩
      refine SimR.pre fd ?_
      have hFi : ¬b.F i := okb.dj i hi
      have z := ih (b.subO i) σ τ' okd sd
      refine SimR.bind z fun c xs ws τ2 ok2 f2 s2 l2 => ?_
      have hF : ¬c.F i := fun z => by
        rcases f2.fn _ z with y | y | y
        · exact hFi y
        · exact y.2 rfl
        · exact absurd (okb.ol i hi) (Nat.not_lt.mpr y)
      have hO : ¬c.O i := fun z => by
        rcases f2.on _ z with y | y
        · exact y.2 rfl
        · exact absurd (okb.ol i hi) (Nat.not_lt.mpr y)
      have hn : W.ref i ∉ ws := fun z => (l2.2.2 i z).elim hF fun y => absurd (okb.ol i hi) (Nat.not_lt.mpr y)
      refine .now ok2 s2 ⟨.o hF hO (Nat.lt_of_lt_of_le (okb.ol i hi) f2.len) ((owr_same (a := b) (b := b.subO i) (fun _ y => y) rfl ow).keep okd f2 fun o' e' => f2.keep _ _ e' fun z => z.2 rfl) hn l2.1, by simp [l2.2.1], fun j z => ?_⟩
      rcases List.mem_cons.mp z with z | z
      · cases z; exact .inr ln
      · exact (l2.2.2 j z).imp id fun y => Nat.le_trans fb.len y
theorem Wd.Ok.addO {i : Nat} (ok : a.Ok) (hf : ¬a.F i) (hl : i < a.h.length) : (a.addO i).Ok := ⟨fun r z y => z.elim (fun x => ok.dj r x y) fun x => hf (x ▸ y), fun r z => z.elim (ok.ol r) fun x => x ▸ hl, ok.fl⟩
theorem SR.addO {i : Nat} (s : SR a σ τ) : SR (a.addO i) σ τ := ⟨s.len, fun k x y e e' => by
  have z := s.at_ k x y e e'
  cases y with
  | none => trivial
  | some v => cases v with
    | fz t => obtain ⟨w, e, l⟩ := z; exact ⟨w, e, rp_same (a := a) (fun _ y => y) rfl l⟩
    | ow t => obtain ⟨r, e, hi, l⟩ := z; exact ⟨r, e, .inl hi, owr_same (a := a) (fun _ y => y) rfl l⟩, s.inj⟩
theorem VR.addO {i : Nat} (q : VR a xs ws) (n : W.ref i ∉ ws) : VR (a.addO i) xs ws := by
  induction q with
  | nil => exact .nil
  | v p _ ih => exact .v (rp_same (a := a) (fun _ y => y) rfl p) (ih fun z => n (List.mem_cons_of_mem _ z))
  | o hf ho hl e n' _ ih => exact .o hf (fun z => z.elim ho fun y => n (y ▸ List.mem_cons_self)) hl (owr_same (a := a) (fun _ y => y) rfl e) n' (ih fun z => n (List.mem_cons_of_mem _ z))
theorem put_run {is : List Nat} (hi : ∀ i ∈ is, i ∉ P) (l0 : Nat) (hl : xs.length = is.length) : ∀ (a : Wd) (σ : MSt) (τ : TSt) (ws : List W), a.Ok → SR a σ τ → VR a xs ws → (∀ i, W.ref i ∈ ws → a.F i ∨ l0 ≤ i) →
    ∃ σ' b, gsOf is ws σ a.h = some (σ', b.h) ∧ b.Ok ∧ b.F = a.F ∧ b.h = a.h ∧ (∀ r, b.O r → a.O r ∨ l0 ≤ r) ∧ SR b σ' (putV is xs τ) ∧ Pin P σ σ' := by
  induction is generalizing xs with
  | nil =>
    intro a σ τ ws ok s v hn
    cases xs with
    | nil => cases v; exact ⟨σ, a, rfl, ok, rfl, rfl, fun r z => .inl z, s, .rfl'⟩
    | cons x xs => simp at hl
  | cons i is ih =>
    intro a σ τ ws ok s v hn
    cases xs with
    | nil => simp at hl
    | cons x xs =>
      cases v with
      | @v t w _ ws p r =>
        obtain ⟨σ', b, e, z1, z2, z3, z4, z5, z6⟩ := ih (fun j hj => hi j (List.mem_cons_of_mem _ hj)) (by simpa using hl) a (σ.set i (some w)) (τ.set i (some (.fz t))) ws ok (s.put p i) r fun j hj => hn j (List.mem_cons_of_mem _ hj)
        exact ⟨σ', b, e, z1, z2, z3, z4, z5, (Pin.set (hi i List.mem_cons_self)).trans z6⟩
      | @o j t _ ws hf ho hlt e n r =>
        have hj : l0 ≤ j := (hn j List.mem_cons_self).elim (fun z => absurd z hf) id
        have s1 := (s.addO (i := j)).own (r := j) (t := t) (.inr rfl) (owr_same (a := a) (fun _ y => y) rfl e) (fun k u ek es => by
          obtain ⟨r, es', hr, _⟩ := s.ow ek
          rw [es] at es'; cases es'; exact ho hr) i
        obtain ⟨σ', b, e, z1, z2, z3, z4, z5, z6⟩ := ih (fun j hj => hi j (List.mem_cons_of_mem _ hj)) (by simpa using hl) (a.addO j) (σ.set i (some (.ref j))) (τ.set i (some (.ow t))) ws (ok.addO hf hlt) s1 (r.addO n) fun j hj => hn j (List.mem_cons_of_mem _ hj)
        exact ⟨σ', b, e, z1, z2, z3, fun r z => (z4 r z).elim (fun y => y.elim .inl fun x => .inr (x ▸ hj)) .inr, z5, (Pin.set (hi i List.mem_cons_self)).trans z6⟩
theorem VR.len (q : VR a xs ws) : xs.length = ws.length := by
  induction q with
  | nil => rfl
  | v _ _ ih => simp [ih]
  | o _ _ _ _ _ _ ih => simp [ih]
theorem fr_put (F2 : Fr a b) {l0 : Nat} (h0 : l0 = a.h.length) (cF : c.F = b.F) (ch : c.h = b.h) (cO : ∀ r, c.O r → b.O r ∨ l0 ≤ r) : Fr a c := by
  subst h0
  exact ⟨fun r z => by rw [cF]; exact F2.fm r z, fun r z => by rw [cF] at z; exact F2.fn r z, fun r z => (cO r z).elim (F2.on r) .inr, by rw [ch]; exact F2.len, fun r o e n => by rw [ch]; exact F2.keep r o e n⟩
theorem ss_parV {n : Nat} {is : List Nat} {gs : MGs} (hg : gs = gsOf is) (hn : is.length = n) (hl : l.length = n) (hm : n ≤ 100) (hi : ∀ i ∈ is, i ∉ P) (h : VM ma l) : SimS P (sAsg (mArg kTup ma) (gTp n gs)) (zParV is l) := fun a σ τ ok s => by
  have e0 : sAsg (mArg kTup ma) (gTp n gs) σ a.h = (ma σ a.h).stm σ fun ws h1 => (kTup ws h1).stm σ fun w h2 => match gTp n gs w σ h2 with
    | some (σ', h') => some (.nx σ', h')
    | none => none := by
    unfold sAsg mArg
    cases ma σ a.h <;> rfl
  rw [e0]
  have z := vm_run h a σ τ ok s
  unfold zParV
  cases q : evV l τ with
  | no => trivial
  | ex x τ1 =>
    rw [q] at z
    obtain ⟨e, b, e1, okb, fb, sb, lb⟩ := z
    rw [e1]
    exact ⟨_, b, σ, rfl, okb, fb, sb, .rfl', rfl, lb⟩
  | ok xs τ1 =>
    rw [q] at z
    obtain ⟨ws, b, e1, okb, fb, sb, vb, lb, nb⟩ := z
    rw [e1]
    have wl : ws.length = n := by rw [← vb.len, lb, hl]
    have G : Gr b (b.newN (.tup ws)) := .newN
    have e2 : kTup ws b.h = .ok (.ref b.h.length) (b.newN (.tup ws)).h := by
      unfold kTup
      rw [if_pos (by rw [wl]; exact Nat.le_trans hm (by decide))]; rfl
    have vb2 : VR (b.newN (.tup ws)) xs ws := vb.mono okb G.fr
    obtain ⟨σ', c, e3, okc, cF, ch, cO, sc, pc⟩ := put_run (P := P) hi a.h.length (by rw [lb, hl, hn]) (b.newN (.tup ws)) σ τ1 ws okb.newN (sb.gr okb G) vb2 nb
    simp only [R.stm, e2]
    have e4 : gTp n gs (.ref b.h.length) σ (b.newN (.tup ws)).h = some (σ', c.h) := by
      have e5 : seqA (b.newN (.tup ws)).h (.ref b.h.length) = some ws := by simp only [seqA, seqL, seqT, newN_at]
      simp only [gTp, e5, if_pos wl, hg]; exact e3
    rw [e4]
    exact ⟨_, c, σ', rfl, okc, fr_put (fb.trans G.fr) rfl cF ch cO, sc, pc, rfl⟩
theorem gs_fold {is : List Nat} : ∀ (ws : List W) (σ : MSt) (h : Mh), ws.length = is.length → gsOf is ws σ h = some ((is.zip ws).foldl (fun τ p => τ.set p.1 (some p.2)) σ, h) := by
  induction is with
  | nil => intro ws σ h e; cases ws with
    | nil => rfl
    | cons x l => simp at e
  | cons i is ih => intro ws σ h e; cases ws with
    | nil => simp at e
    | cons x l => exact ih l _ h (by simpa using e)
theorem ss_parW {is : List Nat} (hl : l.length = is.length) (hi : ∀ i ∈ is, i ∉ P) (h : VM ma l) : SimS P (sPar is ma) (zParV is l) := fun a σ τ ok s => by
  have z := vm_run h a σ τ ok s
  unfold sPar zParV
  cases q : evV l τ with
  | no => trivial
  | ex x τ1 =>
    rw [q] at z
    obtain ⟨e, b, e1, okb, fb, sb, lb⟩ := z
    rw [e1]
    exact ⟨_, b, σ, rfl, okb, fb, sb, .rfl', rfl, lb⟩
  | ok xs τ1 =>
    rw [q] at z
    obtain ⟨ws, b, e1, okb, fb, sb, vb, lb, nb⟩ := z
    rw [e1]
    have wl : ws.length = is.length := by rw [← vb.len, lb, hl]
    obtain ⟨σ', c, e3, okc, cF, ch, cO, sc, pc⟩ := put_run (P := P) hi a.h.length (by rw [lb, hl]) b σ τ1 ws okb sb vb nb
    rw [gs_fold ws σ b.h wl] at e3
    have e4 := (Prod.mk.inj (Option.some.inj e3)).1
    simp only [R.stm]
    rw [if_pos wl]
    exact ⟨.nx σ', c, σ', by rw [e4, ch], okc, fr_put fb rfl cF ch cO, sc, pc, rfl⟩
end
/-! ### the law as a whole -/
theorem law_tree {F : Fm} {f : Ft} (hf : SimF [] F f) {ns : List Int} (h : ∃ τ, f [.fz (.frl (ns.map T.int))] = .ok (.bl true) τ) : ∃ h', F [.ref 0] [.frl (ns.map W.int)] = .ok (.bl true) h' := by
  let a : Wd := ⟨fun r => r = 0, fun _ => False, [.frl (ns.map W.int)]⟩
  have ok : a.Ok := ⟨fun _ z => z.elim, fun _ z => z.elim, fun r z => by cases (show r = 0 from z); exact Nat.zero_lt_one⟩
  have l : RpL a (ns.map T.int) (ns.map W.int) := ⟨by simp, fun i t w e e' => by
    rw [List.getElem?_map] at e e'
    cases q : ns[i]? with
    | none => rw [q] at e; cases e
    | some n => rw [q] at e e'; cases e; cases e'; exact .int⟩
  have p : Rp a (.frl (ns.map T.int)) (.ref 0) := .frl rfl rfl l.1 l.2
  have z := hf a [.ref 0] [.fz (.frl (ns.map T.int))] ok (ag_fz (ts := [_]) (.cons p .nil))
  obtain ⟨τ, e⟩ := h
  rw [e] at z
  obtain ⟨w, b, e1, _, _, lb, _⟩ := z
  cases lb
  exact ⟨b.h, e1⟩
end Mc

namespace Mc
open PySem
/-! ### bodies whose results are owned -/
def FlRo (b : Wd) (σ' : MSt) : TFl → Fl → Prop
  | .nx, .nx σ1 => σ1 = σ'
  | .rt v, .rt w => ∃ r, w = .ref r ∧ b.O r ∧ OwR b v r
  | .bk, .bk σ1 => σ1 = σ'
  | .ct, .ct σ1 => σ1 = σ'
  | .xc x, .xc e σ1 => σ1 = σ' ∧ ExR b x e
  | _, _ => False
def SimFlo (a : Wd) (σ : MSt) (r : MR) : TRS → Prop
  | none => True
  | some (f, τ) => ∃ g b σ', r = some (g, b.h) ∧ b.Ok ∧ Fr a b ∧ (∀ v, f ≠ .rt v → SR b σ' τ) ∧ FlRo b σ' f g
def SimSo (m : MSx) (t : TSx) : Prop := ∀ a σ τ, a.Ok → SR a σ τ → SimFlo a σ (m σ a.h) (t τ)
def zRetO (k : Nat) : TSx := fun τ => match owAt τ k with
  | some t => some (.rt t, τ)
  | none => none
def fnTo (n : Nat) (t : TSx) : Ft := fun vs => match t (startT n vs) with
  | some (.rt v, _) => .ok v []
  | some (.xc x, _) => .ex x []
  | _ => .no
section
variable {P : List Nat} {a b c : Wd} {σ : MSt} {τ : TSt} {F : Fm} {f : Ft} {m : MEx} {t : TEx} {ms mt : MSx} {ts tt : TSx} {g : TGx} {p : TTx} {mp : MTx} {mi : MIx} {ti : TIx} {mg : MGx} {ta : TAx}
theorem SimFlo.pre {r : MR} {q : TRS} {σ' : MSt} (f : Fr a b) (s : SimFlo b σ' r q) : SimFlo a σ r q := by
  cases q with
  | none => trivial
  | some x => obtain ⟨fl, τ⟩ := x; obtain ⟨g, c, σ2, e, ok, f2, s2, l⟩ := s; exact ⟨g, c, σ2, e, ok, f.trans f2, s2, l⟩
theorem xo_of (h : SimS P ms ts) (n : NoRt ts) : SimSo ms ts := fun a σ τ ok s => by
  have z := h a σ τ ok s
  cases q : ts τ with
  | none => trivial
  | some x =>
    obtain ⟨f, τ1⟩ := x
    rw [q] at z
    obtain ⟨g, b, σ1, e, ok1, f1, s1, p1, l1⟩ := z
    refine ⟨g, b, σ1, e, ok1, f1, fun _ _ => s1, ?_⟩
    cases f <;> cases g <;> first | exact l1 | skip
    exact absurd q (n _ _ _)
theorem xo_seq (h : SimSo ms ts) (h' : SimSo mt tt) : SimSo (sSeq ms mt) (zSeq ts tt) := fun a σ τ ok s => by
  have z := h a σ τ ok s
  unfold sSeq zSeq
  cases q : ts τ with
  | none => trivial
  | some x =>
    obtain ⟨f, τ1⟩ := x
    rw [q] at z
    obtain ⟨g, b, σ1, e, ok1, f1, s1, l1⟩ := z
    rw [e]
    cases f <;> cases g <;> first | exact l1.elim | skip
    · cases (show _ = σ1 from l1); exact (h' b _ τ1 ok1 (s1 .non (by simp))).pre f1
    · exact ⟨_, b, σ1, rfl, ok1, f1, s1, l1⟩
    · exact ⟨_, b, σ1, rfl, ok1, f1, s1, l1⟩
    · exact ⟨_, b, σ1, rfl, ok1, f1, s1, l1⟩
    · exact ⟨_, b, σ1, rfl, ok1, f1, s1, l1⟩
theorem SimR.stmo {α β : Type} {rel : Wd → α → β → Prop} {r : R β} {q : RT α} {k : β → Mh → MR} {kt : α → TSt → TRS} (s : SimR a σ rel r q) (n : ∀ b v w τ', b.Ok → Fr a b → SR b σ τ' → rel b v w → SimFlo b σ (k w b.h) (kt v τ')) : SimFlo a σ (r.stm σ k) (q.stm kt) := by
  cases q with
  | ok v τ =>
    obtain ⟨w, c, rfl, ok, g, z, l⟩ := s
    exact (n c v w τ ok g z l).pre g
  | ex x τ =>
    obtain ⟨w, c, rfl, ok, g, z, l⟩ := s
    exact ⟨_, c, σ, rfl, ok, g, fun _ _ => z, rfl, l⟩
  | no => trivial
theorem xo_if (h : SimT mp p) (h1 : SimSo ms ts) (h2 : SimSo mt tt) : SimSo (sIf mp ms mt) (zIf p ts tt) := fun a σ τ ok s => (h a σ τ ok s).stmo fun b v w τ' ok' f s' l => by
  cases (show v = w from l)
  cases v
  · exact h2 b σ τ' ok' s'
  · exact h1 b σ τ' ok' s'
theorem xo_ret (h : SimO m t) : SimSo (sRet m) (zRet t) := fun a σ τ ok s => by
  have z := h a σ τ ok s
  unfold sRet zRet
  cases q : t τ with
  | no => trivial
  | ex x τ' =>
    rw [q] at z
    obtain ⟨e, b, e1, ok1, f1, s1, l1⟩ := z
    rw [e1]
    exact ⟨_, b, σ, rfl, ok1, f1, fun _ _ => s1, rfl, l1⟩
  | ok v τ' =>
    rw [q] at z
    obtain ⟨r, b, e1, ok1, f1, s1, hr, ow, _, fr⟩ := z
    rw [e1]
    exact ⟨_, b, σ, rfl, ok1, f1, fun _ _ => s1, r, rfl, hr, ow⟩
theorem xo_retV {k : Nat} : SimSo (sRet (mV k)) (zRetO k) := fun a σ τ ok s => by
  unfold zRetO
  cases q : owAt τ k with
  | none => trivial
  | some t =>
    obtain ⟨r, es, hr, ow⟩ := s.ow (owAt_some q)
    exact ⟨.rt (.ref r), a, σ, by simp only [sRet, mV_ref es, R.stm], ok, .rfl', fun _ _ => s, r, rfl, hr, ow⟩
theorem xo_fz {k : Nat} (h : SimSo ms ts) : SimSo ms (zFz k ts) := fun a σ τ ok s => by
  obtain ⟨b, ok', f, e, s'⟩ := frz_sr ok s k
  have z := (h b σ _ ok' s').pre (σ := σ) f
  rw [e] at z
  exact z
theorem xo_no : SimSo ms zNo := fun a σ τ ok s => trivial
theorem fo_body {n : Nat} (h : SimSo ms ts) : SimFo (fnRun n ms) (fnTo n ts) := fun a ws vs ok hO s => by
  have z := h a _ _ ok (start_sr (n := n) s)
  unfold fnRun fnTo
  cases q : ts (startT n vs) with
  | none => trivial
  | some r =>
    obtain ⟨fl, τ⟩ := r
    rw [q] at z
    obtain ⟨gl, b, σ', e, ok', f, s', l⟩ := z
    rw [e]
    cases fl <;> cases gl <;> first | exact l.elim | trivial | skip
    · obtain ⟨r, rfl, hr, ow⟩ := l
      exact ⟨r, b, rfl, ok', f, hr, ow, (f.on r hr).elim (fun z => absurd z (hO r)) id⟩
    · exact ⟨_, b, rfl, ok', f, l.2⟩
/-- frozen at once -/
theorem fo_sim {n : Nat} (h : SimSo ms ts) : SimF [] (fnRun n ms) (fnTo n ts) := fun a ws vs ok s => by
  have z := h a _ _ ok (start_sr (n := n) s)
  unfold fnRun fnTo
  cases q : ts (startT n vs) with
  | none => trivial
  | some r =>
    obtain ⟨fl, τ⟩ := r
    rw [q] at z
    obtain ⟨gl, b, σ', e, ok', f, s', l⟩ := z
    rw [e]
    have out : ∀ c : Wd, OutR [] c ws [] := fun c => ⟨rfl, fun j k y w e _ _ => by simp at e⟩
    cases fl <;> cases gl <;> first | exact l.elim | trivial | skip
    · obtain ⟨r, rfl, hr, ow⟩ := l
      have F : Fr b (b.frz r) := .frz (.inl hr)
      exact ⟨.ref r, b.frz r, rfl, ok'.frz (ok'.ol r hr), f.trans F, (ow.keep ok' F fun _ z => z).rp (.inr rfl), out _⟩
    · exact ⟨_, b, rfl, ok', f, l.2, out _⟩
/-! no result -/
theorem nr_nil : NoRt zNil := fun τ v τ' e => by cases e
theorem nr_break : NoRt zBreak := fun τ v τ' e => by cases e
theorem nr_cont : NoRt zCont := fun τ v τ' e => by cases e
theorem nr_no : NoRt zNo := fun τ v τ' e => by cases e
theorem nr_stm {α : Type} {q : TSt → RT α} {k : α → TSt → TRS} (h : ∀ x τ v τ', k x τ ≠ some (.rt v, τ')) : NoRt (fun τ => (q τ).stm k) := fun τ v τ' e => by
  have e : (q τ).stm k = some (.rt v, τ') := e
  cases q1 : q τ with
  | no => rw [q1] at e; cases e
  | ex x τ1 => rw [q1] at e; cases e
  | ok x τ1 => rw [q1] at e; exact h _ _ _ _ e
theorem nr_seq (h : NoRt ts) (h' : NoRt tt) : NoRt (zSeq ts tt) := fun τ v τ' e => by
  unfold zSeq at e
  cases q : ts τ with
  | none => rw [q] at e; cases e
  | some x =>
    obtain ⟨f, τ1⟩ := x
    rw [q] at e
    cases f with
    | nx => exact h' _ _ _ e
    | rt v => exact h _ _ _ q
    | _ => cases e
theorem nr_drop : NoRt (zDrop t) := nr_stm fun x τ v τ' e => by cases e
theorem nr_asg : NoRt (zAsg t g) := noRt_asg
theorem nr_asg2 {g' : TGx} : NoRt (zAsg2 t g g') := nr_stm fun x τ v τ' e => by
  unfold oNx at e
  split at e <;> cases e
theorem nr_asgO {i : Nat} : NoRt (zAsgO t i) := nr_stm fun x τ v τ' e => by cases e
theorem nr_par {is : List Nat} : NoRt (zPar is ta) := nr_stm fun x τ v τ' e => by
  split at e <;> cases e
theorem nr_parV {is : List Nat} {l : List VE} : NoRt (zParV is l) := nr_stm fun x τ v τ' e => by cases e
theorem nr_aug {i : Nat} {k : T → T → Option T} : NoRt (zAug i k t) := fun τ v τ' e => by
  unfold zAug at e
  split at e
  · cases q : t τ with
    | no => rw [q] at e; cases e
    | ex x τ1 => rw [q] at e; cases e
    | ok x τ1 =>
      rw [q] at e
      simp only [RT.stm] at e
      split at e <;> cases e
  · cases e
theorem nr_augS {i : Nat} {k : T → T → Option T} {t' : TEx} : NoRt (zAugS i k t' t) := fun τ v τ' e => by
  unfold zAugS hasS at e
  split at e
  · cases q : t' τ with
    | no => rw [q] at e; cases e
    | ex x τ1 => rw [q] at e; cases e
    | ok x τ1 =>
      rw [q] at e
      simp only [RT.stm] at e
      split at e
      · split at e
        · split at e
          · split at e
            · split at e
              · split at e <;> cases e
              · cases e
            · cases e
            · cases e
          · cases e
        · cases e
      · cases e
  · cases e
theorem nr_if (h : NoRt ts) (h' : NoRt tt) : NoRt (zIf p ts tt) := nr_stm fun x τ v τ' e => by
  cases x
  · exact h' _ _ _ e
  · exact h _ _ _ e
theorem nr_fz {k : Nat} (h : NoRt ts) : NoRt (zFz k ts) := fun τ v τ' e => h _ _ _ e
theorem nr_for (h : NoRt ts) : NoRt (zFor ti g ts) := nr_stm fun xs τ v τ' e => by
  induction xs generalizing τ with
  | nil => cases e
  | cons x xs ih =>
    simp only [loopT] at e
    split at e
    · cases e
    · next τ1 _ =>
      cases q : ts τ1 with
      | none => rw [q] at e; cases e
      | some y =>
        obtain ⟨f, τ2⟩ := y
        rw [q] at e
        cases f with
        | nx => exact ih _ e
        | ct => exact ih _ e
        | rt v => exact h _ _ _ q
        | _ => cases e
theorem nr_while (h : NoRt ts) : NoRt (zWhile p ts) := by
  have : ∀ n, NoRt (whileT p ts n) := by
    intro n
    induction n with
    | zero => intro τ v τ' e; cases e
    | succ n ih =>
      refine nr_stm fun x τ v τ' e => ?_
      cases x with
      | false => cases e
      | true =>
        simp only [if_true] at e
        cases q : ts τ with
        | none => rw [q] at e; cases e
        | some y =>
          obtain ⟨f, τ2⟩ := y
          rw [q] at e
          cases f with
          | nx => exact ih _ _ _ e
          | ct => exact ih _ _ _ e
          | rt v => exact h _ _ _ q
          | _ => cases e
  exact this lim
end
end Mc

namespace Mc
open PySem
def oSumA (ws : List T) : Option T := match ws with
  | [w] => ((sqA w).bind intsT).map fun ns => .int ns.sum
  | _ => none
theorem ol_sumA : OpL kSumA oSumA := oneW (fun ts v e => by unfold oSumA at e; split at e <;> first | exact ⟨_, rfl⟩ | cases e) fun a x t v ok p e => by
  simp only [oSumA] at e
  cases q : sqA t with
  | none => rw [q] at e; cases e
  | some ts =>
    rw [q, Option.bind_some] at e
    obtain ⟨ws, e1, l⟩ := sqA_rp p q
    cases q2 : intsT ts with
    | none => rw [q2] at e; cases e
    | some ns => rw [q2] at e; cases e; exact ⟨_, a, by simp only [kSumA, e1, Option.bind_some, ints_rp l q2], ok, .rfl', .int⟩
end Mc

namespace Mc
open PySem
/-! ### comprehensions of two loops -/
def collT2 (g : TGx) (t : TTx) (ti1 : TIx) (g1 : TGx) (t1 : TTx) (e : TEx) (vs vs1 : List Nat) : List T → List T → TSt → RT (List T)
  | [], acc, τ => .ok acc τ
  | x :: xs, acc, τ => match g x τ with
    | none => .no
    | some τ1 => match t τ1 with
      | .ok k τ2 => if k then (match ti1 τ2 with
        | .ok ys τ3 => (match collT g1 t1 e vs1 ys acc (wipT τ3 vs1) with
          | .ok acc' τ4 => collT2 g t ti1 g1 t1 e vs vs1 xs acc' (wipT τ4 vs)
          | _ => .no)
        | _ => .no) else collT2 g t ti1 g1 t1 e vs vs1 xs acc (wipT τ2 vs)
      | _ => .no
def eLc2 (ti : TIx) (g : TGx) (t : TTx) (ti1 : TIx) (g1 : TGx) (t1 : TTx) (e : TEx) (vs vs1 : List Nat) : TEx := fun τ => (ti τ).bind fun xs τ1 => (collT2 g t ti1 g1 t1 e vs vs1 xs [] (wipT τ1 vs)).bind fun acc τ2 => .ok (.lst acc) (bakT τ1 τ2 vs)
section
variable {a b : Wd} {σ σ' : MSt} {τ τ0 : TSt} {mi mi1 : MIx} {ti ti1 : TIx} {g g1 : MGx} {y y1 : TGx} {m : MEx} {e : TEx} {c c1 : MTx} {u u1 : TTx} {vs vs1 : List Nat}
theorem wip_sub (h : ∀ i ∈ vs1, i ∈ vs) : wip (wip σ vs1) vs = wip σ vs := by
  have hl : (wip σ vs1).length = σ.length := by
    clear h
    induction vs1 with
    | nil => rfl
    | cons v vs ih => simp only [wip, List.length_set, ih]
  apply List.ext_getElem?
  intro j
  rw [wip_get2, wip_get2, wip_get2, hl]
  by_cases z : j ∈ vs ∧ j < σ.length
  · rw [if_pos z, if_pos z]
  · rw [if_neg z, if_neg z]
    by_cases z1 : j ∈ vs1 ∧ j < σ.length
    · exact absurd ⟨h j z1.1, z1.2⟩ z
    · rw [if_neg z1]
theorem coll2_rp {J : ItM} {xs : List T} {d : Nat} {a1 : Wd} (it : ItT a1 xs J) (hd : a.h.length ≤ d) (hv : ∀ i ∈ vs1, i ∈ vs) (hg : SimG [] g y) (ho : OnlyG vs g) (ht : SimT c u) (hi1 : SimI mi1 ti1) (hg1 : SimG [] g1 y1) (ho1 : OnlyG vs1 g1) (ht1 : SimT c1 u1) (he : SimE m e) :
    ∀ (n i : Nat) (b : Wd) (acc : List T) (wacc : List W) (τ : TSt),
    i + n = J.n → b.Ok → Fr a b → Kf a1 b → SR b (Mc.wip σ vs) τ → ¬b.F d ∧ ¬b.O d → b.h[d]? = some (.lst wacc) → RpL b acc wacc →
    match collT2 y u ti1 y1 u1 e vs vs1 (xs.drop i) acc τ with
    | .ok acc' τ' => ∃ b' wacc', collM2 J g c mi1 g1 c1 m (Mc.wip σ vs) vs vs1 d n i b.h = some b'.h ∧ b'.Ok ∧ Fr a b' ∧ SR b' (Mc.wip σ vs) τ' ∧ (¬b'.F d ∧ ¬b'.O d) ∧ b'.h[d]? = some (.lst wacc') ∧ RpL b' acc' wacc'
    | .ex _ _ => False
    | .no => True := by
  intro n
  induction n with
  | zero =>
    intro i b acc wacc τ hi okb f kf s nd ed la
    have : xs.drop i = [] := List.drop_eq_nil_of_le (by rw [← it.n]; omega)
    rw [this]
    simp only [collT2]
    exact ⟨b, wacc, by simp only [collM2, it.fin b okb kf, if_true], okb, f, s, nd, ed, la⟩
  | succ n ih =>
    intro i b acc wacc τ hi okb f kf s nd ed la
    have hlt : i < xs.length := by rw [← it.n]; omega
    rw [List.drop_eq_getElem_cons hlt]
    obtain ⟨w, b1, e1, ok1, g1', l⟩ := it.go b okb kf i xs[i] (List.getElem?_eq_getElem hlt)
    have db : d < b.h.length := (List.getElem?_eq_some_iff.mp ed).1
    simp only [collM2, collT2, e1]
    have z := hg b1 _ τ w xs[i] ok1 (s.gr okb g1') l
    cases q : y xs[i] τ with
    | none => trivial
    | some τ1 =>
      rw [q] at z
      obtain ⟨σ1, b2, e2, ok2, f2, s2, p2⟩ := z
      simp only [e2]
      have hw : Mc.wip σ1 vs = Mc.wip (Mc.wip σ vs) vs := ho _ _ _ _ _ e2
      rw [if_pos hw]
      rw [wip_wip] at hw
      have z3 := ht b2 σ1 τ1 ok2 s2
      have fb2 := g1'.fr.trans f2
      cases q3 : u τ1 with
      | no => trivial
      | ex x τ' => trivial
      | ok k τ2 =>
        rw [q3] at z3
        obtain ⟨k', b3, e3, ok3, f3, s3, hk⟩ := z3
        cases (show k = k' from hk)
        simp only [e3, rok]
        have fb3 := fb2.trans f3
        cases k with
        | false =>
          simp only [Bool.false_eq_true, if_false]
          have s3' := s3.wip (vs := vs)
          rw [hw] at s3'
          exact ih (i + 1) b3 acc wacc _ (by omega) ok3 (f.trans fb3) (kf.trans (fb3.kf okb)) s3' (f.free hd db nd fb3) (fb3.keep d _ ed nd.2) (la.mono okb fb3)
        | true =>
          simp only [if_true]
          have z4 := hi1 b3 σ1 τ2 ok3 s3
          cases q4 : ti1 τ2 with
          | no => trivial
          | ex x τ' => trivial
          | ok ys τ3 =>
            rw [q4] at z4
            obtain ⟨J1, b4, e4, ok4, f4, s4, it1⟩ := z4
            simp only [e4]
            have fb4 := fb3.trans f4
            have nd4 := f.free hd db nd fb4
            have ed4 := fb4.keep d _ ed nd.2
            have z5 := coll_rp (σ := σ1) (a := a) (d := d) it1 hd hg1 ho1 ht1 he J1.n 0 b4 acc wacc (wipT τ3 vs1) (Nat.zero_add _) ok4 (f.trans fb4) (Fr.rfl'.kf ok4) (s4.wip) nd4 ed4 (la.mono okb fb4)
            rw [List.drop_zero] at z5
            cases q5 : collT y1 u1 e vs1 ys acc (wipT τ3 vs1) with
            | no => trivial
            | ex x τ' => rw [q5] at z5; exact z5.elim
            | ok acc' τ4 =>
              rw [q5] at z5
              obtain ⟨b5, wacc', e5, ok5, f5, kf5, s5, nd5, ed5, la5⟩ := z5
              simp only [e5]
              have s5' := s5.wip (vs := vs)
              rw [wip_sub hv, hw] at s5'
              exact ih (i + 1) b5 acc' wacc' _ (by omega) ok5 f5 ((kf.trans (fb4.kf okb)).trans kf5) s5' nd5 ed5 la5
theorem so_lc2 (hi : SimI mi ti) (hv : ∀ i ∈ vs1, i ∈ vs) (hg : SimG [] g y) (ho : OnlyG vs g) (ht : SimT c u) (hi1 : SimI mi1 ti1) (hg1 : SimG [] g1 y1) (ho1 : OnlyG vs1 g1) (ht1 : SimT c1 u1) (he : SimE m e) : SimO (mLc2 mi g c mi1 g1 c1 m vs vs1) (eLc2 ti y u ti1 y1 u1 e vs vs1) := fun a σ τ ok s => (hi a σ τ ok s).bindO fun b xs J τ1 ok1 f1 s1 it => by
  have F : Gr b (b.newN (.lst [])) := .newN
  have nd : ¬(b.newN (.lst [])).F b.h.length ∧ ¬(b.newN (.lst [])).O b.h.length := ⟨fun z => Nat.lt_irrefl _ (ok1.fl _ z), fun z => Nat.lt_irrefl _ (ok1.ol _ z)⟩
  have z := coll2_rp (σ := σ) (a := b) (d := b.h.length) it (Nat.le_refl _) hv hg ho ht hi1 hg1 ho1 ht1 he J.n 0 (b.newN (.lst [])) [] [] (wipT τ1 vs) (Nat.zero_add _) ok1.newN F.fr (F.fr.kf ok1) ((s1.gr ok1 F).wip) nd newN_at .nil
  rw [List.drop_zero] at z
  cases q : collT2 y u ti1 y1 u1 e vs vs1 xs [] (wipT τ1 vs) with
  | no => trivial
  | ex x τ' => rw [q] at z; exact z.elim
  | ok acc τ' =>
    rw [q] at z
    obtain ⟨b', wacc, e1, ok', f', s', nd', ed', la'⟩ := z
    have e1 : collM2 J g c mi1 g1 c1 m (Mc.wip σ vs) vs vs1 b.h.length J.n 0 (b.h ++ [.lst []]) = some b'.h := e1
    simp only [e1, RT.bind]
    have sb := SR.bak ok1 f' s1 s'
    have dl : b.h.length < b'.h.length := (List.getElem?_eq_some_iff.mp ed').1
    have F2 : Fr b (b'.addO b.h.length) := ⟨f'.fm, f'.fn, fun r z => z.elim (f'.on r) fun y => .inr (Nat.le_of_eq y.symm), f'.len, f'.keep⟩
    refine ⟨b.h.length, b'.addO b.h.length, rfl, ok'.addO nd'.1 dl, F2, sb.addO, .inr rfl, ⟨wacc, ed', rpL_same (a := b') (fun _ y => y) rfl la'⟩, Nat.le_refl _, fun k t e e' => ?_⟩
    obtain ⟨r, es, hr, _⟩ := sb.ow e
    rw [e'] at es
    cases es
    exact nd'.2 hr
end
end Mc

/-! trees: raise, try, caught exceptions; list.count -/
namespace Mc
open PySem
def zRaise (C : Str) (fs : List Str) (ta : TAx) : TSx := fun τ => (ta τ).stm fun vs τ1 => if vs.length = fs.length then some (.xc ⟨C, (fs.zip vs).reverse⟩, τ1) else none
def zEnd (i : Nat) : TRS → TRS
  | some (.nx, τ) => some (.nx, τ.set i none)
  | some (.bk, τ) => some (.bk, τ.set i none)
  | some (.ct, τ) => some (.ct, τ.set i none)
  | some (.rt v, τ) => some (.rt v, τ.set i none)
  | _ => none
def zTryAs (oks : List Str) (i : Nat) (zb zs : TSx) : TSx := fun τ => match zb τ with
  | some (.xc x, τ1) => if x.cls ∈ oks then zEnd i (zs (τ1.set i (some (.fz (.exn x.cls x.fs))))) else none
  | r => r
section
variable {P : List Nat} {a b c : Wd} {σ : MSt} {τ : TSt} {m : MEx} {t : TEx} {ms mt mb : MSx} {zs zt zb : TSx} {ma : MAx} {ta : TAx}
theorem RpF.append {κ : Type} {ts us : List (κ × T)} {ws xs : List (κ × W)} (p : RpF a ts ws) (q : RpF a us xs) : RpF a (ts ++ us) (ws ++ xs) := by
  induction ts generalizing ws with
  | nil =>
    rcases p.inv with ⟨_, rfl⟩ | ⟨k, t, w, ts', ws', e, _⟩
    · exact q
    · cases e
  | cons t ts ih =>
    rcases p.inv with ⟨e, _⟩ | ⟨k, t', w, ts', ws', e, rfl, hw, hl⟩
    · cases e
    · cases e; exact .cons hw (ih hl)
theorem RpF.zip_rev {vs : List T} {ws : List W} (q : RpL a vs ws) : ∀ fs : List Str, RpF a (fs.zip vs).reverse (fs.zip ws).reverse := by
  induction vs generalizing ws with
  | nil => intro fs; rw [q.inv_nil]; cases fs <;> exact .nil
  | cons v vs ih =>
    intro fs
    obtain ⟨w, l, rfl, hw, hl⟩ := q.inv_cons
    cases fs with
    | nil => exact .nil
    | cons f fs =>
      simp only [List.zip_cons_cons, List.reverse_cons]
      exact (ih hl fs).append (.cons hw .nil)
theorem ss_raise {C : Str} {fs : List Str} (h : SimA ma ta) : SimS P (sRaise C fs ma) (zRaise C fs ta) := fun a σ τ ok s => (h a σ τ ok s).stm fun b v w τ' ok' f s' l => by
  have hl : v.length = w.length := l.1
  by_cases z : v.length = fs.length
  · rw [if_pos z, if_pos (hl ▸ z)]
    exact ⟨_, b.newF (.xd (fs.zip w).reverse), σ, rfl, ok'.newF, Gr.newF.fr, s'.gr ok' .newF, .rfl', rfl, rfl, b.h.length, _, rfl, newF_F, newF_at, (RpF.zip_rev l fs).mono ok' Gr.newF.fr⟩
  · rw [if_neg z]; trivial
theorem SR.setN {i : Nat} (q : SR a σ τ) : SR a (σ.set i none) (τ.set i none) := q.drop i none
theorem ss_try {oks : List Str} {i : Nat} (hi : i ∉ P) (h : SimS P mb zb) (h' : SimS P ms zs) : SimS P (sTryAs oks i mb ms) (zTryAs oks i zb zs) := fun a σ τ ok s => by
  have z := h a σ τ ok s
  unfold sTryAs zTryAs
  cases q : zb τ with
  | none => trivial
  | some x =>
    obtain ⟨f, τ1⟩ := x
    rw [q] at z
    obtain ⟨g, b, σ1, e, ok1, f1, s1, p1, l1⟩ := z
    rw [e]
    cases f <;> cases g <;> first | exact l1.elim | skip
    · exact ⟨_, b, σ1, rfl, ok1, f1, s1, p1, l1⟩
    · exact ⟨_, b, σ1, rfl, ok1, f1, s1, p1, l1⟩
    · exact ⟨_, b, σ1, rfl, ok1, f1, s1, p1, l1⟩
    · exact ⟨_, b, σ1, rfl, ok1, f1, s1, p1, l1⟩
    · rename_i x y σy
      obtain ⟨e1, hc, d, ws, ed, hf, eh, lw⟩ := l1
      subst e1
      simp only
      by_cases hx : x.cls ∈ oks
      · have hd : d < b.h.length := ok1.fl d hf
        rw [if_pos hx, if_pos ⟨hc ▸ hx, by rw [ed]; simp only [dOk, hd, decide_true]⟩, hc, ed]
        have okc : (b.newF (.exc x.cls (some d))).Ok := ok1.newF
        have fc : Fr b (b.newF (.exc x.cls (some d))) := Gr.newF.fr
        have lw' := lw.mono ok1 fc
        have rp : Rp (b.newF (.exc x.cls (some d))) (.exn x.cls x.fs) (.ref b.h.length) := .exn newF_F newF_at (fc.fm d hf) (pre_get ⟨_, rfl⟩ eh) lw'.1 lw'.2
        have sc := (s1.gr ok1 (Gr.newF (o := .exc x.cls (some d)))).put rp i
        have z2 := h' _ _ _ okc sc
        have pp : Pin P σ (σy.set i (some (.ref b.h.length))) := p1.trans (Pin.set hi)
        show SimFl P a σ (tryEnd i (ms _ (b.newF (.exc x.cls (some d))).h)) _
        cases q2 : zs (τ1.set i (some (.fz (.exn x.cls x.fs)))) with
        | none => trivial
        | some r =>
          obtain ⟨f2, τ2⟩ := r
          rw [q2] at z2
          obtain ⟨g2, b2, σ2, e2, ok2, fr2, s2, p2, l2⟩ := z2
          rw [e2]
          have P2 : Pin P σ (σ2.set i none) := (pp.trans p2).trans (Pin.set hi)
          have F2 : Fr a b2 := (f1.trans fc).trans fr2
          cases f2 <;> cases g2 <;> first | exact l2.elim | skip
          · cases (show _ = σ2 from l2); exact ⟨_, b2, _, rfl, ok2, F2, s2.setN, P2, rfl⟩
          · exact ⟨_, b2, σ2.set i none, rfl, ok2, F2, s2.setN, P2, l2⟩
          · cases (show _ = σ2 from l2); exact ⟨_, b2, _, rfl, ok2, F2, s2.setN, P2, rfl⟩
          · cases (show _ = σ2 from l2); exact ⟨_, b2, _, rfl, ok2, F2, s2.setN, P2, rfl⟩
          · trivial
      · rw [if_neg hx]; trivial
/-! ### e.f, isinstance(e, C) -/
end
def oXf (cs : List Str) (f : Str) (x : T) : Option T := match x with
  | .exn C fs => if cs.contains C then fs.lookup f else none
  | _ => none
def oIsx (isa : Ty → Ty → Option Bool) (u : Ty) (x : T) : Option T := match x with
  | .exn C _ => (isa (.c C) u).map .bl
  | _ => none
section
variable {a : Wd} {t : T} {w : W} {m : MEx} {e : TEx}
theorem exc_rp {C : Str} {fs : List (Str × T)} (p : Rp a (.exn C fs) w) : ∃ ws, excAt a.h w = some (C, ws) ∧ RpF a fs ws := by
  cases p with
  | exn f e f2 e2 l c => exact ⟨_, by simp only [excAt, e, e2], l, c⟩
theorem tq_xf {cs : List Str} {f : Str} : Op1 (kXf cs f) (oXf cs f) := fun a x tx v ok p e => by
  unfold oXf at e
  split at e
  · rename_i C fs
    obtain ⟨ws, e1, l⟩ := exc_rp p
    split at e
    · rename_i hc
      obtain ⟨y, e2, ry⟩ := (l.look f).1 v e
      exact ⟨y, a, by unfold kXf; simp only [e1, hc, if_true, e2], ok, .rfl', ry⟩
    · cases e
  · cases e
theorem tq_isx {isa : Ty → Ty → Option Bool} {u : Ty} : Op1 (kIsx isa u) (oIsx isa u) := fun a x tx v ok p e => by
  unfold oIsx at e
  split at e
  · rename_i C fs
    obtain ⟨ws, e1, l⟩ := exc_rp p
    cases q : isa (.c C) u with
    | none => rw [q] at e; cases e
    | some b =>
      rw [q] at e; cases e
      exact ⟨_, a, by unfold kIsx; simp only [e1, q], ok, .rfl', .bl⟩
  · cases e
theorem se_isx {isa : Ty → Ty → Option Bool} {u : Ty} (h : SimE m e) : SimE (mIsx isa u m) (e1 (oIsx isa u) e) := se_1 tq_isx h
end
def oCount (x : T) (ws : List T) : Option T := match ws with
  | [y] => (sqL x).bind fun xs => if flatT y && xs.all flatT then some (.int (xs.countP (fun z => eqT z y) : Nat)) else none
  | _ => none
section
variable {a : Wd}
theorem count_rp {ts : List T} {ws : List W} {u : T} {x : W} (p : RpL a ts ws) (q : Rp a u x) (h : ts.all flatT = true) (hu : flatT u = true) : ws.countP (fun z => eqW z x) = ts.countP fun z => eqT z u := by
  induction ts generalizing ws with
  | nil => rw [p.inv_nil] <;> rfl
  | cons t ts ih =>
    obtain ⟨w, l, rfl, hw, hl⟩ := p.inv_cons
    simp only [List.all_cons, Bool.and_eq_true] at h
    rw [List.countP_cons, List.countP_cons, ih hl h.2, eq_rp hw q h.1 hu]
theorem om_count : OpM' kCount oCount := fun a x xs tx ts v ok p q e => by
  unfold oCount at e
  split at e
  · obtain ⟨y, rfl, hy⟩ := q.one
    cases hs : sqL tx with
    | none => rw [hs] at e; cases e
    | some us =>
      rw [hs, Option.bind_some] at e
      obtain ⟨ws, e1, l⟩ := sqL_rp p hs
      split at e
      · next t z =>
        simp only [Bool.and_eq_true] at z
        cases e
        refine ⟨_, a, ?_, ok, .rfl', .int⟩
        simp only [kCount, e1]
        rw [flat_rp hy, flatL_rp l, z.1, z.2, count_rp l hy z.2 z.1] <;> rfl
      · cases e
  · cases e
end
end Mc

/-! trees: zip strict, join, f-strings, str -/
namespace Mc
open PySem
def zipT (xs ys : List T) : List T := List.zipWith (fun x y => .tup [x, y]) xs ys
def oZp2 (ws : List T) : Option (List T) := match ws with
  | [a, b] => (sqA a).bind fun xs => (sqA b).bind fun ys => if xs.length = ys.length then some (zipT xs ys) else none
  | _ => none
section
variable {a b : Wd} {σ : MSt} {τ : TSt} {m : MEx} {t : TEx} {ma : MAx} {ta : TAx} {w : W} {v : T} {ts : List T} {ws : List W}
theorem kd_rp (p : Rp a v w) (e : sqA v = some ts) : ∃ k ws, kdOf a.h w = some (k, ws) ∧ RpL a ts ws ∧ ∀ b, Kf a b → kdOf b.h w = some (k, ws) := by
  cases p with
  | tup hf eh l c => cases e; exact ⟨false, _, by simp only [kdOf, seqL, seqT, eh, Option.map], ⟨l, c⟩, fun b f => by simp only [kdOf, seqL, seqT, (f _ hf).2 _ eh, Option.map]⟩
  | ktp hf eh l c => cases e; exact ⟨false, _, by simp only [kdOf, seqL, seqT, eh, Option.map], ⟨l, c⟩, fun b f => by simp only [kdOf, seqL, seqT, (f _ hf).2 _ eh, Option.map]⟩
  | lst hf eh l c => cases e; exact ⟨true, _, by simp only [kdOf, seqL, eh], ⟨l, c⟩, fun b f => by simp only [kdOf, seqL, (f _ hf).2 _ eh]⟩
  | frl hf eh l c => cases e; exact ⟨true, _, by simp only [kdOf, seqL, eh], ⟨l, c⟩, fun b f => by simp only [kdOf, seqL, (f _ hf).2 _ eh]⟩
  | _ => cases e
theorem zipT_get {xs ys : List T} {i : Nat} {t : T} (e : (zipT xs ys)[i]? = some t) : ∃ x y, xs[i]? = some x ∧ ys[i]? = some y ∧ t = .tup [x, y] := by
  unfold zipT at e
  rw [List.getElem?_zipWith] at e
  split at e
  · rename_i x y e1 e2
    cases e
    exact ⟨x, y, e1, e2, rfl⟩
  · cases e
theorem zipT_len {xs ys : List T} (h : xs.length = ys.length) : (zipT xs ys).length = xs.length := by
  unfold zipT; rw [List.length_zipWith]; omega
theorem it_z2 {ka kb : Bool} {w2 : W} {us : List T} {zs : List W} (h1 : ∀ b, Kf a b → kdOf b.h w = some (ka, ws)) (l1 : RpL a ts ws) (h2 : ∀ b, Kf a b → kdOf b.h w2 = some (kb, zs)) (l2 : RpL a us zs) (hl : ts.length = us.length) :
    ItT a (zipT ts us) (jZ2 ka kb w w2 ws zs) := ⟨by rw [zipT_len hl]; exact l1.1.symm, fun b okb f i t ht => by
  obtain ⟨x, y, hx, hy, rfl⟩ := zipT_get ht
  obtain ⟨u, eu, lu⟩ := l1.get hx
  obtain ⟨z, ez, lz⟩ := l2.get hy
  refine ⟨.ref b.h.length, b.newF (.tup [u, z]), by simp only [jZ2, h1 b f, h2 b f, and_self, if_true, eu, ez]; rfl, okb.newF, .newF, ?_⟩
  have q := (RpL.cons (lu.kf f) (.cons (lz.kf f) .nil)).mono okb (Gr.newF (o := .tup [u, z])).fr
  exact .tup newF_F newF_at q.1 q.2, fun b okb f => by simp only [jZ2, h1 b f, h2 b f, and_self, decide_true]⟩
theorem si_zp2 (h : SimA ma ta) : SimI (iZp2 ma) (jA oZp2 ta) := fun a σ τ ok s => (h a σ τ ok s).bind fun b v w τ' ok' f s' l => .op ok' s' fun ts e => by
  unfold oZp2 at e
  split at e
  · next t u =>
    obtain ⟨x, y, rfl, hx, hy⟩ := l.two
    cases q : sqA t with
    | none => rw [q] at e; cases e
    | some us =>
      cases q2 : sqA u with
      | none => rw [q, q2] at e; cases e
      | some zs =>
        rw [q, q2] at e
        simp only [Option.bind_some] at e
        split at e
        · rename_i hl
          cases e
          obtain ⟨ka, ws, e1, l1, g1⟩ := kd_rp hx q
          obtain ⟨kb, vs, e2, l2, g2⟩ := kd_rp hy q2
          refine ⟨jZ2 ka kb x y ws vs, b, by simp only [e1, e2]; rw [if_pos (by rw [← l1.1, ← l2.1]; exact hl)], ok', .rfl', it_z2 g1 l1 g2 l2 hl⟩
        · cases e
  · cases e
end
/-! ### join -/
def strT : List T → Option (List Str)
  | [] => some []
  | .str i :: l => (strT l).map (i :: ·)
  | _ :: _ => none
def oJoin (x : T) (ws : List T) : Option T := match x, ws with
  | .str a, [y] => (sqA y).bind fun xs => (strT xs).bind fun ys => if joinC a ys ≤ lim then some (.str (Txt.join a ys)) else none
  | _, _ => none
section
variable {a : Wd}
theorem strT_rp : ∀ {ts : List T} {ws : List W}, RpL a ts ws → ∀ ys, strT ts = some ys → strsOf ws = some ys
  | [], ws, p, ys, e => by rw [p.inv_nil]; cases e; rfl
  | t :: ts, ws, p, ys, e => by
    obtain ⟨w, l, rfl, hw, hl⟩ := p.inv_cons
    cases hw with
    | str =>
      unfold strT at e
      cases q : strT ts with
      | none => rw [q] at e; cases e
      | some zs =>
        rw [q] at e; cases e
        unfold strsOf
        rw [strT_rp hl _ q] <;> rfl
    | _ => cases e
theorem om_join : OpM' kJoin oJoin := fun a x xs tx ts v ok p q e => by
  unfold oJoin at e
  split at e
  · rename_i s0 t
    cases p
    obtain ⟨y, rfl, hy⟩ := q.one
    cases q1 : sqA t with
    | none => rw [q1] at e; cases e
    | some us =>
      rw [q1, Option.bind_some] at e
      cases q2 : strT us with
      | none => rw [q2] at e; cases e
      | some ys =>
        rw [q2, Option.bind_some] at e
        split at e
        · rename_i hz
          cases e
          obtain ⟨ws, e1, l⟩ := sqA_rp hy q1
          exact ⟨_, a, by simp only [kJoin, e1, strT_rp l _ q2, hz, if_true], ok, .rfl', .str⟩
        · cases e
  · cases e
end
/-! ### f-strings, str -/
def oFmt (x : T) : Option T := match x with
  | .str y => if y.length ≤ lim then some (.str y) else none
  | .int i => if i.natAbs.log2 < 1920 then some (.str (toString i)) else none
  | _ => none
def jsT : List TEx → Str → TSt → RT T
  | [], acc, τ => .ok (.str acc) τ
  | t :: ts, acc, τ => (t τ).bind fun v τ1 => match v with
    | .str y => if (acc ++ y).length ≤ lim then jsT ts (acc ++ y) τ1 else .no
    | _ => .no
def eJs (ts : List TEx) : TEx := fun τ => jsT ts Str.empty τ
inductive SJ : List MEx → List TEx → Prop
  | nil : SJ [] []
  | cons {m : MEx} {t : TEx} {ms : List MEx} {ts : List TEx} (h : SimE m t) (r : SJ ms ts) : SJ (m :: ms) (t :: ts)
section
variable {a : Wd} {σ : MSt} {τ : TSt} {m : MEx} {e : TEx}
theorem tq_fmt : Op1 kFmt oFmt := fun a x tx v ok p e => by
  cases p with
  | str =>
    simp only [oFmt] at e
    split at e
    · next z => cases e; exact ⟨_, a, by simp only [kFmt]; rw [if_pos z], ok, .rfl', .str⟩
    · cases e
  | int =>
    simp only [oFmt] at e
    split at e
    · next z => cases e; exact ⟨_, a, by simp only [kFmt]; rw [if_pos z], ok, .rfl', .str⟩
    · cases e
  | _ => cases e
theorem js_rp : ∀ {ms : List MEx} {ts : List TEx}, SJ ms ts → ∀ (acc : Str) (a : Wd) (σ : MSt) (τ : TSt), a.Ok → SR a σ τ → SimR a σ Rp (jsM ms acc σ a.h) (jsT ts acc τ)
  | _, _, .nil, acc, a, σ, τ, ok, s => .now ok s .str
  | _, _, .cons h r, acc, a, σ, τ, ok, s => (h a σ τ ok s).bind fun b v w τ' ok' f s' l => by
    cases l with
    | @str y =>
      by_cases hz : (acc ++ y).length ≤ lim
      · simp only [hz, if_true]
        exact js_rp r _ b σ τ' ok' s'
      · simp only [hz, if_false]; trivial
    | _ => trivial
theorem se_js {ms : List MEx} {ts : List TEx} (h : SJ ms ts) : SimE (mJs ms) (eJs ts) := fun a σ τ ok s => js_rp h _ a σ τ ok s
end
def oStr1 (x : T) : Option T := match x with
  | .str y => some (.str y)
  | .int i => if i.natAbs.log2 < 1920 then some (.str (toString i)) else none
  | _ => none
/-- what an own __str__ gave -/
def strI (r : RT T) (τ : TSt) : RT T := match r with
  | .ok (.str y) _ => .ok (.str y) τ
  | .ex x _ => .ex x τ
  | _ => .no
def strG (ls : List (Str × Ft)) (t : T) (τ : TSt) : RT T := match t with
  | .ins C fs => match ls.lookup C with
    | some f => strI (f [.fz (.ins C fs)]) τ
    | none => .no
  | t => opt (oStr1 t) τ
def eStr (ls : List (Str × Ft)) (m : TEx) : TEx := fun τ => (m τ).bind fun t τ1 => strG ls t τ1
section
variable {a : Wd} {σ : MSt} {τ : TSt} {m : MEx} {e : TEx}
theorem tq_str1 : Op1 kStr1 oStr1 := fun a x tx v ok p e => by
  cases p with
  | str => cases e; exact ⟨_, a, rfl, ok, .rfl', .str⟩
  | int =>
    simp only [oStr1] at e
    split at e
    · next z => cases e; exact ⟨_, a, by simp only [kStr1]; rw [if_pos z], ok, .rfl', .str⟩
    · cases e
  | _ => cases e
theorem se_strO {ls : List (Str × Fm)} {lt : List (Str × Ft)} (hl : LsR ls lt) (h : SimE m e) : SimE (mArg (kStrO ls) (mCons m mNil)) (eStr lt e) := fun a σ τ ok s => by
  have e0 : mArg (kStrO ls) (mCons m mNil) σ a.h = (m σ a.h).bind fun w h => kStrO ls [w] h := by
    unfold mArg mCons
    cases m σ a.h <;> rfl
  rw [e0]
  refine (h a σ τ ok s).bind fun b v w τ' ok' f' s' l => ?_
  by_cases hc : ∃ C fs, v = .ins C fs
  · obtain ⟨C, fs, rfl⟩ := hc
    obtain ⟨dx, ws, e1, q⟩ := ins_rp l rfl
    simp only [strG, kStrO, e1]
    cases q : lt.lookup C with
    | none => trivial
    | some f =>
      obtain ⟨F, P, e2, hf⟩ := hl C f q
      simp only [e2]
      have z := call_fz (ts := [.ins C fs]) (ws := [w]) hf ok' s' (.cons l .nil)
      simp only [List.map_cons, List.map_nil] at z
      unfold retT at z
      unfold strI
      cases q : f [.fz (.ins C fs)] with
      | no => trivial
      | ex x os =>
        rw [q] at z
        obtain ⟨w', c, e, z⟩ := z
        simp only [e, R.bind]
        exact ⟨w', c, rfl, z⟩
      | ok v os =>
        rw [q] at z
        obtain ⟨w', c, e, okc, fc, sc, lc⟩ := z
        cases lc with
        | @str i =>
          simp only [e, R.bind]
          exact ⟨_, c, rfl, okc, fc, sc, .str⟩
        | _ => trivial
  · have hn : ∀ C fs, v ≠ .ins C fs := fun C fs z => hc ⟨C, fs, z⟩
    have e1 : strG lt v τ' = opt (oStr1 v) τ' := by
      unfold strG
      split
      · exact absurd rfl (hn _ _)
      · rfl
    have e2 : kStrO ls [w] b.h = kStr1 w b.h := by unfold kStrO; simp only [insAt_none l hn]
    rw [e1, e2]
    exact .op ok' s' fun v' e => tq_str1 b w v v' ok' l e
end
theorem nr_raise {C : Str} {fs : List Str} {ta : TAx} : NoRt (zRaise C fs ta) := nr_stm fun x τ v τ' e => by
  split at e
  · cases e
  · cases e
end Mc

/-! trees: repr of values with {} in them -/
namespace Mc
open PySem
def rxT : Nat → T → Option PyData
  | _, .non => some .none
  | _, .bl b => some (.bool b)
  | _, .int i => some (.int i)
  | _, .str x => some (.str x)
  | n + 1, .lst xs => (rdTL (rxT n) xs).map .list
  | n + 1, .frl xs => (rdTL (rxT n) xs).map .list
  | n + 1, .tup xs => (rdTL (rxT n) xs).map .tuple
  | n + 1, .ktp xs => (rdTL (rxT n) xs).map .tuple
  | _ + 1, .dK [] => some (.dict [])
  | _, _ => none
def oReprX (ws : List T) : Option T := match ws with
  | [x] => (rxT 40 x).bind fun d => if d.showable && decide (d.depth ≤ 64) && decide (d.shown.length ≤ lim) then some (.str d.shown) else none
  | _ => none
section
variable {a : Wd}
theorem rxL_rp {g : T → Option PyData} {f : W → Option PyData} (hf : ∀ t w d, Rp a t w → g t = some d → f w = some d) : ∀ {ts : List T} {ws : List W} {ds : List PyData}, RpL a ts ws → rdTL g ts = some ds → rdL f ws = some ds
  | [], ws, ds, p, e => by rw [p.inv_nil]; cases e; rfl
  | t :: ts, ws, ds, p, e => by
    obtain ⟨w, l, rfl, hw, hl⟩ := p.inv_cons
    unfold rdTL at e
    cases q1 : g t with
    | none => rw [q1] at e; cases e
    | some d =>
      cases q2 : rdTL g ts with
      | none => rw [q1, q2] at e; cases e
      | some es =>
        rw [q1, q2] at e
        cases e
        unfold rdL
        rw [hf t w d hw q1, rxL_rp hf hl q2]
theorem rx_rp {n : Nat} : ∀ t w d, Rp a t w → rxT n t = some d → rx n a.h w = some d := by
  induction n with
  | zero =>
    intro t w d p e
    cases p <;> first | exact e | cases e | (unfold rxT at e; cases e) | (rename_i ts _ _ _ _ _; cases ts <;> cases e) | (simp only [rxT] at e; done)
  | succ n ih =>
    intro t w d p e
    cases p with
    | non => exact e
    | bl => exact e
    | int => exact e
    | str => exact e
    | @tup r ts ws f eh l c =>
      simp only [rxT] at e
      cases q : rdTL (rxT n) ts with
      | none => rw [q] at e; cases e
      | some ds => rw [q] at e; simp only [rx, eh, rxL_rp ih ⟨l, c⟩ q]; exact e
    | @lst r ts ws f eh l c =>
      simp only [rxT] at e
      cases q : rdTL (rxT n) ts with
      | none => rw [q] at e; cases e
      | some ds => rw [q] at e; simp only [rx, eh, rxL_rp ih ⟨l, c⟩ q]; exact e
    | @frl r ts ws f eh l c =>
      simp only [rxT] at e
      cases q : rdTL (rxT n) ts with
      | none => rw [q] at e; cases e
      | some ds => rw [q] at e; simp only [rx, eh, rxL_rp ih ⟨l, c⟩ q]; exact e
    | @ktp r ts ws f eh l c =>
      simp only [rxT] at e
      cases q : rdTL (rxT n) ts with
      | none => rw [q] at e; cases e
      | some ds => rw [q] at e; simp only [rx, eh, rxL_rp ih ⟨l, c⟩ q]; exact e
    | @dK r ts ws f eh l c =>
      cases ts with
      | nil =>
        cases e
        have z : ws = [] := by
          cases ws with
          | nil => rfl
          | cons x y => simp at l
        subst z
        simp only [rx, eh]
      | cons x y => cases e
    | _ => cases e
theorem ol_reprX : OpL kReprX oReprX := oneW (fun ts v e => by unfold oReprX at e; split at e <;> first | exact ⟨_, rfl⟩ | cases e) fun a x t v ok p e => by
  simp only [oReprX] at e
  cases q : rxT 40 t with
  | none => rw [q] at e; cases e
  | some d =>
    rw [q, Option.bind_some] at e
    split at e
    · rename_i hz
      cases e
      refine ⟨_, a, ?_, ok, .rfl', .str⟩
      simp only [kReprX, rx_rp t x d p q, hz, if_true]
    · cases e
end
end Mc

/-! what must hold ahead of a tree term, that it ends so -/
namespace Mc
open PySem
def vE {α : Type} (r : RT α) (Q : α → TSt → Prop) (X : TExn → TSt → Prop) : Prop := match r with
  | .ok a τ => Q a τ
  | .ex x τ => X x τ
  | .no => False
def vO {α : Type} (o : Option α) (Q : α → Prop) : Prop := match o with
  | some a => Q a
  | none => False
def vZ (r : TRS) (Q : TFl → TSt → Prop) : Prop := match r with
  | some (f, τ) => Q f τ
  | none => False
abbrev xF : TExn → TSt → Prop := fun _ _ => False
section
variable {α β : Type} {Q : α → TSt → Prop} {τ : TSt} {QS : TFl → TSt → Prop} {QO : α → Prop} {X : TExn → TSt → Prop}
theorem vE_congr {r r' : RT α} (h : r = r') : vE r Q X = vE r' Q X := by rw [h]
theorem vO_congr {r r' : Option α} (h : r = r') : vO r QO = vO r' QO := by rw [h]
theorem vZ_congr {r r' : TRS} (h : r = r') : vZ r QS = vZ r' QS := by rw [h]
theorem vE_ok {a : α} : vE (.ok a τ) Q X = Q a τ := rfl
theorem vE_ex {x : TExn} : vE (.ex x τ : RT α) Q X = X x τ := rfl
theorem vE_bind {r : RT β} {k : β → TSt → RT α} : vE (r.bind k) Q X = vE r (fun a τ => vE (k a τ) Q X) X := by cases r <;> rfl
theorem vZ_stm {r : RT β} {k : β → TSt → TRS} : vZ (r.stm k) QS = vE r (fun a τ => vZ (k a τ) QS) (fun x τ => QS (.xc x) τ) := by cases r <;> rfl
theorem vO_some {a : α} : vO (some a) QO = QO a := rfl
theorem vO_none : vO (none : Option α) QO = False := rfl
theorem vO_map {o : Option β} {f : β → α} : vO (o.map f) QO = vO o fun a => QO (f a) := by cases o <;> rfl
theorem vO_bind {o : Option β} {f : β → Option α} : vO (o.bind f) QO = vO o fun a => vO (f a) QO := by cases o <;> rfl
theorem vO_if {c : Prop} [Decidable c] {o : Option α} : vO (if c then o else none) QO = (c ∧ vO o QO) := by
  by_cases h : c
  · rw [if_pos h]; simp [h]
  · rw [if_neg h]; simp [h, vO_none]
theorem vE_opt {o : Option α} : vE (opt o τ) Q X = vO o fun a => Q a τ := by cases o <;> rfl
theorem vE_ite {c : Prop} [Decidable c] {a b : RT α} : vE (if c then a else b) Q X = if c then vE a Q X else vE b Q X := by
  by_cases h : c
  · rw [if_pos h, if_pos h]
  · rw [if_neg h, if_neg h]
theorem vZ_ite {c : Prop} [Decidable c] {a b : TRS} : vZ (if c then a else b) QS = if c then vZ a QS else vZ b QS := by
  by_cases h : c
  · rw [if_pos h, if_pos h]
  · rw [if_neg h, if_neg h]
theorem vE.get {r : RT α} (h : vE r Q xF) : ∃ a τ, r = .ok a τ ∧ Q a τ := by
  cases r with
  | ok a τ => exact ⟨a, τ, rfl, h⟩
  | _ => exact h.elim
theorem vE.of {r : RT α} {a : α} (e : r = .ok a τ) (q : Q a τ) : vE r Q X := by rw [e]; exact q
theorem vE.imp {r : RT α} {Q' : α → TSt → Prop} (g : vE r Q X) (f : ∀ a τ, Q a τ → Q' a τ) : vE r Q' X := by
  cases r with
  | ok a h => exact f _ _ g
  | ex x h => exact g
  | no => exact g
theorem vZ.imp {r : TRS} {Q' : TFl → TSt → Prop} (g : vZ r QS) (f : ∀ a τ, QS a τ → Q' a τ) : vZ r Q' := by
  cases r with
  | none => exact g
  | some p => exact f _ _ g
theorem vO.get {o : Option α} (h : vO o QO) : ∃ a, o = some a ∧ QO a := by
  cases o with
  | some a => exact ⟨a, rfl, h⟩
  | none => exact h.elim
end
/-! ### terms -/
section
variable {Q : T → TSt → Prop} {QB : Bool → TSt → Prop} {QL : List T → TSt → Prop} {QI : Option Int → TSt → Prop} {QS : TFl → TSt → Prop} {X : TExn → TSt → Prop} {τ : TSt} {t u : T} {a b c : TEx} {p q : TTx} {ta tk : TAx}
theorem v_eV {i : Nat} : vE (eV i τ) Q X = vO (fzAt τ i) fun v => Q v τ := vE_opt
theorem v_eC : vE (eC t τ) Q X = Q t τ := rfl
theorem v_e1 {k : T → Option T} : vE (e1 k a τ) Q X = vE (a τ) (fun x τ1 => vO (k x) fun v => Q v τ1) X := by
  unfold e1; rw [vE_bind]; congr 1; funext x τ1; rw [vE_opt]
theorem v_e2 {k : T → T → Option T} : vE (e2 k a b τ) Q X = vE (a τ) (fun x τ1 => vE (b τ1) (fun y τ2 => vO (k x y) fun v => Q v τ2) X) X := by
  unfold e2; rw [vE_bind]; congr 1; funext x τ1; rw [vE_bind]; congr 1; funext y τ2; rw [vE_opt]
theorem v_aNil : vE (aNil τ) QL X = QL [] τ := rfl
theorem v_aCons : vE (aCons a ta τ) QL X = vE (a τ) (fun x τ1 => vE (ta τ1) (fun xs τ2 => QL (x :: xs) τ2) X) X := by
  unfold aCons; rw [vE_bind]; congr 1; funext x τ1; rw [vE_bind]; congr 1
theorem v_eArg {k : List T → Option T} : vE (eArg k ta τ) Q X = vE (ta τ) (fun xs τ1 => vO (k xs) fun v => Q v τ1) X := by
  unfold eArg; rw [vE_bind]; congr 1; funext x τ1; rw [vE_opt]
theorem vO_oB {k : Bool} {Q : Bool → Prop} : vO (oB (.bl k)) Q = Q k := rfl
theorem v_bV : vE (bV a τ) QB X = vE (a τ) (fun x τ1 => vO (oB x) fun k => QB k τ1) X := by
  unfold bV; rw [vE_bind]; congr 1; funext x τ1; rw [vE_opt]
theorem v_bTr : vE (bTr a τ) QB X = vE (a τ) (fun x τ1 => vO (oTru x) fun k => QB k τ1) X := by
  unfold bTr; rw [vE_bind]; congr 1; funext x τ1; rw [vE_opt]
theorem v_bNt : vE (bNt p τ) QB X = vE (p τ) (fun k τ1 => QB (!k) τ1) X := by unfold bNt; rw [vE_bind] <;> rfl
theorem v_bAn : vE (bAn p q τ) QB X = vE (p τ) (fun k τ1 => if k then vE (q τ1) QB X else QB false τ1) X := by
  unfold bAn; rw [vE_bind]; congr 1; funext k τ1; cases k <;> rfl
theorem v_bO : vE (bO p q τ) QB X = vE (p τ) (fun k τ1 => if k then QB true τ1 else vE (q τ1) QB X) X := by
  unfold bO; rw [vE_bind]; congr 1; funext k τ1; cases k <;> rfl
theorem v_bYs : vE (bYs τ) QB X = QB true τ := rfl
theorem v_eAn : vE (eAn a b τ) Q X = vE (a τ) (fun x τ1 => vO (oB x) fun k => if k then vE (b τ1) Q X else Q (.bl false) τ1) X := by
  unfold eAn; rw [vE_bind]; congr 1; funext x τ1; rw [vE_bind, vE_opt]; congr 1; funext k; cases k <;> rfl
theorem v_eOr : vE (eOr a b τ) Q X = vE (a τ) (fun x τ1 => vO (oB x) fun k => if k then Q (.bl true) τ1 else vE (b τ1) Q X) X := by
  unfold eOr; rw [vE_bind]; congr 1; funext x τ1; rw [vE_bind, vE_opt]; congr 1; funext k; cases k <;> rfl
theorem v_eNt : vE (eNt a τ) Q X = vE (a τ) (fun x τ1 => vO (oB x) fun k => Q (.bl (!k)) τ1) X := by
  unfold eNt; rw [vE_bind]; congr 1; funext x τ1; rw [vE_bind, vE_opt]; congr 1
theorem v_eIf : vE (eIf p a b τ) Q X = vE (p τ) (fun k τ1 => if k then vE (a τ1) Q X else vE (b τ1) Q X) X := by
  unfold eIf; rw [vE_bind]; congr 1; funext k τ1; cases k <;> rfl
theorem v_eCh {l : List ((T → T → Option T) × TEx)} : vE (eCh a l τ) Q X = vE (a τ) (fun x τ1 => vE (cht l x τ1) Q X) X := by unfold eCh; rw [vE_bind]
theorem v_ch1 {k : T → T → Option T} : vE (cht [(k, a)] t τ) Q X = vE (a τ) (fun y τ1 => vO (k t y) fun v => Q v τ1) X := by
  simp only [cht]; rw [vE_bind]; congr 1; funext x τ1; rw [vE_opt]
theorem v_ch2 {k : T → T → Option T} {r : (T → T → Option T) × TEx} {l : List ((T → T → Option T) × TEx)} :
    vE (cht ((k, a) :: r :: l) t τ) Q X = vE (a τ) (fun y τ1 => vO (k t y) fun z => vO (oB z) fun k => if k then vE (cht (r :: l) y τ1) Q X else Q (.bl false) τ1) X := by
  simp only [cht]; rw [vE_bind]; congr 1; funext y τ1; rw [vE_bind, vE_opt]; congr 1; funext z; rw [vE_bind, vE_opt]; congr 1; funext k; cases k <;> rfl
theorem v_nNone : vE (nNone τ) QI X = QI none τ := rfl
theorem v_nSome : vE (nSome a τ) QI X = vE (a τ) (fun v τ1 => vO (oI v) fun i => QI i τ1) X := by
  unfold nSome; rw [vE_bind]; congr 1; funext x τ1; rw [vE_opt]
theorem vO_oI {i : Int} {Q : Option Int → Prop} : vO (oI (.int i)) Q = Q (some i) := rfl
theorem v_eSl {l r : TOx} : vE (eSl a l r τ) Q X = vE (a τ) (fun x τ1 => vE (l τ1) (fun lo τ2 => vE (r τ2) (fun hi τ3 => vO (oSl x lo hi) fun v => Q v τ3) X) X) X := by
  unfold eSl; rw [vE_bind]; congr 1; funext x τ1; rw [vE_bind]; congr 1; funext y τ2; rw [vE_bind]; congr 1; funext z τ3; rw [vE_opt]
theorem v_eMt {T' : String} {k : T → List T → Option T} : vE (eMt T' k a ta τ) Q X = vE (a τ) (fun x τ1 => tyB T' x = true ∧ vE (ta τ1) (fun ws τ2 => vO (k x ws) fun v => Q v τ2) X) X := by
  unfold eMt; rw [vE_bind]; congr 1; funext x τ1
  by_cases h : tyB T' x = true
  · rw [if_pos h, vE_bind]; simp only [h, true_and]; congr 1; funext ws τ2; rw [vE_opt]
  · rw [if_neg h]; simp only [h, false_and, Bool.false_eq_true]; rfl
theorem v_dict0 : vE (eDict0 τ) Q X = Q (.dK []) τ := rfl
theorem v_dict1 {k : L2.Key} : vE (eDict1 k t τ) Q X = Q (.dK [(k, t)]) τ := rfl
/-! owned -/
theorem vE_has {α : Type} {QA : α → TSt → Prop} {r : RT α} {k : Nat} : vE (hasO τ k r) QA X = vO (owL τ k) fun _ => vE r QA X := by
  unfold hasO; cases owL τ k <;> rfl
theorem v_ixO {k : Nat} : vE (eIxO k a τ) Q X = vO (owL τ k) fun _ => vE (a τ) (fun y τ1 => vO (owL τ1 k) fun xs => vO (oAt xs y) fun v => Q v τ1) X := by
  unfold eIxO; rw [vE_has]; congr 1; funext _; rw [vE_bind]; congr 1; funext y τ1; rw [vE_opt, vO_bind]
theorem v_lenO {k : Nat} : vE (eLenO k τ) Q X = vO (owL τ k) fun xs => Q (.int xs.length) τ := by unfold eLenO; rw [vE_opt, vO_map]
theorem v_tupO {k : Nat} : vE (eTupO k τ) Q X = vO (owL τ k) fun xs => Q (.tup xs) τ := by unfold eTupO; rw [vE_opt, vO_map]
theorem v_appO {k : Nat} : vE (eAppO k a τ) Q X = vO (owL τ k) fun _ => vE (a τ) (fun v τ1 => vO (owL τ1 k) fun xs => xs.length < lim ∧ Q .non (τ1.set k (some (.ow (.lst (xs ++ [v])))))) X := by
  unfold eAppO; rw [vE_has]; congr 1; funext _; rw [vE_bind]; congr 1; funext v τ1; rw [vE_bind, vE_opt]; congr 1; funext xs
  by_cases h : xs.length < lim
  · rw [if_pos h]; simp only [h, true_and]; rfl
  · rw [if_neg h]; simp only [h, false_and]; rfl
theorem v_extO {k : Nat} {vs : List T} : vE (eExtO k (fun τ => .ok (.lst vs) τ) τ) Q X = vO (owL τ k) fun _ => vO (owL τ k) fun xs => xs.length + vs.length ≤ lim ∧ Q .non (τ.set k (some (.ow (.lst (xs ++ vs))))) := by
  unfold eExtO; rw [vE_has]; congr 1; funext _; simp only [RT.bind]; cases owL τ k with
  | none => rfl
  | some xs =>
    simp only [opt, vO_some]
    by_cases h : xs.length + vs.length ≤ lim
    · rw [if_pos h]; simp only [h, true_and]; rfl
    · rw [if_neg h]; simp only [h, false_and]; rfl
def xL (v : T) (Q : List T → Prop) : Prop := match v with
  | .lst ys => Q ys
  | _ => False
theorem v_ext {k : Nat} : vE (eExtO k a τ) Q X = vO (owL τ k) fun _ => vE (a τ) (fun v τ1 => vO (owL τ1 k) fun xs => xL v fun ys => xs.length + ys.length ≤ lim ∧ Q .non (τ1.set k (some (.ow (.lst (xs ++ ys)))))) X := by
  unfold eExtO; rw [vE_has]; congr 1; funext _; rw [vE_bind]; congr 1; funext v τ1; rw [vE_bind, vE_opt]; congr 1; funext xs
  cases v with
  | lst ys =>
    simp only [xL]
    by_cases h : xs.length + ys.length ≤ lim
    · rw [if_pos h]; simp only [h, true_and]; rfl
    · rw [if_neg h]; simp only [h, false_and]; rfl
  | _ => rfl
theorem vxL_lst {ys : List T} {Q : List T → Prop} : xL (.lst ys) Q = Q ys := rfl
/-! calls: what is known of the callee -/
theorem vE_ret {r : RT T} : vE (retT r τ) Q X = vE r (fun v _ => Q v τ) (fun x _ => X x τ) := by cases r <;> rfl
theorem v_eCall {f : Ft} : vE (eCall f ta τ) Q X = vE (ta τ) (fun xs τ1 => vE (f (xs.map .fz)) (fun v _ => Q v τ1) (fun x _ => X x τ1)) X := by
  unfold eCall; rw [vE_bind]; congr 1; funext xs τ1; rw [vE_ret]
theorem v_eCallK {f : Ft} {is : List Nat} {dT : List T} : vE (eCallK f is dT ta tk τ) Q X = vE (ta τ) (fun xs τ1 => vE (tk τ1) (fun zs τ2 => vE (f ((sel is (xs ++ zs ++ dT)).map .fz)) (fun v _ => Q v τ2) (fun x _ => X x τ2)) X) X := by
  unfold eCallK; rw [vE_bind]; congr 1; funext xs τ1; rw [vE_bind]; congr 1; funext zs τ2; rw [vE_ret]
/-- the only thing handed back -/
def o1 (os : TSt) (Q : T → Prop) : Prop := match os with
  | [some (.ow t)] => Q t
  | _ => False
theorem vo1_eq {t : T} {Q : T → Prop} : o1 [some (.ow t)] Q = Q t := rfl
theorem v_eCallS {f : Ft} {k : Nat} : vE (eCallS f k ta τ) Q X = vO (owAt τ k) fun _ => vE (ta τ) (fun xs τ1 => vO (owAt τ1 k) fun t => vE (f (.ow t :: xs.map .fz)) (fun v os => o1 os fun t' => Q v (τ1.set k (some (.ow t')))) (fun x os => o1 os fun t' => X x (τ1.set k (some (.ow t'))))) X := by
  unfold eCallS
  cases owAt τ k with
  | none => rfl
  | some t0 =>
    simp only [vO_some]
    rw [vE_bind]; congr 1; funext xs τ1
    cases owAt τ1 k with
    | none => rfl
    | some t =>
      simp only [vO_some]
      cases f (.ow t :: xs.map .fz) with
      | no => rfl
      | ok v os =>
        simp only [vE_ok]
        unfold o1
        split
        · rename_i h; cases h; rfl
        · rename_i h; cases h
        · rename_i h1 h2
          split
          · exact absurd rfl (h1 _ _)
          · rfl
      | ex v os =>
        simp only [vE_ex]
        unfold o1
        split
        · rename_i h; cases h
        · rename_i h; cases h; rfl
        · rename_i h1 h2
          split
          · exact absurd rfl (h2 _ _)
          · rfl
theorem v_eCallT {f : Ft} : vE (eCallT f a τ) Q X = vE (a τ) (fun u τ1 => vE (f [.ow u]) (fun v os => o1 os fun _ => Q v τ1) (fun x os => o1 os fun _ => X x τ1)) X := by
  unfold eCallT; rw [vE_bind]; congr 1; funext u τ1
  cases f [.ow u] with
  | no => rfl
  | ok v os =>
    simp only [vE_ok]
    unfold o1
    split
    · rename_i h; cases h; rfl
    · rename_i h; cases h
    · rename_i h1 h2
      split
      · exact absurd rfl (h1 _ _)
      · rfl
  | ex v os =>
    simp only [vE_ex]
    unfold o1
    split
    · rename_i h; cases h
    · rename_i h; cases h; rfl
    · rename_i h1 h2
      split
      · exact absurd rfl (h2 _ _)
      · rfl
def mk1 (v : T) (os : TSt) (Q : T → Prop) : Prop := match v, os with
  | .non, [some (.ow t)] => Q t
  | _, _ => False
theorem vmk1_eq {t : T} {Q : T → Prop} : mk1 .non [some (.ow t)] Q = Q t := rfl
theorem v_makeG {C : Str} {f : Ft} {xs : List T} : vE (eMakeG C f xs τ) Q X = vE (f (.ow (.ins C []) :: xs.map .fz)) (fun v os => mk1 v os fun t => Q t τ) (fun x os => o1 os fun _ => X x τ) := by
  unfold eMakeG
  cases f (.ow (.ins C []) :: xs.map .fz) with
  | no => rfl
  | ok v os =>
    simp only [vE_ok]
    unfold mk1
    split
    · rename_i h; cases h; rfl
    · rename_i h; cases h
    · rename_i h1 h2
      split
      · exact absurd rfl (h1 _)
      · rfl
  | ex v os =>
    simp only [vE_ex]
    unfold o1
    split
    · rename_i h; cases h
    · rename_i h; cases h; rfl
    · rename_i h1 h2
      split
      · exact absurd rfl (h2 _ _)
      · rfl
theorem v_eMake {C : Str} {f : Ft} : vE (eMake C f ta τ) Q X = vE (ta τ) (fun xs τ1 => vE (f (.ow (.ins C []) :: xs.map .fz)) (fun v os => mk1 v os fun t => Q t τ1) (fun x os => o1 os fun _ => X x τ1)) X := by
  unfold eMake; rw [vE_bind]; congr 1; funext xs τ1; exact v_makeG
theorem v_eMakeK {C : Str} {f : Ft} {is : List Nat} {dT : List T} : vE (eMakeK C f is dT ta tk τ) Q X = vE (ta τ) (fun xs τ1 => vE (tk τ1) (fun zs τ2 => vE (f (.ow (.ins C []) :: (sel is (xs ++ zs ++ dT)).map .fz)) (fun v os => mk1 v os fun t => Q t τ2) (fun x os => o1 os fun _ => X x τ2)) X) X := by
  unfold eMakeK; rw [vE_bind]; congr 1; funext xs τ1; rw [vE_bind]; congr 1; funext zs τ2; exact v_makeG
theorem v_eMeth {C m : Str} {f : Ft} : vE (eMeth C m f a ta τ) Q X = vE (a τ) (fun x τ0 => isC C m x = true ∧ vE (ta τ0) (fun xs τ1 => vE (f ((x :: xs).map .fz)) (fun v _ => Q v τ1) (fun x _ => X x τ1)) X) X := by
  unfold eMeth; rw [vE_bind]; congr 1; funext x τ1
  by_cases h : isC C m x = true
  · rw [if_pos h, vE_bind]; simp only [h, true_and]; congr 1; funext ws τ2; rw [vE_ret]
  · rw [if_neg h]; simp only [h, false_and, Bool.false_eq_true]; rfl
theorem v_eProp {C : Str} {f : Ft} : vE (eProp C f a τ) Q X = vE (a τ) (fun x τ0 => isC1 C x = true ∧ vE (f [.fz x]) (fun v _ => Q v τ0) xF) X := by
  unfold eProp; rw [vE_bind]; congr 1; funext x τ1
  by_cases h : isC1 C x = true
  · rw [if_pos h]; simp only [h, true_and]; cases f [.fz x] <;> rfl
  · rw [if_neg h]; simp only [h, false_and, Bool.false_eq_true]; rfl
theorem v_eFldO {cs : List Str} {f : Str} {k : Nat} : vE (eFldO cs f k τ) Q X = vO (owAt τ k) fun x => vO (oFld cs f x) fun v => Q v τ := by unfold eFldO; rw [vE_opt, vO_bind]
theorem v_eLen {ls : List (Str × Ft)} : vE (eLen ls a τ) Q X = vE (a τ) (fun t τ1 => vE (lenG ls t τ1) Q X) X := by unfold eLen; rw [vE_bind]
theorem v_lenL {ls : List (Str × Ft)} {xs : List T} : vE (lenG ls (.lst xs) τ) Q X = Q (.int xs.length) τ := rfl
theorem v_lenF {ls : List (Str × Ft)} {xs : List T} : vE (lenG ls (.frl xs) τ) Q X = Q (.int xs.length) τ := rfl
theorem v_lenT {ls : List (Str × Ft)} {xs : List T} : vE (lenG ls (.tup xs) τ) Q X = Q (.int xs.length) τ := rfl
theorem v_lenK {ls : List (Str × Ft)} {xs : List T} : vE (lenG ls (.ktp xs) τ) Q X = Q (.int xs.length) τ := rfl
/-! statements -/
theorem v_nil : vZ (zNil τ) QS = QS .nx τ := rfl
theorem v_brk : vZ (zBreak τ) QS = QS .bk τ := rfl
theorem v_cnt : vZ (zCont τ) QS = QS .ct τ := rfl
theorem v_retN : vZ (zRetN τ) QS = QS (.rt .non) τ := rfl
theorem v_no : vZ (zNo τ) QS = False := rfl
def sqK (b : TSx) (Q : TFl → TSt → Prop) : TFl → TSt → Prop
  | .nx, τ => vZ (b τ) Q
  | f, τ => Q f τ
theorem v_seq {x y : TSx} : vZ (zSeq x y τ) QS = vZ (x τ) (sqK y QS) := by
  unfold zSeq
  cases x τ with
  | none => rfl
  | some r => obtain ⟨f, τ1⟩ := r; cases f <;> rfl
theorem vsq_nx {y : TSx} : sqK y QS .nx τ = vZ (y τ) QS := rfl
theorem vsq_rt {y : TSx} {v : T} : sqK y QS (.rt v) τ = QS (.rt v) τ := rfl
theorem vsq_bk {y : TSx} : sqK y QS .bk τ = QS .bk τ := rfl
theorem vsq_ct {y : TSx} : sqK y QS .ct τ = QS .ct τ := rfl
theorem vsq_xc {y : TSx} {x : TExn} : sqK y QS (.xc x) τ = QS (.xc x) τ := rfl
theorem v_drop : vZ (zDrop a τ) QS = vE (a τ) (fun _ τ1 => QS .nx τ1) (fun x τ1 => QS (.xc x) τ1) := by unfold zDrop; rw [vZ_stm] <;> rfl
theorem v_ret : vZ (zRet a τ) QS = vE (a τ) (fun v τ1 => QS (.rt v) τ1) (fun x τ1 => QS (.xc x) τ1) := by unfold zRet; rw [vZ_stm] <;> rfl
theorem v_if {x y : TSx} : vZ (zIf p x y τ) QS = vE (p τ) (fun k τ1 => if k then vZ (x τ1) QS else vZ (y τ1) QS) (fun x τ1 => QS (.xc x) τ1) := by
  unfold zIf; rw [vZ_stm]; congr 1; funext k τ1; cases k <;> rfl
theorem vZ_nx {o : Option TSt} : vZ (oNx o) QS = vO o fun τ => QS .nx τ := by cases o <;> rfl
theorem v_asg {g : TGx} : vZ (zAsg a g τ) QS = vE (a τ) (fun v τ1 => vO (g v τ1) fun τ2 => QS .nx τ2) (fun x τ1 => QS (.xc x) τ1) := by
  unfold zAsg; rw [vZ_stm]; congr 1; funext v τ1; rw [vZ_nx]
theorem v_asg2 {g g' : TGx} : vZ (zAsg2 a g g' τ) QS = vE (a τ) (fun v τ1 => vO (g v τ1) fun τ2 => vO (g' v τ2) fun τ3 => QS .nx τ3) (fun x τ1 => QS (.xc x) τ1) := by
  unfold zAsg2; rw [vZ_stm]; congr 1; funext v τ1; rw [vZ_nx, vO_bind]
theorem v_yN {i : Nat} {Q : TSt → Prop} : vO (yN i t τ) Q = Q (τ.set i (some (.fz t))) := rfl
theorem v_yTp {n : Nat} {gs : TGs} {Q : TSt → Prop} : vO (yTp n gs t τ) Q = vO (sqA t) fun xs => xs.length = n ∧ vO (gs xs τ) Q := by
  unfold yTp; rw [vO_bind]; congr 1; funext xs; rw [vO_if]
theorem v_ysNil {Q : TSt → Prop} : vO (ysNil [] τ) Q = Q τ := rfl
theorem v_ysCons {g : TGx} {gs : TGs} {ts : List T} {Q : TSt → Prop} : vO (ysCons g gs (t :: ts) τ) Q = vO (g t τ) fun τ1 => vO (gs ts τ1) Q := by simp only [ysCons]; rw [vO_bind]
def xI (v : T) (Q : Int → Prop) : Prop := match v with
  | .int i => Q i
  | _ => False
theorem vxI_int {i : Int} {Q : Int → Prop} : xI (.int i) Q = Q i := rfl
theorem v_yAt {k : Nat} {Q : TSt → Prop} : vO (yAt k a t τ) Q = vE (a τ) (fun v τ1 => xI v fun i => vO (owL τ1 k) fun xs => vO (L2.ixN xs.length i) fun j => Q (τ1.set k (some (.ow (.lst (xs.set j t)))))) xF := by
  unfold yAt
  cases a τ with
  | no => rfl
  | ex _ _ => rfl
  | ok v τ1 =>
    simp only [vE_ok]
    cases v with
    | int i =>
      simp only [xI]
      unfold owAt owL
      cases h : τ1[k]? with
      | none => rfl
      | some y => cases y with
        | none => rfl
        | some z => cases z with
          | fz _ => rfl
          | ow z => cases z with
            | lst xs => simp only [vO_some, vO_map]
            | _ => rfl
    | _ => rfl
theorem v_fz {k : Nat} {x : TSx} : vZ (zFz k x τ) QS = vZ (x (frzT τ k)) QS := rfl
theorem v_asgO {i : Nat} : vZ (zAsgO a i τ) QS = vE (a τ) (fun v τ1 => QS .nx (τ1.set i (some (.ow v)))) (fun x τ1 => QS (.xc x) τ1) := by unfold zAsgO; rw [vZ_stm] <;> rfl
theorem v_par {is : List Nat} : vZ (zPar is ta τ) QS = vE (ta τ) (fun vs τ1 => vs.length = is.length ∧ QS .nx (setAll is vs τ1)) (fun x τ1 => QS (.xc x) τ1) := by
  unfold zPar; rw [vZ_stm]; congr 1; funext vs τ1
  by_cases h : vs.length = is.length
  · rw [if_pos h]; simp only [h, true_and]; rfl
  · rw [if_neg h]; simp only [h, false_and]; rfl
theorem v_parV {is : List Nat} {l : List VE} : vZ (zParV is l τ) QS = vE (evV l τ) (fun xs τ1 => QS .nx (putV is xs τ1)) (fun x τ1 => QS (.xc x) τ1) := by unfold zParV; rw [vZ_stm] <;> rfl
theorem v_evN {QV : List SV → TSt → Prop} : vE (evV [] τ) QV X = QV [] τ := rfl
theorem v_evV {QV : List SV → TSt → Prop} {l : List VE} : vE (evV (.v a :: l) τ) QV X = vE (a τ) (fun x τ1 => vE (evV l τ1) (fun xs τ2 => QV (.fz x :: xs) τ2) X) X := by
  simp only [evV]; rw [vE_bind]; congr 1; funext x τ1; rw [vE_bind]; congr 1
theorem v_evO {QV : List SV → TSt → Prop} {l : List VE} : vE (evV (.o a :: l) τ) QV X = vE (a τ) (fun x τ1 => vE (evV l τ1) (fun xs τ2 => QV (.ow x :: xs) τ2) X) X := by
  simp only [evV]; rw [vE_bind]; congr 1; funext x τ1; rw [vE_bind]; congr 1
theorem v_aug {i : Nat} {k : T → T → Option T} : vZ (zAug i k a τ) QS = vO (fzAt τ i) fun x => vE (a τ) (fun y τ1 => vO (k x y) fun z => QS .nx (τ1.set i (some (.fz z)))) (fun x τ1 => QS (.xc x) τ1) := by
  unfold zAug
  cases fzAt τ i with
  | none => rfl
  | some x => simp only [vO_some]; rw [vZ_stm]; congr 1; funext y τ1; rw [vZ_stm, vE_opt] <;> rfl
theorem v_fldS {cs : List Str} {f : Str} {k : Nat} : vZ (zFldS cs f k a τ) QS = vE (a τ) (fun v τ1 => vO (owAt τ1 k) fun x => vO (insT x) fun p => (cs.contains p.1 = true ∧ p.2.length < 100) ∧ QS .nx (τ1.set k (some (.ow (.ins p.1 (putT f v p.2)))))) (fun x τ1 => QS (.xc x) τ1) := by
  unfold zFldS; rw [vZ_stm]; congr 1; funext v τ1
  cases owAt τ1 k with
  | none => rfl
  | some x =>
    simp only [vO_some]
    cases x with
    | ins C fs =>
      simp only [insT, vO_some]
      by_cases h : cs.contains C = true ∧ fs.length < 100
      · rw [if_pos h]; simp only [h, true_and, and_self]; rfl
      · rw [if_neg h]; simp only [h, false_and]; rfl
    | _ => rfl
theorem v_augS {k : Nat} {kt : T → T → Option T} : vZ (zAugS k kt a b τ) QS = vO (owL τ k) fun _ => vE (a τ) (fun y τ1 => vO (owL τ1 k) fun xs => xI y fun i => 0 ≤ i ∧ vO xs[i.toNat]? fun x => vE (b τ1) (fun u τ2 => vO (kt x u) fun z => vO (owL τ2 k) fun xs' => vO (L2.ixN xs'.length i) fun j => QS .nx (τ2.set k (some (.ow (.lst (xs'.set j z)))))) (fun x τ1 => QS (.xc x) τ1)) (fun x τ1 => QS (.xc x) τ1) := by
  unfold zAugS hasS
  cases owL τ k with
  | none => rfl
  | some _ =>
    simp only [vO_some]
    rw [vZ_stm]; congr 1; funext y τ1
    cases owL τ1 k with
    | none => cases y <;> rfl
    | some xs =>
      simp only [vO_some]
      cases y with
      | int i =>
        simp only [xI]
        by_cases h0 : 0 ≤ i
        · rw [if_pos h0]; simp only [h0, true_and]
          cases xs[i.toNat]? with
          | none => rfl
          | some x =>
            simp only [vO_some]
            rw [vZ_stm]; congr 1; funext u τ2
            cases kt x u with
            | none => rfl
            | some z =>
              cases owL τ2 k with
              | none => rfl
              | some xs' =>
                simp only [vO_some]
                cases L2.ixN xs'.length i <;> rfl
        · rw [if_neg h0]; simp only [h0, false_and]; rfl
      | _ => rfl
/-! functions -/
def fnK (P : List Nat) (Q : T → TSt → Prop) (X : TExn → TSt → Prop) : TFl → TSt → Prop
  | .rt v, τ => Q v (outsT P τ)
  | .nx, τ => Q .non (outsT P τ)
  | .xc x, τ => X x (outsT P τ)
  | _, _ => False
theorem v_fnT {n : Nat} {P : List Nat} {x : TSx} {vs : List SV} : vE (fnT n P x vs) Q X = vZ (x (startT n vs)) (fnK P Q X) := by
  unfold fnT
  cases x (startT n vs) with
  | none => rfl
  | some r => obtain ⟨f, τ1⟩ := r; cases f <;> rfl
def foK (Q : T → TSt → Prop) (X : TExn → TSt → Prop) : TFl → TSt → Prop
  | .rt v, _ => Q v []
  | .xc x, _ => X x []
  | _, _ => False
theorem v_fnTo {n : Nat} {x : TSx} {vs : List SV} : vE (fnTo n x vs) Q X = vZ (x (startT n vs)) (foK Q X) := by
  unfold fnTo
  cases x (startT n vs) with
  | none => rfl
  | some r => obtain ⟨f, τ1⟩ := r; cases f <;> rfl
theorem v_retO {k : Nat} : vZ (zRetO k τ) QS = vO (owAt τ k) fun t => QS (.rt t) τ := by
  unfold zRetO
  cases owAt τ k <;> rfl
theorem vfnK_rt {P : List Nat} {v : T} : fnK P Q X (.rt v) τ = Q v (outsT P τ) := rfl
theorem vfnK_nx {P : List Nat} : fnK P Q X .nx τ = Q .non (outsT P τ) := rfl
theorem vfnK_xc {P : List Nat} {x : TExn} : fnK P Q X (.xc x) τ = X x (outsT P τ) := rfl
/-! tests that store -/
theorem v_ifW {w : TTw} {x y : TSx} : vZ (zIfW w x y τ) QS = vO (w τ) fun p => if p.1 then vZ (x p.2) QS else vZ (y p.2) QS := by
  unfold zIfW
  cases w τ with
  | none => rfl
  | some r => obtain ⟨k, τ1⟩ := r; cases k <;> rfl
theorem vO_okT {α : Type} {r : RT α} {Q : α × TSt → Prop} : vO (okT r) Q = vE r (fun a τ => Q (a, τ)) xF := by cases r <;> rfl
theorem v_wOf {Q : Bool × TSt → Prop} : vO (wOf p τ) Q = vE (p τ) (fun k τ1 => Q (k, τ1)) xF := by unfold wOf; rw [vO_okT]
theorem v_wNt {w : TTw} {Q : Bool × TSt → Prop} : vO (wNt w τ) Q = vO (w τ) fun p => Q (!p.1, p.2) := by unfold wNt; rw [vO_map]
theorem v_wOr {w : TTw} {Q : Bool × TSt → Prop} : vO (wOr p w τ) Q = vE (p τ) (fun k τ1 => if k then Q (true, τ1) else vO (w τ1) Q) xF := by
  unfold wOr; rw [vO_bind, vO_okT]; congr 1; funext k τ1; cases k <;> rfl
def xB (v : T) (Q : Bool → Prop) : Prop := match v with
  | .bl i => Q i
  | _ => False
theorem vxB_bl {i : Bool} {Q : Bool → Prop} : xB (.bl i) Q = Q i := rfl
theorem v_wCall {f : Ft} {i : Nat} {Q : Bool × TSt → Prop} : vO (wCall f i a ta τ) Q = vE (a τ) (fun v τ1 => vE (ta (τ1.set i (some (.fz v)))) (fun xs τ2 => vE (f ((v :: xs).map .fz)) (fun u _ => xB u fun k => Q (k, τ2)) xF) xF) xF := by
  unfold wCall; rw [vO_bind, vO_okT]; congr 1; funext v τ1; simp only []; rw [vO_bind, vO_okT]; congr 1; funext xs τ2
  cases f ((v :: xs).map .fz) with
  | no => rfl
  | ex _ _ => rfl
  | ok u os => cases u <;> rfl
end
/-! ### slots, written out -/
section
variable {s : Option SV} {τ : TSt} {n : Nat} {t : T} {ts : List T}
theorem fz_0 : fzAt (some (.fz t) :: τ) 0 = some t := rfl
theorem fz_s : fzAt (s :: τ) (n + 1) = fzAt τ n := by unfold fzAt; rw [List.getElem?_cons_succ]
theorem ow_0 : owAt (some (.ow t) :: τ) 0 = some t := rfl
theorem ow_s : owAt (s :: τ) (n + 1) = owAt τ n := by unfold owAt; rw [List.getElem?_cons_succ]
theorem owL_0 : owL (some (.ow (.lst ts)) :: τ) 0 = some ts := rfl
theorem owL_s : owL (s :: τ) (n + 1) = owL τ n := by unfold owL; rw [List.getElem?_cons_succ]
theorem frz_0 : frzT (some (.ow t) :: τ) 0 = some (.fz t) :: τ := rfl
theorem frz_s : frzT (s :: τ) (n + 1) = s :: frzT τ n := by
  unfold frzT
  rw [List.getElem?_cons_succ]
  cases τ[n]? with
  | none => rfl
  | some x => cases x with
    | none => rfl
    | some y => cases y <;> rfl
theorem set_0 {x : Option SV} : (s :: τ).set 0 x = x :: τ := rfl
theorem set_s {x : Option SV} : (s :: τ).set (n + 1) x = s :: τ.set n x := rfl
theorem outs_nil : outsT [] τ = [] := rfl
theorem outs_0 : outsT [0] (s :: τ) = [s] := rfl
end
end Mc

namespace Mc
open PySem
/-- so that what follows is not looked at ahead of its time -/
inductive Dm {α : Type} (Q : α) : Type where
  | mk
@[irreducible] def uE {α : Type} (r : RT α) (Q : α → TSt → Prop) (X : TExn → TSt → Prop) (d : Dm (Q, X) := .mk) : Prop := vE r Q X
@[irreducible] def uO {α : Type} (o : Option α) (Q : α → Prop) (d : Dm Q := .mk) : Prop := vO o Q
@[irreducible] def uZ (r : TRS) (Q : TFl → TSt → Prop) (d : Dm Q := .mk) : Prop := vZ r Q
section
variable {α β : Type} {Q : α → TSt → Prop} {τ : TSt} {QS : TFl → TSt → Prop} {QO : α → Prop} {X : TExn → TSt → Prop}
theorem uE_congr {r r' : RT α} (h : r = r') : uE r Q X = uE r' Q X := by with_unfolding_all exact vE_congr h
theorem uO_congr {r r' : Option α} (h : r = r') : uO r QO = uO r' QO := by with_unfolding_all exact vO_congr h
theorem uZ_congr {r r' : TRS} (h : r = r') : uZ r QS = uZ r' QS := by with_unfolding_all exact vZ_congr h
theorem uE_ok {a : α} : uE (.ok a τ) Q X = Q a τ := by with_unfolding_all exact vE_ok
theorem uE_ex {x : TExn} : uE (.ex x τ : RT α) Q X = X x τ := by with_unfolding_all exact vE_ex
theorem uE_bind {r : RT β} {k : β → TSt → RT α} : uE (r.bind k) Q X = uE r (fun a τ => uE (k a τ) Q X) X := by with_unfolding_all exact vE_bind
theorem uZ_stm {r : RT β} {k : β → TSt → TRS} : uZ (r.stm k) QS = uE r (fun a τ => uZ (k a τ) QS) (fun x τ => QS (.xc x) τ) := by with_unfolding_all exact vZ_stm
theorem uO_some {a : α} : uO (some a) QO = QO a := by with_unfolding_all exact vO_some
theorem uO_none : uO (none : Option α) QO = False := by with_unfolding_all exact vO_none
theorem uO_map {o : Option β} {f : β → α} : uO (o.map f) QO = uO o fun a => QO (f a) := by with_unfolding_all exact vO_map
theorem uO_bind {o : Option β} {f : β → Option α} : uO (o.bind f) QO = uO o fun a => uO (f a) QO := by with_unfolding_all exact vO_bind
theorem uO_if {c : Prop} [Decidable c] {o : Option α} : uO (if c then o else none) QO = (c ∧ uO o QO) := by with_unfolding_all exact vO_if
theorem uE_opt {o : Option α} : uE (opt o τ) Q X = uO o fun a => Q a τ := by with_unfolding_all exact vE_opt
theorem uE_ite {c : Prop} [Decidable c] {a b : RT α} : uE (if c then a else b) Q X = if c then uE a Q X else uE b Q X := by with_unfolding_all exact vE_ite
theorem uZ_ite {c : Prop} [Decidable c] {a b : TRS} : uZ (if c then a else b) QS = if c then uZ a QS else uZ b QS := by with_unfolding_all exact vZ_ite
theorem uE.get {r : RT α} (h : uE r Q xF) : ∃ a τ, r = .ok a τ ∧ Q a τ := by with_unfolding_all exact vE.get h
theorem uE.of {r : RT α} {a : α} (e : r = .ok a τ) (q : Q a τ) : uE r Q X := by with_unfolding_all exact vE.of e q
theorem uE.imp {r : RT α} {Q' : α → TSt → Prop} (g : uE r Q X) (f : ∀ a τ, Q a τ → Q' a τ) : uE r Q' X := by with_unfolding_all exact vE.imp g f
theorem uZ.imp {r : TRS} {Q' : TFl → TSt → Prop} (g : uZ r QS) (f : ∀ a τ, QS a τ → Q' a τ) : uZ r Q' := by with_unfolding_all exact vZ.imp g f
theorem uO.get {o : Option α} (h : uO o QO) : ∃ a, o = some a ∧ QO a := by with_unfolding_all exact vO.get h
end
section
variable {Q : T → TSt → Prop} {QB : Bool → TSt → Prop} {QL : List T → TSt → Prop} {QI : Option Int → TSt → Prop} {QS : TFl → TSt → Prop} {X : TExn → TSt → Prop} {τ : TSt} {t u : T} {a b c : TEx} {p q : TTx} {ta tk : TAx}
theorem u_eV {i : Nat} : uE (eV i τ) Q X = uO (fzAt τ i) fun v => Q v τ := by with_unfolding_all exact v_eV
theorem u_eC : uE (eC t τ) Q X = Q t τ := by with_unfolding_all exact v_eC
theorem u_e1 {k : T → Option T} : uE (e1 k a τ) Q X = uE (a τ) (fun x τ1 => uO (k x) fun v => Q v τ1) X := by with_unfolding_all exact v_e1
theorem u_e2 {k : T → T → Option T} : uE (e2 k a b τ) Q X = uE (a τ) (fun x τ1 => uE (b τ1) (fun y τ2 => uO (k x y) fun v => Q v τ2) X) X := by with_unfolding_all exact v_e2
theorem u_aNil : uE (aNil τ) QL X = QL [] τ := by with_unfolding_all exact v_aNil
theorem u_aCons : uE (aCons a ta τ) QL X = uE (a τ) (fun x τ1 => uE (ta τ1) (fun xs τ2 => QL (x :: xs) τ2) X) X := by with_unfolding_all exact v_aCons
theorem u_eArg {k : List T → Option T} : uE (eArg k ta τ) Q X = uE (ta τ) (fun xs τ1 => uO (k xs) fun v => Q v τ1) X := by with_unfolding_all exact v_eArg
theorem uO_oB {k : Bool} {Q : Bool → Prop} : uO (oB (.bl k)) Q = Q k := by with_unfolding_all exact vO_oB
theorem u_bV : uE (bV a τ) QB X = uE (a τ) (fun x τ1 => uO (oB x) fun k => QB k τ1) X := by with_unfolding_all exact v_bV
theorem u_bTr : uE (bTr a τ) QB X = uE (a τ) (fun x τ1 => uO (oTru x) fun k => QB k τ1) X := by with_unfolding_all exact v_bTr
theorem u_bNt : uE (bNt p τ) QB X = uE (p τ) (fun k τ1 => QB (!k) τ1) X := by with_unfolding_all exact v_bNt
theorem u_bAn : uE (bAn p q τ) QB X = uE (p τ) (fun k τ1 => if k then uE (q τ1) QB X else QB false τ1) X := by with_unfolding_all exact v_bAn
theorem u_bO : uE (bO p q τ) QB X = uE (p τ) (fun k τ1 => if k then QB true τ1 else uE (q τ1) QB X) X := by with_unfolding_all exact v_bO
theorem u_bYs : uE (bYs τ) QB X = QB true τ := by with_unfolding_all exact v_bYs
theorem u_eAn : uE (eAn a b τ) Q X = uE (a τ) (fun x τ1 => uO (oB x) fun k => if k then uE (b τ1) Q X else Q (.bl false) τ1) X := by with_unfolding_all exact v_eAn
theorem u_eOr : uE (eOr a b τ) Q X = uE (a τ) (fun x τ1 => uO (oB x) fun k => if k then Q (.bl true) τ1 else uE (b τ1) Q X) X := by with_unfolding_all exact v_eOr
theorem u_eNt : uE (eNt a τ) Q X = uE (a τ) (fun x τ1 => uO (oB x) fun k => Q (.bl (!k)) τ1) X := by with_unfolding_all exact v_eNt
theorem u_eIf : uE (eIf p a b τ) Q X = uE (p τ) (fun k τ1 => if k then uE (a τ1) Q X else uE (b τ1) Q X) X := by with_unfolding_all exact v_eIf
theorem u_eCh {l : List ((T → T → Option T) × TEx)} : uE (eCh a l τ) Q X = uE (a τ) (fun x τ1 => uE (cht l x τ1) Q X) X := by with_unfolding_all exact v_eCh
theorem u_ch1 {k : T → T → Option T} : uE (cht [(k, a)] t τ) Q X = uE (a τ) (fun y τ1 => uO (k t y) fun v => Q v τ1) X := by with_unfolding_all exact v_ch1
theorem u_ch2 {k : T → T → Option T} {r : (T → T → Option T) × TEx} {l : List ((T → T → Option T) × TEx)} :
    uE (cht ((k, a) :: r :: l) t τ) Q X = uE (a τ) (fun y τ1 => uO (k t y) fun z => uO (oB z) fun k => if k then uE (cht (r :: l) y τ1) Q X else Q (.bl false) τ1) X := by with_unfolding_all exact v_ch2
theorem u_nNone : uE (nNone τ) QI X = QI none τ := by with_unfolding_all exact v_nNone
theorem u_nSome : uE (nSome a τ) QI X = uE (a τ) (fun v τ1 => uO (oI v) fun i => QI i τ1) X := by with_unfolding_all exact v_nSome
theorem uO_oI {i : Int} {Q : Option Int → Prop} : uO (oI (.int i)) Q = Q (some i) := by with_unfolding_all exact vO_oI
theorem u_eSl {l r : TOx} : uE (eSl a l r τ) Q X = uE (a τ) (fun x τ1 => uE (l τ1) (fun lo τ2 => uE (r τ2) (fun hi τ3 => uO (oSl x lo hi) fun v => Q v τ3) X) X) X := by with_unfolding_all exact v_eSl
theorem u_eMt {T' : String} {k : T → List T → Option T} : uE (eMt T' k a ta τ) Q X = uE (a τ) (fun x τ1 => tyB T' x = true ∧ uE (ta τ1) (fun ws τ2 => uO (k x ws) fun v => Q v τ2) X) X := by with_unfolding_all exact v_eMt
theorem u_dict0 : uE (eDict0 τ) Q X = Q (.dK []) τ := by with_unfolding_all exact v_dict0
theorem u_dict1 {k : L2.Key} : uE (eDict1 k t τ) Q X = Q (.dK [(k, t)]) τ := by with_unfolding_all exact v_dict1
theorem uE_has {α : Type} {QA : α → TSt → Prop} {r : RT α} {k : Nat} : uE (hasO τ k r) QA X = uO (owL τ k) fun _ => uE r QA X := by with_unfolding_all exact vE_has
theorem u_ixO {k : Nat} : uE (eIxO k a τ) Q X = uO (owL τ k) fun _ => uE (a τ) (fun y τ1 => uO (owL τ1 k) fun xs => uO (oAt xs y) fun v => Q v τ1) X := by with_unfolding_all exact v_ixO
theorem u_lenO {k : Nat} : uE (eLenO k τ) Q X = uO (owL τ k) fun xs => Q (.int xs.length) τ := by with_unfolding_all exact v_lenO
theorem u_tupO {k : Nat} : uE (eTupO k τ) Q X = uO (owL τ k) fun xs => Q (.tup xs) τ := by with_unfolding_all exact v_tupO
theorem u_appO {k : Nat} : uE (eAppO k a τ) Q X = uO (owL τ k) fun _ => uE (a τ) (fun v τ1 => uO (owL τ1 k) fun xs => xs.length < lim ∧ Q .non (τ1.set k (some (.ow (.lst (xs ++ [v])))))) X := by with_unfolding_all exact v_appO
theorem u_extO {k : Nat} {vs : List T} : uE (eExtO k (fun τ => .ok (.lst vs) τ) τ) Q X = uO (owL τ k) fun _ => uO (owL τ k) fun xs => xs.length + vs.length ≤ lim ∧ Q .non (τ.set k (some (.ow (.lst (xs ++ vs))))) := by with_unfolding_all exact v_extO
theorem u_ext {k : Nat} : uE (eExtO k a τ) Q X = uO (owL τ k) fun _ => uE (a τ) (fun v τ1 => uO (owL τ1 k) fun xs => xL v fun ys => xs.length + ys.length ≤ lim ∧ Q .non (τ1.set k (some (.ow (.lst (xs ++ ys)))))) X := by with_unfolding_all exact v_ext
theorem xL_lst {ys : List T} {Q : List T → Prop} : xL (.lst ys) Q = Q ys := by with_unfolding_all exact vxL_lst
theorem uE_ret {r : RT T} : uE (retT r τ) Q X = uE r (fun v _ => Q v τ) (fun x _ => X x τ) := by with_unfolding_all exact vE_ret
theorem u_eCall {f : Ft} : uE (eCall f ta τ) Q X = uE (ta τ) (fun xs τ1 => uE (f (xs.map .fz)) (fun v _ => Q v τ1) (fun x _ => X x τ1)) X := by with_unfolding_all exact v_eCall
theorem u_eCallK {f : Ft} {is : List Nat} {dT : List T} : uE (eCallK f is dT ta tk τ) Q X = uE (ta τ) (fun xs τ1 => uE (tk τ1) (fun zs τ2 => uE (f ((sel is (xs ++ zs ++ dT)).map .fz)) (fun v _ => Q v τ2) (fun x _ => X x τ2)) X) X := by with_unfolding_all exact v_eCallK
theorem o1_eq {t : T} {Q : T → Prop} : o1 [some (.ow t)] Q = Q t := by with_unfolding_all exact vo1_eq
theorem u_eCallS {f : Ft} {k : Nat} : uE (eCallS f k ta τ) Q X = uO (owAt τ k) fun _ => uE (ta τ) (fun xs τ1 => uO (owAt τ1 k) fun t => uE (f (.ow t :: xs.map .fz)) (fun v os => o1 os fun t' => Q v (τ1.set k (some (.ow t')))) (fun x os => o1 os fun t' => X x (τ1.set k (some (.ow t'))))) X := by with_unfolding_all exact v_eCallS
theorem u_eCallT {f : Ft} : uE (eCallT f a τ) Q X = uE (a τ) (fun u τ1 => uE (f [.ow u]) (fun v os => o1 os fun _ => Q v τ1) (fun x os => o1 os fun _ => X x τ1)) X := by with_unfolding_all exact v_eCallT
theorem mk1_eq {t : T} {Q : T → Prop} : mk1 .non [some (.ow t)] Q = Q t := by with_unfolding_all exact vmk1_eq
theorem u_makeG {C : Str} {f : Ft} {xs : List T} : uE (eMakeG C f xs τ) Q X = uE (f (.ow (.ins C []) :: xs.map .fz)) (fun v os => mk1 v os fun t => Q t τ) (fun x os => o1 os fun _ => X x τ) := by with_unfolding_all exact v_makeG
theorem u_eMake {C : Str} {f : Ft} : uE (eMake C f ta τ) Q X = uE (ta τ) (fun xs τ1 => uE (f (.ow (.ins C []) :: xs.map .fz)) (fun v os => mk1 v os fun t => Q t τ1) (fun x os => o1 os fun _ => X x τ1)) X := by with_unfolding_all exact v_eMake
theorem u_eMakeK {C : Str} {f : Ft} {is : List Nat} {dT : List T} : uE (eMakeK C f is dT ta tk τ) Q X = uE (ta τ) (fun xs τ1 => uE (tk τ1) (fun zs τ2 => uE (f (.ow (.ins C []) :: (sel is (xs ++ zs ++ dT)).map .fz)) (fun v os => mk1 v os fun t => Q t τ2) (fun x os => o1 os fun _ => X x τ2)) X) X := by with_unfolding_all exact v_eMakeK
theorem u_eMeth {C m : Str} {f : Ft} : uE (eMeth C m f a ta τ) Q X = uE (a τ) (fun x τ0 => isC C m x = true ∧ uE (ta τ0) (fun xs τ1 => uE (f ((x :: xs).map .fz)) (fun v _ => Q v τ1) (fun x _ => X x τ1)) X) X := by with_unfolding_all exact v_eMeth
theorem u_eProp {C : Str} {f : Ft} : uE (eProp C f a τ) Q X = uE (a τ) (fun x τ0 => isC1 C x = true ∧ uE (f [.fz x]) (fun v _ => Q v τ0) xF) X := by with_unfolding_all exact v_eProp
theorem u_eFldO {cs : List Str} {f : Str} {k : Nat} : uE (eFldO cs f k τ) Q X = uO (owAt τ k) fun x => uO (oFld cs f x) fun v => Q v τ := by with_unfolding_all exact v_eFldO
theorem u_eLen {ls : List (Str × Ft)} : uE (eLen ls a τ) Q X = uE (a τ) (fun t τ1 => uE (lenG ls t τ1) Q X) X := by with_unfolding_all exact v_eLen
theorem u_lenL {ls : List (Str × Ft)} {xs : List T} : uE (lenG ls (.lst xs) τ) Q X = Q (.int xs.length) τ := by with_unfolding_all exact v_lenL
theorem u_lenF {ls : List (Str × Ft)} {xs : List T} : uE (lenG ls (.frl xs) τ) Q X = Q (.int xs.length) τ := by with_unfolding_all exact v_lenF
theorem u_lenT {ls : List (Str × Ft)} {xs : List T} : uE (lenG ls (.tup xs) τ) Q X = Q (.int xs.length) τ := by with_unfolding_all exact v_lenT
theorem u_lenK {ls : List (Str × Ft)} {xs : List T} : uE (lenG ls (.ktp xs) τ) Q X = Q (.int xs.length) τ := by with_unfolding_all exact v_lenK
theorem u_nil : uZ (zNil τ) QS = QS .nx τ := by with_unfolding_all exact v_nil
theorem u_brk : uZ (zBreak τ) QS = QS .bk τ := by with_unfolding_all exact v_brk
theorem u_cnt : uZ (zCont τ) QS = QS .ct τ := by with_unfolding_all exact v_cnt
theorem u_retN : uZ (zRetN τ) QS = QS (.rt .non) τ := by with_unfolding_all exact v_retN
theorem u_no : uZ (zNo τ) QS = False := by with_unfolding_all exact v_no
theorem u_seq {x y : TSx} : uZ (zSeq x y τ) QS = uZ (x τ) (sqK y QS) := by with_unfolding_all exact v_seq
theorem sq_nx {y : TSx} : sqK y QS .nx τ = uZ (y τ) QS := by with_unfolding_all exact vsq_nx
theorem sq_rt {y : TSx} {v : T} : sqK y QS (.rt v) τ = QS (.rt v) τ := by with_unfolding_all exact vsq_rt
theorem sq_bk {y : TSx} : sqK y QS .bk τ = QS .bk τ := by with_unfolding_all exact vsq_bk
theorem sq_ct {y : TSx} : sqK y QS .ct τ = QS .ct τ := by with_unfolding_all exact vsq_ct
theorem sq_xc {y : TSx} {x : TExn} : sqK y QS (.xc x) τ = QS (.xc x) τ := by with_unfolding_all exact vsq_xc
theorem u_drop : uZ (zDrop a τ) QS = uE (a τ) (fun _ τ1 => QS .nx τ1) (fun x τ1 => QS (.xc x) τ1) := by with_unfolding_all exact v_drop
theorem u_ret : uZ (zRet a τ) QS = uE (a τ) (fun v τ1 => QS (.rt v) τ1) (fun x τ1 => QS (.xc x) τ1) := by with_unfolding_all exact v_ret
theorem u_if {x y : TSx} : uZ (zIf p x y τ) QS = uE (p τ) (fun k τ1 => if k then uZ (x τ1) QS else uZ (y τ1) QS) (fun x τ1 => QS (.xc x) τ1) := by with_unfolding_all exact v_if
theorem uZ_nx {o : Option TSt} : uZ (oNx o) QS = uO o fun τ => QS .nx τ := by with_unfolding_all exact vZ_nx
theorem u_asg {g : TGx} : uZ (zAsg a g τ) QS = uE (a τ) (fun v τ1 => uO (g v τ1) fun τ2 => QS .nx τ2) (fun x τ1 => QS (.xc x) τ1) := by with_unfolding_all exact v_asg
theorem u_asg2 {g g' : TGx} : uZ (zAsg2 a g g' τ) QS = uE (a τ) (fun v τ1 => uO (g v τ1) fun τ2 => uO (g' v τ2) fun τ3 => QS .nx τ3) (fun x τ1 => QS (.xc x) τ1) := by with_unfolding_all exact v_asg2
theorem u_yN {i : Nat} {Q : TSt → Prop} : uO (yN i t τ) Q = Q (τ.set i (some (.fz t))) := by with_unfolding_all exact v_yN
theorem u_yTp {n : Nat} {gs : TGs} {Q : TSt → Prop} : uO (yTp n gs t τ) Q = uO (sqA t) fun xs => xs.length = n ∧ uO (gs xs τ) Q := by with_unfolding_all exact v_yTp
theorem u_ysNil {Q : TSt → Prop} : uO (ysNil [] τ) Q = Q τ := by with_unfolding_all exact v_ysNil
theorem u_ysCons {g : TGx} {gs : TGs} {ts : List T} {Q : TSt → Prop} : uO (ysCons g gs (t :: ts) τ) Q = uO (g t τ) fun τ1 => uO (gs ts τ1) Q := by with_unfolding_all exact v_ysCons
theorem xI_int {i : Int} {Q : Int → Prop} : xI (.int i) Q = Q i := by with_unfolding_all exact vxI_int
theorem u_yAt {k : Nat} {Q : TSt → Prop} : uO (yAt k a t τ) Q = uE (a τ) (fun v τ1 => xI v fun i => uO (owL τ1 k) fun xs => uO (L2.ixN xs.length i) fun j => Q (τ1.set k (some (.ow (.lst (xs.set j t)))))) xF := by with_unfolding_all exact v_yAt
theorem u_fz {k : Nat} {x : TSx} : uZ (zFz k x τ) QS = uZ (x (frzT τ k)) QS := by with_unfolding_all exact v_fz
theorem u_asgO {i : Nat} : uZ (zAsgO a i τ) QS = uE (a τ) (fun v τ1 => QS .nx (τ1.set i (some (.ow v)))) (fun x τ1 => QS (.xc x) τ1) := by with_unfolding_all exact v_asgO
theorem u_par {is : List Nat} : uZ (zPar is ta τ) QS = uE (ta τ) (fun vs τ1 => vs.length = is.length ∧ QS .nx (setAll is vs τ1)) (fun x τ1 => QS (.xc x) τ1) := by with_unfolding_all exact v_par
theorem u_parV {is : List Nat} {l : List VE} : uZ (zParV is l τ) QS = uE (evV l τ) (fun xs τ1 => QS .nx (putV is xs τ1)) (fun x τ1 => QS (.xc x) τ1) := by with_unfolding_all exact v_parV
theorem u_evN {QV : List SV → TSt → Prop} : uE (evV [] τ) QV X = QV [] τ := by with_unfolding_all exact v_evN
theorem u_evV {QV : List SV → TSt → Prop} {l : List VE} : uE (evV (.v a :: l) τ) QV X = uE (a τ) (fun x τ1 => uE (evV l τ1) (fun xs τ2 => QV (.fz x :: xs) τ2) X) X := by with_unfolding_all exact v_evV
theorem u_evO {QV : List SV → TSt → Prop} {l : List VE} : uE (evV (.o a :: l) τ) QV X = uE (a τ) (fun x τ1 => uE (evV l τ1) (fun xs τ2 => QV (.ow x :: xs) τ2) X) X := by with_unfolding_all exact v_evO
theorem u_aug {i : Nat} {k : T → T → Option T} : uZ (zAug i k a τ) QS = uO (fzAt τ i) fun x => uE (a τ) (fun y τ1 => uO (k x y) fun z => QS .nx (τ1.set i (some (.fz z)))) (fun x τ1 => QS (.xc x) τ1) := by with_unfolding_all exact v_aug
theorem u_fldS {cs : List Str} {f : Str} {k : Nat} : uZ (zFldS cs f k a τ) QS = uE (a τ) (fun v τ1 => uO (owAt τ1 k) fun x => uO (insT x) fun p => (cs.contains p.1 = true ∧ p.2.length < 100) ∧ QS .nx (τ1.set k (some (.ow (.ins p.1 (putT f v p.2)))))) (fun x τ1 => QS (.xc x) τ1) := by with_unfolding_all exact v_fldS
theorem u_augS {k : Nat} {kt : T → T → Option T} : uZ (zAugS k kt a b τ) QS = uO (owL τ k) fun _ => uE (a τ) (fun y τ1 => uO (owL τ1 k) fun xs => xI y fun i => 0 ≤ i ∧ uO xs[i.toNat]? fun x => uE (b τ1) (fun u τ2 => uO (kt x u) fun z => uO (owL τ2 k) fun xs' => uO (L2.ixN xs'.length i) fun j => QS .nx (τ2.set k (some (.ow (.lst (xs'.set j z)))))) (fun x τ1 => QS (.xc x) τ1)) (fun x τ1 => QS (.xc x) τ1) := by with_unfolding_all exact v_augS
theorem u_fnT {n : Nat} {P : List Nat} {x : TSx} {vs : List SV} : uE (fnT n P x vs) Q X = uZ (x (startT n vs)) (fnK P Q X) := by with_unfolding_all exact v_fnT
theorem u_fnTo {n : Nat} {x : TSx} {vs : List SV} : uE (fnTo n x vs) Q X = uZ (x (startT n vs)) (foK Q X) := by with_unfolding_all exact v_fnTo
theorem u_retO {k : Nat} : uZ (zRetO k τ) QS = uO (owAt τ k) fun t => QS (.rt t) τ := by with_unfolding_all exact v_retO
theorem fnK_rt {P : List Nat} {v : T} : fnK P Q X (.rt v) τ = Q v (outsT P τ) := by with_unfolding_all exact vfnK_rt
theorem fnK_nx {P : List Nat} : fnK P Q X .nx τ = Q .non (outsT P τ) := by with_unfolding_all exact vfnK_nx
theorem fnK_xc {P : List Nat} {x : TExn} : fnK P Q X (.xc x) τ = X x (outsT P τ) := by with_unfolding_all exact vfnK_xc
theorem u_ifW {w : TTw} {x y : TSx} : uZ (zIfW w x y τ) QS = uO (w τ) fun p => if p.1 then uZ (x p.2) QS else uZ (y p.2) QS := by with_unfolding_all exact v_ifW
theorem uO_okT {α : Type} {r : RT α} {Q : α × TSt → Prop} : uO (okT r) Q = uE r (fun a τ => Q (a, τ)) xF := by with_unfolding_all exact vO_okT
theorem u_wOf {Q : Bool × TSt → Prop} : uO (wOf p τ) Q = uE (p τ) (fun k τ1 => Q (k, τ1)) xF := by with_unfolding_all exact v_wOf
theorem u_wNt {w : TTw} {Q : Bool × TSt → Prop} : uO (wNt w τ) Q = uO (w τ) fun p => Q (!p.1, p.2) := by with_unfolding_all exact v_wNt
theorem u_wOr {w : TTw} {Q : Bool × TSt → Prop} : uO (wOr p w τ) Q = uE (p τ) (fun k τ1 => if k then Q (true, τ1) else uO (w τ1) Q) xF := by with_unfolding_all exact v_wOr
theorem xB_bl {i : Bool} {Q : Bool → Prop} : xB (.bl i) Q = Q i := by with_unfolding_all exact vxB_bl
theorem u_wCall {f : Ft} {i : Nat} {Q : Bool × TSt → Prop} : uO (wCall f i a ta τ) Q = uE (a τ) (fun v τ1 => uE (ta (τ1.set i (some (.fz v)))) (fun xs τ2 => uE (f ((v :: xs).map .fz)) (fun u _ => xB u fun k => Q (k, τ2)) xF) xF) xF := by with_unfolding_all exact v_wCall
end
section
variable {s : Option SV} {τ : TSt} {n : Nat} {t : T} {ts : List T}
end
end Mc

namespace Mc
open PySem
/-! ### states, written out at once -/
@[irreducible] def stK (τ : TSt) (i : Nat) (x : Option SV) (Q : TSt → Prop) (d : Dm Q := .mk) : Prop := Q (τ.set i x)
@[irreducible] def saK (is : List Nat) (vs : List T) (τ : TSt) (Q : TSt → Prop) (d : Dm Q := .mk) : Prop := Q (setAll is vs τ)
@[irreducible] def svK (is : List Nat) (vs : List SV) (τ : TSt) (Q : TSt → Prop) (d : Dm Q := .mk) : Prop := Q (putV is vs τ)
@[irreducible] def fzK (τ : TSt) (i : Nat) (Q : TSt → Prop) (d : Dm Q := .mk) : Prop := Q (frzT τ i)
@[irreducible] def inK (n : Nat) (vs : List SV) (Q : TSt → Prop) (d : Dm Q := .mk) : Prop := Q (startT n vs)
@[irreducible] def ouK (P : List Nat) (τ : TSt) (Q : TSt → Prop) (d : Dm Q := .mk) : Prop := Q (outsT P τ)
abbrev hold (P : Prop) (d : Dm P := .mk) : Prop := P
/-- a branch, not looked at until it is known -/
@[irreducible] def iK (k : Bool) (A B : Prop) (d : Dm (A, B) := .mk) : Prop := if k then A else B
theorem ik_t {A B : Prop} : iK true A B = A := by with_unfolding_all exact rfl
theorem ik_f {A B : Prop} : iK false A B = B := by with_unfolding_all exact rfl
theorem uO_of {α : Type} {o : Option α} {a : α} {Q : α → Prop} (e : o = some a) (q : Q a) : uO o Q := by
  with_unfolding_all
    rw [e]; exact q
theorem ik_split {k : Bool} {A B : Prop} (a : k = true → A) (b : k = false → B) : iK k A B := by
  with_unfolding_all
    cases k
    · exact b rfl
    · exact a rfl
section
variable {Q : T → TSt → Prop} {QT : TSt → Prop} {QB : Bool → TSt → Prop} {QL : List T → TSt → Prop} {QS : TFl → TSt → Prop} {X : TExn → TSt → Prop} {τ : TSt} {s x : Option SV} {t u : T} {a b c : TEx} {p q : TTx} {ta tk : TAx} {n i k : Nat} {v : SV} {vs : List SV} {ts : List T} {is P : List Nat}
theorem st_0 : stK (s :: τ) 0 x QT = QT (x :: τ) := by with_unfolding_all exact rfl
theorem st_s : stK (s :: τ) (n + 1) x QT = stK τ n x fun τ' => QT (s :: τ') := by with_unfolding_all exact rfl
theorem sa_nl {vs : List T} : saK [] vs τ QT = QT τ := by with_unfolding_all exact rfl
theorem sa_cs : saK (i :: is) (t :: ts) τ QT = stK τ i (some (.fz t)) fun τ' => saK is ts τ' QT := by with_unfolding_all exact rfl
theorem sv_nl {vs : List SV} : svK [] vs τ QT = QT τ := by with_unfolding_all exact rfl
theorem sv_cs : svK (i :: is) (v :: vs) τ QT = stK τ i (some v) fun τ' => svK is vs τ' QT := by with_unfolding_all exact rfl
theorem fk_0 : fzK (some (.ow t) :: τ) 0 QT = QT (some (.fz t) :: τ) := by with_unfolding_all exact rfl
theorem fk_f : fzK (some (.fz t) :: τ) 0 QT = QT (some (.fz t) :: τ) := by with_unfolding_all exact rfl
theorem fk_s : fzK (s :: τ) (n + 1) QT = fzK τ n fun τ' => QT (s :: τ') := by unfold fzK; rw [frz_s]
theorem in_z : inK 0 [] QT = QT [] := by with_unfolding_all exact rfl
theorem in_nl : inK (n + 1) [] QT = inK n [] fun τ => QT (none :: τ) := by with_unfolding_all exact rfl
theorem in_cs : inK (n + 1) (v :: vs) QT = inK n vs fun τ => QT (some v :: τ) := by
  unfold inK startT
  simp only [List.map_cons, List.length_cons, Nat.add_sub_add_right, List.cons_append]
theorem ou_nl : ouK [] τ QT = QT [] := by with_unfolding_all exact rfl
theorem ou_0 : ouK [0] (s :: τ) QT = QT [s] := by with_unfolding_all exact rfl
theorem k_yN : uO (yN i t τ) QT = stK τ i (some (.fz t)) QT := by with_unfolding_all exact rfl
theorem k_asgO : uZ (zAsgO a i τ) QS = uE (a τ) (fun v τ1 => stK τ1 i (some (.ow v)) fun τ2 => QS .nx τ2) (fun x τ1 => QS (.xc x) τ1) := by with_unfolding_all exact u_asgO
theorem k_appO : uE (eAppO k a τ) Q X = uO (owL τ k) fun _ => uE (a τ) (fun v τ1 => uO (owL τ1 k) fun xs => xs.length < lim ∧ stK τ1 k (some (.ow (.lst (xs ++ [v])))) fun τ2 => Q .non τ2) X := by with_unfolding_all exact u_appO
theorem k_ext : uE (eExtO k a τ) Q X = uO (owL τ k) fun _ => uE (a τ) (fun v τ1 => uO (owL τ1 k) fun xs => xL v fun ys => xs.length + ys.length ≤ lim ∧ stK τ1 k (some (.ow (.lst (xs ++ ys)))) fun τ2 => Q .non τ2) X := by with_unfolding_all exact u_ext
theorem k_eCallS {f : Ft} : uE (eCallS f k ta τ) Q X = uO (owAt τ k) fun _ => uE (ta τ) (fun xs τ1 => uO (owAt τ1 k) fun t => uE (f (.ow t :: xs.map .fz)) (fun v os => o1 os fun t' => stK τ1 k (some (.ow t')) fun τ2 => Q v τ2) (fun x os => o1 os fun t' => stK τ1 k (some (.ow t')) fun τ2 => X x τ2)) X := by with_unfolding_all exact u_eCallS
theorem k_par : uZ (zPar is ta τ) QS = uE (ta τ) (fun vs τ1 => vs.length = is.length ∧ saK is vs τ1 fun τ2 => QS .nx τ2) (fun x τ1 => QS (.xc x) τ1) := by with_unfolding_all exact u_par
theorem k_parV {l : List VE} : uZ (zParV is l τ) QS = uE (evV l τ) (fun xs τ1 => svK is xs τ1 fun τ2 => QS .nx τ2) (fun x τ1 => QS (.xc x) τ1) := by with_unfolding_all exact u_parV
theorem k_fz {x : TSx} : uZ (zFz k x τ) QS = fzK τ k fun τ' => uZ (x τ') QS := by with_unfolding_all exact rfl
theorem k_yAt : uO (yAt k a t τ) QT = uE (a τ) (fun v τ1 => xI v fun i => uO (owL τ1 k) fun xs => uO (L2.ixN xs.length i) fun j => stK τ1 k (some (.ow (.lst (xs.set j t)))) QT) xF := by with_unfolding_all exact u_yAt
theorem k_aug {k : T → T → Option T} : uZ (zAug i k a τ) QS = uO (fzAt τ i) fun x => uE (a τ) (fun y τ1 => uO (k x y) fun z => stK τ1 i (some (.fz z)) fun τ2 => QS .nx τ2) (fun x τ1 => QS (.xc x) τ1) := by with_unfolding_all exact u_aug
theorem k_fldS {cs : List Str} {f : Str} : uZ (zFldS cs f k a τ) QS = uE (a τ) (fun v τ1 => uO (owAt τ1 k) fun x => uO (insT x) fun p => (cs.contains p.1 = true ∧ p.2.length < 100) ∧ stK τ1 k (some (.ow (.ins p.1 (putT f v p.2)))) fun τ2 => QS .nx τ2) (fun x τ1 => QS (.xc x) τ1) := by with_unfolding_all exact u_fldS
theorem k_augS {kt : T → T → Option T} : uZ (zAugS k kt a b τ) QS = uO (owL τ k) fun _ => uE (a τ) (fun y τ1 => uO (owL τ1 k) fun xs => xI y fun i => 0 ≤ i ∧ uO xs[i.toNat]? fun x => uE (b τ1) (fun u τ2 => uO (kt x u) fun z => uO (owL τ2 k) fun xs' => uO (L2.ixN xs'.length i) fun j => stK τ2 k (some (.ow (.lst (xs'.set j z)))) fun τ3 => QS .nx τ3) (fun x τ1 => QS (.xc x) τ1)) (fun x τ1 => QS (.xc x) τ1) := by with_unfolding_all exact u_augS
theorem k_wCall {f : Ft} {Q : Bool × TSt → Prop} : uO (wCall f i a ta τ) Q = uE (a τ) (fun v τ1 => stK τ1 i (some (.fz v)) fun τ' => uE (ta τ') (fun xs τ2 => uE (f ((v :: xs).map .fz)) (fun u _ => xB u fun k => Q (k, τ2)) xF) xF) xF := by with_unfolding_all exact u_wCall
theorem k_fnT {x : TSx} : uE (fnT n P x vs) Q X = inK n vs fun τ => uZ (x τ) (fnK P Q X) := by with_unfolding_all exact u_fnT
theorem k_fnTo {x : TSx} : uE (fnTo n x vs) Q X = inK n vs fun τ => uZ (x τ) (foK Q X) := by with_unfolding_all exact u_fnTo
theorem fo_rt {v : T} : foK Q X (.rt v) τ = Q v [] := by with_unfolding_all exact rfl
theorem fo_xc {x : TExn} : foK Q X (.xc x) τ = X x [] := by with_unfolding_all exact rfl
theorem k_rt {v : T} : fnK P Q X (.rt v) τ = ouK P τ fun os => Q v os := by with_unfolding_all exact rfl
theorem k_nx : fnK P Q X .nx τ = ouK P τ fun os => Q .non os := by with_unfolding_all exact rfl
theorem k_xc {x : TExn} : fnK P Q X (.xc x) τ = ouK P τ fun os => X x os := by with_unfolding_all exact rfl
theorem k_bAn : uE (bAn p q τ) QB X = uE (p τ) (fun k τ1 => iK k (uE (q τ1) QB X) (QB false τ1)) X := by with_unfolding_all exact u_bAn
theorem k_bO : uE (bO p q τ) QB X = uE (p τ) (fun k τ1 => iK k (QB true τ1) (uE (q τ1) QB X)) X := by with_unfolding_all exact u_bO
theorem k_eAn : uE (eAn a b τ) Q X = uE (a τ) (fun x τ1 => uO (oB x) fun k => iK k (uE (b τ1) Q X) (Q (.bl false) τ1)) X := by with_unfolding_all exact u_eAn
theorem k_eOr : uE (eOr a b τ) Q X = uE (a τ) (fun x τ1 => uO (oB x) fun k => iK k (Q (.bl true) τ1) (uE (b τ1) Q X)) X := by with_unfolding_all exact u_eOr
theorem k_eIf : uE (eIf p a b τ) Q X = uE (p τ) (fun k τ1 => iK k (uE (a τ1) Q X) (uE (b τ1) Q X)) X := by with_unfolding_all exact u_eIf
theorem k_ch2 {k : T → T → Option T} {r : (T → T → Option T) × TEx} {l : List ((T → T → Option T) × TEx)} :
    uE (cht ((k, a) :: r :: l) t τ) Q X = uE (a τ) (fun y τ1 => uO (k t y) fun z => uO (oB z) fun k => iK k (uE (cht (r :: l) y τ1) Q X) (Q (.bl false) τ1)) X := by with_unfolding_all exact u_ch2
theorem k_if {x y : TSx} : uZ (zIf p x y τ) QS = uE (p τ) (fun k τ1 => iK k (uZ (x τ1) QS) (uZ (y τ1) QS)) (fun x τ1 => QS (.xc x) τ1) := by with_unfolding_all exact u_if
theorem k_ifW {w : TTw} {x y : TSx} : uZ (zIfW w x y τ) QS = uO (w τ) fun p => iK p.1 (uZ (x p.2) QS) (uZ (y p.2) QS) := by with_unfolding_all exact u_ifW
theorem k_wOr {w : TTw} {Q : Bool × TSt → Prop} : uO (wOr p w τ) Q = uE (p τ) (fun k τ1 => iK k (Q (true, τ1)) (uO (w τ1) Q)) xF := by with_unfolding_all exact u_wOr
theorem fz_n : fzAt (none :: τ) 0 = none := by with_unfolding_all exact rfl
theorem fz_o : fzAt (some (.ow t) :: τ) 0 = none := by with_unfolding_all exact rfl
/-! looks -/
theorem l_fz0 {Q : T → Prop} : uO (fzAt (some (.fz t) :: τ) 0) Q = Q t := by with_unfolding_all exact rfl
theorem l_fzs {Q : T → Prop} : uO (fzAt (s :: τ) (n + 1)) Q = uO (fzAt τ n) Q := by rw [fz_s]
theorem l_ow0 {Q : T → Prop} : uO (owAt (some (.ow t) :: τ) 0) Q = Q t := by with_unfolding_all exact rfl
theorem l_ows {Q : T → Prop} : uO (owAt (s :: τ) (n + 1)) Q = uO (owAt τ n) Q := by rw [ow_s]
theorem l_oL0 {Q : List T → Prop} : uO (owL (some (.ow (.lst ts)) :: τ) 0) Q = Q ts := by with_unfolding_all exact rfl
theorem l_oLs {Q : List T → Prop} : uO (owL (s :: τ) (n + 1)) Q = uO (owL τ n) Q := by rw [owL_s]
/-! operations on what is known -/
section
variable {i j : Int} {Q : T → Prop} {y z : Str} {xs ys : List T} {C : Str} {fs : List (Str × T)} {cs : List Str} {f : Str}
theorem a_add : uO (oAdd (.int i) (.int j)) Q = Q (.int (i + j)) := by with_unfolding_all exact rfl
theorem a_addL : uO (oAdd (.lst xs) (.lst ys)) Q = (xs.length + ys.length ≤ lim ∧ Q (.lst (xs ++ ys))) := by with_unfolding_all exact uO_if
theorem a_addT : uO (oAdd (.tup xs) (.tup ys)) Q = (xs.length + ys.length ≤ lim ∧ Q (.tup (xs ++ ys))) := by with_unfolding_all exact uO_if
theorem a_addS : uO (oAdd (.str y) (.str z)) Q = (y.length + z.length ≤ lim ∧ Q (.str (y ++ z))) := by with_unfolding_all exact uO_if
theorem a_sub : uO (oSub (.int i) (.int j)) Q = Q (.int (i - j)) := by with_unfolding_all exact rfl
theorem a_mul : uO (oMul (.int i) (.int j)) Q = ((smallI i || smallI j) = true ∧ Q (.int (i * j))) := by with_unfolding_all exact uO_if
theorem a_div : uO (oDiv (.int i) (.int j)) Q = ((0 < j ∧ j < 1073741824) ∧ Q (.int (i / j))) := by
  with_unfolding_all
    unfold oDiv nOpC; rw [uO_if]; simp only [Bool.and_eq_true, decide_eq_true_eq]; rfl
theorem a_mod : uO (oMod (.int i) (.int j)) Q = (0 < j ∧ Q (.int (i % j))) := by
  with_unfolding_all
    unfold oMod nOpC; rw [uO_if]; simp only [decide_eq_true_eq]; rfl
theorem a_pow : uO (oPow (.int i) (.int j)) Q = (((0 ≤ j ∧ j ≤ 1000) ∧ i.natAbs < 1000) ∧ Q (.int (i ^ j.toNat))) := by
  with_unfolding_all
    unfold oPow nOpC; rw [uO_if]; simp only [Bool.and_eq_true, decide_eq_true_eq]; rfl
theorem a_lt : uO (oLt (.int i) (.int j)) Q = Q (.bl (decide (i < j))) := by with_unfolding_all exact rfl
theorem a_le : uO (oLe (.int i) (.int j)) Q = Q (.bl (decide (i ≤ j))) := by with_unfolding_all exact rfl
theorem a_gt : uO (oGt (.int i) (.int j)) Q = Q (.bl (decide (j < i))) := by with_unfolding_all exact rfl
theorem a_ge : uO (oGe (.int i) (.int j)) Q = Q (.bl (decide (j ≤ i))) := by with_unfolding_all exact rfl
theorem a_eqI : uO (oEq (.int i) (.int j)) Q = Q (.bl (decide (i = j))) := by with_unfolding_all exact rfl
theorem a_eqS : uO (oEq (.str y) (.str z)) Q = Q (.bl (decide (y = z))) := by with_unfolding_all exact rfl
theorem a_neI : uO (oNe (.int i) (.int j)) Q = Q (.bl (!decide (i = j))) := by with_unfolding_all exact rfl
theorem a_neS : uO (oNe (.str y) (.str z)) Q = Q (.bl (!decide (y = z))) := by with_unfolding_all exact rfl
theorem a_neg : uO (oNeg (.int i)) Q = Q (.int (-i)) := by with_unfolding_all exact rfl
theorem a_isN : uO (oIsN t .non) Q = Q (.bl (isNon t)) := by with_unfolding_all exact rfl
theorem a_notN : uO (oNotN t .non) Q = Q (.bl (!isNon t)) := by with_unfolding_all exact rfl
theorem a_ixL : uO (oIx (.lst xs) (.int i)) Q = uO (L2.atI xs i) Q := by with_unfolding_all exact rfl
theorem a_ixF : uO (oIx (.frl xs) (.int i)) Q = uO (L2.atI xs i) Q := by with_unfolding_all exact rfl
theorem a_ixT : uO (oIx (.tup xs) (.int i)) Q = uO (L2.atI xs i) Q := by with_unfolding_all exact rfl
theorem a_ixK : uO (oIx (.ktp xs) (.int i)) Q = uO (L2.atI xs i) Q := by with_unfolding_all exact rfl
theorem a_at : uO (oAt xs (.int i)) Q = uO (L2.atI xs i) Q := by with_unfolding_all exact rfl
theorem a_tup : uO (oTup xs) Q = (xs.length ≤ lim ∧ Q (.tup xs)) := by with_unfolding_all exact uO_if
theorem a_lst : uO (oLst xs) Q = (xs.length ≤ lim ∧ Q (.lst xs)) := by with_unfolding_all exact uO_if
theorem a_abs : uO (oAbs [.int i]) Q = Q (.int (if i < 0 then -i else i)) := by with_unfolding_all exact rfl
theorem a_min : uO (oMin [.int i, .int j]) Q = Q (.int (if j < i then j else i)) := by with_unfolding_all exact rfl
theorem a_max : uO (oMax [.int i, .int j]) Q = Q (.int (if j > i then j else i)) := by with_unfolding_all exact rfl
theorem a_divmod : uO (oDivmod [.int i, .int j]) Q = ((0 < j ∧ j < 1073741824) ∧ Q (.tup [.int (i / j), .int (i % j)])) := by with_unfolding_all exact uO_if
theorem a_tupL : uO (oTuple [.lst xs]) Q = Q (.tup xs) := by with_unfolding_all exact rfl
theorem a_tupT : uO (oTuple [.tup xs]) Q = Q (.tup xs) := by with_unfolding_all exact rfl
theorem a_listL : uO (oList [.lst xs]) Q = Q (.lst xs) := by with_unfolding_all exact rfl
theorem a_listT : uO (oList [.tup xs]) Q = Q (.lst xs) := by with_unfolding_all exact rfl
theorem a_slL {lo hi : Option Int} : uO (oSl (.lst xs) lo hi) Q = Q (.lst (cutT xs lo hi)) := by with_unfolding_all exact rfl
theorem a_slF {lo hi : Option Int} : uO (oSl (.frl xs) lo hi) Q = Q (.lst (cutT xs lo hi)) := by with_unfolding_all exact rfl
theorem a_slT {lo hi : Option Int} : uO (oSl (.tup xs) lo hi) Q = Q (.tup (cutT xs lo hi)) := by with_unfolding_all exact rfl
theorem a_fld : uO (oFld cs f (.ins C fs)) Q = (cs.contains C = true ∧ uO (fs.lookup f) Q) := by with_unfolding_all exact uO_if
theorem a_ins {Q : Str × List (Str × T) → Prop} : uO (insT (.ins C fs)) Q = Q (C, fs) := by with_unfolding_all exact rfl
theorem a_truB {k : Bool} {Q : Bool → Prop} : uO (oTru (.bl k)) Q = Q k := by with_unfolding_all exact rfl
theorem a_truI {Q : Bool → Prop} : uO (oTru (.int i)) Q = Q (i != 0) := by with_unfolding_all exact rfl
theorem a_truN {Q : Bool → Prop} : uO (oTru .non) Q = Q false := by with_unfolding_all exact rfl
theorem a_truL {Q : Bool → Prop} : uO (oTru (.lst xs)) Q = Q (!xs.isEmpty) := by with_unfolding_all exact rfl
theorem a_truT {Q : Bool → Prop} : uO (oTru (.tup xs)) Q = Q (!xs.isEmpty) := by with_unfolding_all exact rfl
theorem a_sqL {Q : List T → Prop} : uO (sqA (.lst xs)) Q = Q xs := by with_unfolding_all exact rfl
theorem a_sqF {Q : List T → Prop} : uO (sqA (.frl xs)) Q = Q xs := by with_unfolding_all exact rfl
theorem a_sqT {Q : List T → Prop} : uO (sqA (.tup xs)) Q = Q xs := by with_unfolding_all exact rfl
theorem a_sqK {Q : List T → Prop} : uO (sqA (.ktp xs)) Q = Q xs := by with_unfolding_all exact rfl
theorem a_rg1 {Q : List T → Prop} : uO (oRg1 [.int j]) Q = (inR j = true ∧ Q (rgT 0 j.toNat)) := by with_unfolding_all exact uO_if
theorem a_rg2 {Q : List T → Prop} : uO (oRg2 [.int i, .int j]) Q = ((inR i && inR j) = true ∧ Q (rgT i (j - i).toNat)) := by with_unfolding_all exact uO_if
theorem a_lrg : uO (oLrg (.int i) (.int j)) Q = ((inR i && inR j && decide ((j - i).toNat ≤ lim)) = true ∧ Q (.lst (rgT i (j - i).toNat))) := by with_unfolding_all exact uO_if
theorem a_enL {Q : List T → Prop} : uO (oEn [.lst xs]) Q = Q (enT xs) := by with_unfolding_all exact rfl
theorem a_enT {Q : List T → Prop} : uO (oEn [.tup xs]) Q = Q (enT xs) := by with_unfolding_all exact rfl
theorem a_isi {isa : Ty → Ty → Option Bool} {ty ty' : Ty} (h : tyT t = some ty') : uO (oIsi isa ty t) Q = uO (isa ty' ty) fun b => Q (.bl b) := by unfold oIsi; rw [h, Option.bind_some, uO_map]
theorem a_isiI {isa : Ty → Ty → Option Bool} {ty : Ty} : uO (oIsi isa ty (.int i)) Q = uO (isa (.b "int") ty) fun b => Q (.bl b) := by with_unfolding_all exact a_isi rfl
theorem a_isiB {isa : Ty → Ty → Option Bool} {ty : Ty} {k : Bool} : uO (oIsi isa ty (.bl k)) Q = uO (isa (.b "bool") ty) fun b => Q (.bl b) := by with_unfolding_all exact a_isi rfl
theorem a_isiN {isa : Ty → Ty → Option Bool} {ty : Ty} : uO (oIsi isa ty .non) Q = uO (isa (.b "NoneType") ty) fun b => Q (.bl b) := by with_unfolding_all exact a_isi rfl
theorem a_isiS {isa : Ty → Ty → Option Bool} {ty : Ty} : uO (oIsi isa ty (.str y)) Q = uO (isa (.b "str") ty) fun b => Q (.bl b) := by with_unfolding_all exact a_isi rfl
theorem a_isiL {isa : Ty → Ty → Option Bool} {ty : Ty} : uO (oIsi isa ty (.lst xs)) Q = uO (isa (.b "list") ty) fun b => Q (.bl b) := by with_unfolding_all exact a_isi rfl
theorem a_isiT {isa : Ty → Ty → Option Bool} {ty : Ty} : uO (oIsi isa ty (.tup xs)) Q = uO (isa (.b "tuple") ty) fun b => Q (.bl b) := by with_unfolding_all exact a_isi rfl
theorem a_isiD {isa : Ty → Ty → Option Bool} {ty : Ty} {l : List (L2.Key × T)} : uO (oIsi isa ty (.dK l)) Q = uO (isa (.b "dict") ty) fun b => Q (.bl b) := by with_unfolding_all exact a_isi rfl
theorem a_isiC {isa : Ty → Ty → Option Bool} {ty : Ty} : uO (oIsi isa ty (.ins C fs)) Q = uO (isa (.c C) ty) fun b => Q (.bl b) := by with_unfolding_all exact a_isi rfl
end
section
variable {x0 x1 x2 x3 x4 x5 x6 x7 x8 : T} {l : List T}
theorem at_0 : L2.atI (x0 :: l) 0 = some x0 := by
  refine atI_of (j := 0) ?_ rfl
  have : (0 : Int) < (l.length : Int) + 1 := by omega
  simp [L2.ixN, this]
theorem at_s {n : Nat} : L2.atI (x0 :: l) ((n + 1 : Nat) : Int) = L2.atI l (n : Nat) := by
  unfold L2.atI L2.ixN
  have a : (0 : Int) ≤ ((n + 1 : Nat) : Int) := by omega
  have b : (0 : Int) ≤ (n : Nat) := by omega
  rw [if_pos a, if_pos b]
  by_cases h : (n : Int) < (l.length : Int)
  · rw [if_pos h, if_pos (by simp only [List.length_cons]; omega)]
    simp only [Option.bind_some, Int.toNat_natCast, List.getElem?_cons_succ]
  · rw [if_neg h, if_neg (by simp only [List.length_cons]; omega)]; rfl
theorem at_1 : L2.atI (x0 :: x1 :: l) 1 = some x1 := (at_s (n := 0)).trans at_0
theorem at_2 : L2.atI (x0 :: x1 :: x2 :: l) 2 = some x2 := (at_s (n := 1)).trans at_1
theorem at_3 : L2.atI (x0 :: x1 :: x2 :: x3 :: l) 3 = some x3 := (at_s (n := 2)).trans at_2
theorem at_4 : L2.atI (x0 :: x1 :: x2 :: x3 :: x4 :: l) 4 = some x4 := (at_s (n := 3)).trans at_3
theorem at_5 : L2.atI (x0 :: x1 :: x2 :: x3 :: x4 :: x5 :: l) 5 = some x5 := (at_s (n := 4)).trans at_4
theorem at_6 : L2.atI (x0 :: x1 :: x2 :: x3 :: x4 :: x5 :: x6 :: l) 6 = some x6 := (at_s (n := 5)).trans at_5
theorem ixN_of {n : Nat} {i : Int} (a : 0 ≤ i) (b : i < n) : L2.ixN n i = some i.toNat := by unfold L2.ixN; rw [if_pos a, if_pos b]
theorem ix_0 : L2.ixN (x0 :: l).length 0 = some 0 := ixN_of (by decide) (by simp only [List.length_cons]; omega)
theorem ix_1 : L2.ixN (x0 :: x1 :: l).length 1 = some 1 := ixN_of (by decide) (by simp only [List.length_cons]; omega)
theorem ix_2 : L2.ixN (x0 :: x1 :: x2 :: l).length 2 = some 2 := ixN_of (by decide) (by simp only [List.length_cons]; omega)
end
theorem bls_map {bs : List Bool} : blsT (bs.map .bl) = some bs := by
  induction bs with
  | nil => rfl
  | cons b bs ih => simp only [List.map_cons, blsT, ih, Option.map_some]
theorem ints_map {bs : List Int} : intsT (bs.map .int) = some bs := by
  induction bs with
  | nil => rfl
  | cons b bs ih => simp only [List.map_cons, intsT, ih, Option.map_some]
theorem a_all {bs : List Bool} {Q : T → Prop} : uO (oAll [.lst (bs.map .bl)]) Q = Q (.bl (bs.all id)) := by
  simp only [oAll, sqL, Option.bind_some, bls_map, Option.map_some, uO_some]
theorem a_any {bs : List Bool} {Q : T → Prop} : uO (oAny [.lst (bs.map .bl)]) Q = Q (.bl (bs.any id)) := by
  simp only [oAny, sqL, Option.bind_some, bls_map, Option.map_some, uO_some]
theorem a_sum {bs : List Int} {Q : T → Prop} : uO (oSum [.lst (bs.map .int)]) Q = Q (.int bs.sum) := by
  simp only [oSum, sqL, Option.bind_some, ints_map, Option.map_some, uO_some]
theorem a_sumL {bs : List Int} {Q : T → Prop} : uO (oSumA [.lst (bs.map .int)]) Q = Q (.int bs.sum) := by
  simp only [oSumA, sqA, Option.bind_some, ints_map, Option.map_some, uO_some]
theorem a_sumT {bs : List Int} {Q : T → Prop} : uO (oSumA [.tup (bs.map .int)]) Q = Q (.int bs.sum) := by
  simp only [oSumA, sqA, Option.bind_some, ints_map, Option.map_some, uO_some]
theorem small_of {i : Int} (a : -18446744073709551616 < i) (b : i < 18446744073709551616) : smallI i = true := by simp [smallI, a, b]
theorem small_l {i j : Int} (a : smallI i = true) : (smallI i || smallI j) = true := by rw [a] <;> rfl
theorem small_r {i j : Int} (a : smallI j = true) : (smallI i || smallI j) = true := by rw [a, Bool.or_true]
theorem inR_of {j : Int} (a : -1000000000 ≤ j) (b : j ≤ 1000000000) : inR j = true := by simp [inR, a, b]
/-! iterables -/
theorem u_jS : uE (jS a τ) QL X = uE (a τ) (fun v τ1 => uO (sqA v) fun xs => QL xs τ1) X := by
  with_unfolding_all
    unfold jS
    show vE _ _ _ = _
    rw [vE_bind]
    show _ = vE _ _ _
    congr 1; funext v τ1; exact vE_opt
theorem u_jA {k : List T → Option (List T)} : uE (jA k ta τ) QL X = uE (ta τ) (fun vs τ1 => uO (k vs) fun xs => QL xs τ1) X := by
  with_unfolding_all
    unfold jA
    show vE _ _ _ = _
    rw [vE_bind]
    show _ = vE _ _ _
    congr 1; funext v τ1; exact vE_opt
/-- a loop -/
@[irreducible] def lpK (g : TGx) (b : TSx) (ts : List T) (τ : TSt) (Q : TFl → TSt → Prop) (d : Dm Q := .mk) : Prop := vZ (loopT g b ts τ) Q
theorem k_for {ti : TIx} {g : TGx} {y : TSx} : uZ (zFor ti g y τ) QS = uE (ti τ) (fun ts τ1 => lpK g y ts τ1 QS) (fun x τ1 => QS (.xc x) τ1) := by
  with_unfolding_all
    unfold zFor
    show vZ _ _ = _
    rw [vZ_stm]; rfl
def bdK (I : TSt → Prop) (Q : TFl → TSt → Prop) : TFl → TSt → Prop
  | .nx, τ => I τ
  | .ct, τ => I τ
  | .bk, τ => Q .nx τ
  | .rt v, τ => Q (.rt v) τ
  | .xc x, τ => Q (.xc x) τ
theorem bd_nx {I : TSt → Prop} : bdK I QS .nx τ = I τ := by with_unfolding_all exact rfl
theorem bd_ct {I : TSt → Prop} : bdK I QS .ct τ = I τ := by with_unfolding_all exact rfl
theorem bd_bk {I : TSt → Prop} : bdK I QS .bk τ = QS .nx τ := by with_unfolding_all exact rfl
theorem bd_rt {I : TSt → Prop} {v : T} : bdK I QS (.rt v) τ = QS (.rt v) τ := by with_unfolding_all exact rfl
theorem bd_xc {I : TSt → Prop} {v : TExn} : bdK I QS (.xc v) τ = QS (.xc v) τ := by with_unfolding_all exact rfl
theorem lp_nil {g : TGx} {y : TSx} : lpK g y [] τ QS = QS .nx τ := by with_unfolding_all exact rfl
theorem lp_cons {g : TGx} {y : TSx} : lpK g y (t :: ts) τ QS = uO (g t τ) fun τ1 => uZ (y τ1) (bdK (fun τ2 => lpK g y ts τ2 QS) QS) := by
  with_unfolding_all
    unfold lpK
    simp only [loopT]
    show _ = vO _ _
    cases g t τ with
    | none => rfl
    | some τ1 =>
      show _ = vZ (y τ1) _
      simp only []
      cases y τ1 with
      | none => rfl
      | some r => obtain ⟨f, τ2⟩ := r; cases f <;> rfl
/-- by an invariant: what was gone through, what is left -/
theorem lp_inv {g : TGx} {y : TSx} (I : List T → List T → TSt → Prop) (i0 : I [] ts τ) (st : ∀ d t r τ, ts = d ++ t :: r → I d (t :: r) τ → uO (g t τ) fun τ1 => uZ (y τ1) (bdK (fun τ2 => hold (I (d ++ [t]) r τ2)) QS))
    (fin : ∀ τ, I ts [] τ → QS .nx τ) : lpK g y ts τ QS := by
  with_unfolding_all
    have go : ∀ r d τ, ts = d ++ r → I d r τ → lpK g y r τ QS := by
      intro r
      induction r with
      | nil => intro d τ e h; rw [lp_nil]; apply fin; rw [e, List.append_nil]; exact h
      | cons t r ih =>
        intro d τ e h
        rw [lp_cons]
        have z := st d t r τ e h
        revert z
        show vO _ _ → vO _ _
        cases g t τ with
        | none => exact id
        | some τ1 =>
          intro z
          refine vZ.imp z fun f τ2 z => ?_
          cases f with
          | nx => exact ih (d ++ [t]) τ2 (by rw [e, List.append_assoc] <;> rfl) z
          | ct => exact ih (d ++ [t]) τ2 (by rw [e, List.append_assoc] <;> rfl) z
          | bk => exact z
          | rt v => exact z
          | xc v => exact z
    exact go ts [] τ rfl i0
/-- by an index -/
theorem lp_ix {g : TGx} {y : TSx} (I : Nat → TSt → Prop) (i0 : I 0 τ) (st : ∀ i t τ, ts[i]? = some t → I i τ → uO (g t τ) fun τ1 => uZ (y τ1) (bdK (fun τ2 => hold (I (i + 1) τ2)) QS))
    (fin : ∀ τ, I ts.length τ → QS .nx τ) : lpK g y ts τ QS :=
  lp_inv (I := fun d _ τ => I d.length τ) i0 (fun d t r τ e h => by
    have z := st d.length t τ (by rw [e]; simp) h
    have e2 : (d ++ [t]).length = d.length + 1 := by simp
    rw [e2]; exact z) fin
/-! comprehensions -/
@[irreducible] def lcK (g : TGx) (p : TTx) (e : TEx) (vs : List Nat) (ts acc : List T) (τ : TSt) (Q : List T → TSt → Prop) (d : Dm Q := .mk) : Prop := vE (collT g p e vs ts acc τ) Q xF
@[irreducible] def wiK (τ : TSt) (vs : List Nat) (Q : TSt → Prop) (d : Dm Q := .mk) : Prop := Q (wipT τ vs)
@[irreducible] def baK (τ0 τ : TSt) (vs : List Nat) (Q : TSt → Prop) (d : Dm Q := .mk) : Prop := Q (bakT τ0 τ vs)
theorem wi_nil : wiK τ [] QT = QT τ := by with_unfolding_all exact rfl
theorem wi_cons : wiK τ (n :: is) QT = wiK τ is fun τ' => stK τ' n none QT := by with_unfolding_all exact rfl
theorem ba_nil {τ0 : TSt} : baK τ0 τ [] QT = QT τ := by with_unfolding_all exact rfl
@[irreducible] def obK (o : Option T) (Q : Option SV → Prop) (d : Dm Q := .mk) : Prop := Q (o.map .fz)
theorem ob_N {Q : Option SV → Prop} : obK none Q = Q none := by with_unfolding_all exact rfl
theorem ob_S {Q : Option SV → Prop} : obK (some t) Q = Q (some (.fz t)) := by with_unfolding_all exact rfl
theorem ob_0 {Q : Option SV → Prop} : obK (fzAt (some (.fz t) :: τ) 0) Q = Q (some (.fz t)) := by with_unfolding_all exact rfl
theorem ob_o {Q : Option SV → Prop} : obK (fzAt (some (.ow t) :: τ) 0) Q = Q none := by with_unfolding_all exact rfl
theorem ob_n {Q : Option SV → Prop} : obK (fzAt (none :: τ) 0) Q = Q none := by with_unfolding_all exact rfl
theorem ob_s {Q : Option SV → Prop} : obK (fzAt (s :: τ) (n + 1)) Q = obK (fzAt τ n) Q := by unfold obK; rw [fz_s]
theorem ba_cons {τ0 : TSt} : baK τ0 τ (n :: is) QT = baK τ0 τ is fun τ' => obK (fzAt τ0 n) fun o => stK τ' n o QT := by with_unfolding_all exact rfl
theorem k_lc {ti : TIx} {g : TGx} {e : TEx} {vs : List Nat} : uE (eLc ti g p e vs τ) Q X = uE (ti τ) (fun xs τ1 => wiK τ1 vs fun τ2 => lcK g p e vs xs [] τ2 fun acc τ3 => baK τ1 τ3 vs fun τ4 => Q (.lst acc) τ4) X := by
  with_unfolding_all
    unfold eLc
    show vE _ _ _ = _
    rw [vE_bind]
    show _ = vE _ _ _
    congr 1; funext xs τ1
    rw [vE_bind]
    show vE _ _ _ = vE _ _ _
    have : ∀ ts acc τ x τ', collT g p e vs ts acc τ ≠ .ex x τ' := by
      intro ts
      induction ts with
      | nil => intro acc τ x τ' z; cases z
      | cons t ts ih =>
        intro acc τ x τ' z
        simp only [collT] at z
        split at z
        · cases z
        · split at z
          · split at z
            · split at z
              · split at z
                · exact ih _ _ _ _ z
                · cases z
              · cases z
            · exact ih _ _ _ _ z
          · cases z
    cases h : collT g p e vs xs [] (wipT τ1 vs) with
    | no => rfl
    | ex x τ' => exact absurd h (this _ _ _ _ _)
    | ok acc τ' => rfl
theorem lc_nil {g : TGx} {e : TEx} {vs : List Nat} {acc : List T} : lcK g p e vs [] acc τ QL = QL acc τ := by with_unfolding_all exact rfl
theorem lc_cons {g : TGx} {e : TEx} {vs : List Nat} {acc : List T} : lcK g p e vs (t :: ts) acc τ QL = uO (g t τ) fun τ1 => uE (p τ1) (fun k τ2 => iK k (uE (e τ2) (fun y τ3 => acc.length < lim ∧ wiK τ3 vs fun τ4 => lcK g p e vs ts (acc ++ [y]) τ4 QL) xF) (wiK τ2 vs fun τ4 => lcK g p e vs ts acc τ4 QL)) xF := by
  with_unfolding_all
    unfold lcK
    simp only [collT]
    show _ = vO _ _
    cases g t τ with
    | none => rfl
    | some τ1 =>
      show _ = vE _ _ _
      simp only []
      cases p τ1 with
      | no => rfl
      | ex _ _ => rfl
      | ok k τ2 =>
        cases k with
        | false => rfl
        | true =>
          simp only [vE]
          show _ = vE _ _ _
          cases e τ2 with
          | no => rfl
          | ex _ _ => rfl
          | ok y τ3 =>
            simp only [vE]
            by_cases h : acc.length < lim
            · rw [if_pos h]; simp only [h, true_and]; rfl
            · rw [if_neg h]; simp only [h, false_and, if_true]
/-- by an invariant -/
theorem lc_inv {g : TGx} {e : TEx} {vs : List Nat} (I : List T → List T → TSt → Prop) (i0 : I [] [] τ) (hl : ts.length < lim)
    (st : ∀ d t r acc τ, ts = d ++ t :: r → acc.length ≤ d.length → I d acc τ → uO (g t τ) fun τ1 => uE (p τ1) (fun k τ2 => iK k (uE (e τ2) (fun y τ3 => wiK τ3 vs fun τ4 => hold (I (d ++ [t]) (acc ++ [y]) τ4)) xF) (wiK τ2 vs fun τ4 => hold (I (d ++ [t]) acc τ4))) xF)
    (fin : ∀ acc τ, acc.length ≤ ts.length → I ts acc τ → QL acc τ) : lcK g p e vs ts [] τ QL := by
  with_unfolding_all
    have go : ∀ r d acc τ, ts = d ++ r → acc.length ≤ d.length → I d acc τ → lcK g p e vs r acc τ QL := by
      intro r
      induction r with
      | nil => intro d acc τ ed hd h; rw [lc_nil]; rw [List.append_nil] at ed; subst ed; exact fin acc τ hd h
      | cons t r ih =>
        intro d acc τ ed hd h
        have hdl : d.length < ts.length := by rw [ed]; simp
        rw [lc_cons]
        have z := st d t r acc τ ed hd h
        revert z
        show vO _ _ → vO _ _
        cases g t τ with
        | none => exact id
        | some τ1 =>
          intro z
          refine vE.imp (X := xF) z fun k τ2 z => ?_
          cases k with
          | false => exact ih (d ++ [t]) acc _ (by rw [ed, List.append_assoc] <;> rfl) (by simp; omega) z
          | true =>
            refine vE.imp (X := xF) z fun y τ3 z => ⟨by omega, ?_⟩
            exact ih (d ++ [t]) (acc ++ [y]) _ (by rw [ed, List.append_assoc] <;> rfl) (by simp; omega) z
    exact go ts [] [] τ rfl (Nat.le_refl _) i0
/-- the same, with a beginning -/
theorem lc_invA {g : TGx} {e : TEx} {vs : List Nat} {acc0 : List T} (I : List T → List T → TSt → Prop) (i0 : I [] acc0 τ) (hl : acc0.length + ts.length < lim)
    (st : ∀ d t r acc τ, ts = d ++ t :: r → acc.length ≤ acc0.length + d.length → I d acc τ → uO (g t τ) fun τ1 => uE (p τ1) (fun k τ2 => iK k (uE (e τ2) (fun y τ3 => wiK τ3 vs fun τ4 => hold (I (d ++ [t]) (acc ++ [y]) τ4)) xF) (wiK τ2 vs fun τ4 => hold (I (d ++ [t]) acc τ4))) xF)
    (fin : ∀ acc τ, acc.length ≤ acc0.length + ts.length → I ts acc τ → QL acc τ) : lcK g p e vs ts acc0 τ QL := by
  with_unfolding_all
    have go : ∀ r d acc τ, ts = d ++ r → acc.length ≤ acc0.length + d.length → I d acc τ → lcK g p e vs r acc τ QL := by
      intro r
      induction r with
      | nil => intro d acc τ ed hd h; rw [lc_nil]; rw [List.append_nil] at ed; subst ed; exact fin acc τ hd h
      | cons t r ih =>
        intro d acc τ ed hd h
        have hdl : d.length < ts.length := by rw [ed]; simp
        rw [lc_cons]
        have z := st d t r acc τ ed hd h
        revert z
        show vO _ _ → vO _ _
        cases g t τ with
        | none => exact id
        | some τ1 =>
          intro z
          refine vE.imp (X := xF) z fun k τ2 z => ?_
          cases k with
          | false => exact ih (d ++ [t]) acc _ (by rw [ed, List.append_assoc] <;> rfl) (by simp; omega) z
          | true =>
            refine vE.imp (X := xF) z fun y τ3 z => ⟨by omega, ?_⟩
            exact ih (d ++ [t]) (acc ++ [y]) _ (by rw [ed, List.append_assoc] <;> rfl) (by simp; omega) z
    exact go ts [] acc0 τ rfl (by simp) i0
/-- a comprehension that changes nothing -/
theorem lc_mapA {g : TGx} {e : TEx} {vs : List Nat} {acc0 : List T} (f : Nat → T) (hl : acc0.length + ts.length < lim)
    (st : ∀ (i : Nat) (t : T), ts[i]? = some t → uO (g t τ) fun τ1 => uE (p τ1) (fun k τ2 => iK k (uE (e τ2) (fun y τ3 => wiK τ3 vs fun τ4 => hold (y = f i ∧ τ4 = τ)) xF) False) xF)
    (k : QL (acc0 ++ (List.range ts.length).map f) τ) : lcK g p e vs ts acc0 τ QL := by
  refine lc_invA (I := fun d acc τ' => τ' = τ ∧ acc = acc0 ++ (List.range d.length).map f) ⟨rfl, by simp⟩ hl ?_ ?_
  · rintro d t r acc τ' e ha ⟨rfl, rfl⟩
    have z := st d.length t (by rw [e]; simp)
    obtain ⟨τ1, e1, z⟩ := uO.get z
    refine uO_of e1 ?_
    obtain ⟨kk, τ2, e2, z⟩ := uE.get z
    refine uE.of e2 ?_
    cases kk with
    | false => rw [ik_f] at z; exact z.elim
    | true =>
      rw [ik_t] at z ⊢
      obtain ⟨y, τ3, e3, z⟩ := uE.get z
      refine uE.of e3 ?_
      revert z
      with_unfolding_all
        show (y = f d.length ∧ wipT τ3 vs = τ') → (wipT τ3 vs = τ' ∧ _ = _)
        rintro ⟨rfl, h⟩
        refine ⟨h, ?_⟩
        rw [List.length_append, List.length_cons, List.length_nil, List.range_succ, List.map_append, List.append_assoc]; rfl
  · rintro acc τ' ha ⟨rfl, rfl⟩
    exact k
theorem lc_map {g : TGx} {e : TEx} {vs : List Nat} (f : Nat → T) (hl : ts.length < lim)
    (st : ∀ (i : Nat) (t : T), ts[i]? = some t → uO (g t τ) fun τ1 => uE (p τ1) (fun k τ2 => iK k (uE (e τ2) (fun y τ3 => wiK τ3 vs fun τ4 => hold (y = f i ∧ τ4 = τ)) xF) False) xF)
    (k : QL ((List.range ts.length).map f) τ) : lcK g p e vs ts [] τ QL := lc_mapA f (by simpa using hl) st (by simpa using k)
/-! two loops -/
@[irreducible] def lc2K (g : TGx) (p : TTx) (ti1 : TIx) (g1 : TGx) (p1 : TTx) (e : TEx) (vs vs1 : List Nat) (ts acc : List T) (τ : TSt) (Q : List T → TSt → Prop) (d : Dm Q := .mk) : Prop := vE (collT2 g p ti1 g1 p1 e vs vs1 ts acc τ) Q xF
theorem coll_nx {g : TGx} {p : TTx} {e : TEx} {vs : List Nat} : ∀ ts acc τ x τ', collT g p e vs ts acc τ ≠ .ex x τ' := by
  intro ts
  induction ts with
  | nil => intro acc τ x τ' z; cases z
  | cons t ts ih =>
    intro acc τ x τ' z
    simp only [collT] at z
    split at z
    · cases z
    · split at z
      · split at z
        · split at z
          · split at z
            · exact ih _ _ _ _ z
            · cases z
          · cases z
        · exact ih _ _ _ _ z
      · cases z
theorem coll2_nx {g g1 : TGx} {p p1 : TTx} {ti1 : TIx} {e : TEx} {vs vs1 : List Nat} : ∀ ts acc τ x τ', collT2 g p ti1 g1 p1 e vs vs1 ts acc τ ≠ .ex x τ' := by
  intro ts
  induction ts with
  | nil => intro acc τ x τ' z; cases z
  | cons t ts ih =>
    intro acc τ x τ' z
    simp only [collT2] at z
    split at z
    · cases z
    · split at z
      · split at z
        · split at z
          · split at z
            · exact ih _ _ _ _ z
            · cases z
          · cases z
        · exact ih _ _ _ _ z
      · cases z
theorem k_lc2 {ti ti1 : TIx} {g g1 : TGx} {p1 : TTx} {e : TEx} {vs vs1 : List Nat} : uE (eLc2 ti g p ti1 g1 p1 e vs vs1 τ) Q X = uE (ti τ) (fun xs τ1 => wiK τ1 vs fun τ2 => lc2K g p ti1 g1 p1 e vs vs1 xs [] τ2 fun acc τ3 => baK τ1 τ3 vs fun τ4 => Q (.lst acc) τ4) X := by
  with_unfolding_all
    unfold eLc2
    show vE _ _ _ = _
    rw [vE_bind]
    show _ = vE _ _ _
    congr 1; funext xs τ1
    rw [vE_bind]
    show vE _ _ _ = vE _ _ _
    cases h : collT2 g p ti1 g1 p1 e vs vs1 xs [] (wipT τ1 vs) with
    | no => rfl
    | ex x τ' => exact absurd h (coll2_nx _ _ _ _ _)
    | ok acc τ' => rfl
theorem lc2_nil {ti1 : TIx} {g g1 : TGx} {p1 : TTx} {e : TEx} {vs vs1 : List Nat} {acc : List T} : lc2K g p ti1 g1 p1 e vs vs1 [] acc τ QL = QL acc τ := by with_unfolding_all exact rfl
theorem lc2_cons {ti1 : TIx} {g g1 : TGx} {p1 : TTx} {e : TEx} {vs vs1 : List Nat} {acc : List T} : lc2K g p ti1 g1 p1 e vs vs1 (t :: ts) acc τ QL = uO (g t τ) fun τ1 => uE (p τ1) (fun k τ2 => iK k (uE (ti1 τ2) (fun ys τ3 => wiK τ3 vs1 fun τ4 => lcK g1 p1 e vs1 ys acc τ4 fun acc' τ5 => wiK τ5 vs fun τ6 => lc2K g p ti1 g1 p1 e vs vs1 ts acc' τ6 QL) xF) (wiK τ2 vs fun τ4 => lc2K g p ti1 g1 p1 e vs vs1 ts acc τ4 QL)) xF := by
  with_unfolding_all
    unfold lc2K
    simp only [collT2]
    show _ = vO _ _
    cases g t τ with
    | none => rfl
    | some τ1 =>
      show _ = vE _ _ _
      simp only []
      cases p τ1 with
      | no => rfl
      | ex _ _ => rfl
      | ok k τ2 =>
        cases k with
        | false => rfl
        | true =>
          show _ = vE (ti1 τ2) _ _
          simp only [if_true]
          cases ti1 τ2 with
          | no => rfl
          | ex _ _ => rfl
          | ok ys τ3 =>
            show _ = vE (collT g1 p1 e vs1 ys acc (wipT τ3 vs1)) _ _
            simp only []
            cases h : collT g1 p1 e vs1 ys acc (wipT τ3 vs1) with
            | no => rfl
            | ex x τ' => exact absurd h (coll_nx _ _ _ _ _)
            | ok acc τ' => rfl
/-- by an index -/
theorem lc2_ix {ti1 : TIx} {g g1 : TGx} {p1 : TTx} {e : TEx} {vs vs1 : List Nat} (I : Nat → List T → TSt → Prop) (i0 : I 0 [] τ)
    (st : ∀ i t acc τ, ts[i]? = some t → I i acc τ → uO (g t τ) fun τ1 => uE (p τ1) (fun k τ2 => iK k (uE (ti1 τ2) (fun ys τ3 => wiK τ3 vs1 fun τ4 => lcK g1 p1 e vs1 ys acc τ4 fun acc' τ5 => wiK τ5 vs fun τ6 => hold (I (i + 1) acc' τ6)) xF) (wiK τ2 vs fun τ4 => hold (I (i + 1) acc τ4))) xF)
    (fin : ∀ acc τ, I ts.length acc τ → QL acc τ) : lc2K g p ti1 g1 p1 e vs vs1 ts [] τ QL := by
  with_unfolding_all
    have go : ∀ r d acc τ, ts = d ++ r → I d.length acc τ → lc2K g p ti1 g1 p1 e vs vs1 r acc τ QL := by
      intro r
      induction r with
      | nil => intro d acc τ ed h; rw [lc2_nil]; rw [List.append_nil] at ed; subst ed; exact fin acc τ h
      | cons t r ih =>
        intro d acc τ ed h
        rw [lc2_cons]
        have z := st d.length t acc τ (by rw [ed]; simp) h
        have hl : (d ++ [t]).length = d.length + 1 := by simp
        revert z
        show vO _ _ → vO _ _
        cases g t τ with
        | none => exact id
        | some τ1 =>
          intro z
          refine vE.imp (X := xF) z fun k τ2 z => ?_
          cases k with
          | false => exact ih (d ++ [t]) acc _ (by rw [ed, List.append_assoc] <;> rfl) (by rw [hl]; exact z)
          | true =>
            refine vE.imp (X := xF) z fun ys τ3 z => ?_
            revert z
            show vE _ _ _ → vE _ _ _
            intro z
            refine vE.imp (X := xF) z fun acc' τ5 z => ?_
            exact ih (d ++ [t]) acc' _ (by rw [ed, List.append_assoc] <;> rfl) (by rw [hl]; exact z)
    exact go ts [] [] τ rfl i0
end
end Mc

namespace Mc
open PySem
/-! raise, try -/
@[irreducible] def teK (i : Nat) (QS : TFl → TSt → Prop) (f : TFl) (τ : TSt) : Prop := match f with
  | .xc _ => False
  | f => stK τ i none fun τ1 => QS f τ1
@[irreducible] def tyK (oks : List Str) (i : Nat) (zs : TSx) (QS : TFl → TSt → Prop) (f : TFl) (τ : TSt) : Prop := match f with
  | .xc x => x.cls ∈ oks ∧ stK τ i (some (.fz (.exn x.cls x.fs))) fun τ1 => uZ (zs τ1) (teK i QS)
  | f => QS f τ
def xS (v : T) (Q : Str → Prop) : Prop := match v with
  | .str y => Q y
  | _ => False
section
variable {Q : T → TSt → Prop} {QT : TSt → Prop} {QO : T → Prop} {QL : List T → Prop} {QS : TFl → TSt → Prop} {X : TExn → TSt → Prop} {τ : TSt} {t u v : T} {a : TEx} {ta : TAx} {i : Nat} {oks : List Str} {zs zb : TSx} {C f g : Str} {fs : List Str} {gs : List (Str × T)} {xs ys : List T} {x : TExn}
theorem k_raise : uZ (zRaise C fs ta τ) QS = uE (ta τ) (fun vs τ1 => vs.length = fs.length ∧ QS (.xc ⟨C, (fs.zip vs).reverse⟩) τ1) (fun x τ1 => QS (.xc x) τ1) := by
  with_unfolding_all
    show vZ (zRaise C fs ta τ) QS = vE _ _ _
    unfold zRaise
    rw [vZ_stm]
    congr 1
    funext vs τ1
    by_cases h : vs.length = fs.length
    · rw [if_pos h]; simp only [h, true_and]; rfl
    · rw [if_neg h]; simp only [h, false_and]; rfl
theorem zr_1 : ([f].zip [v]).reverse = [(f, v)] := rfl
theorem zr_2 : ([f, g].zip [v, u]).reverse = [(g, u), (f, v)] := rfl
theorem te_nx : teK i QS .nx τ = stK τ i none fun τ1 => QS .nx τ1 := by with_unfolding_all exact rfl
theorem te_rt : teK i QS (.rt v) τ = stK τ i none fun τ1 => QS (.rt v) τ1 := by with_unfolding_all exact rfl
theorem te_bk : teK i QS .bk τ = stK τ i none fun τ1 => QS .bk τ1 := by with_unfolding_all exact rfl
theorem te_ct : teK i QS .ct τ = stK τ i none fun τ1 => QS .ct τ1 := by with_unfolding_all exact rfl
theorem ty_nx : tyK oks i zs QS .nx τ = QS .nx τ := by with_unfolding_all exact rfl
theorem ty_rt : tyK oks i zs QS (.rt v) τ = QS (.rt v) τ := by with_unfolding_all exact rfl
theorem ty_bk : tyK oks i zs QS .bk τ = QS .bk τ := by with_unfolding_all exact rfl
theorem ty_ct : tyK oks i zs QS .ct τ = QS .ct τ := by with_unfolding_all exact rfl
theorem ty_xc : tyK oks i zs QS (.xc ⟨C, gs⟩) τ = (C ∈ oks ∧ stK τ i (some (.fz (.exn C gs))) fun τ1 => uZ (zs τ1) (teK i QS)) := by with_unfolding_all exact rfl
theorem k_try : uZ (zTryAs oks i zb zs τ) QS = uZ (zb τ) (tyK oks i zs QS) := by
  with_unfolding_all
    show vZ (zTryAs oks i zb zs τ) QS = vZ (zb τ) _
    unfold zTryAs
    cases q : zb τ with
    | none => rfl
    | some p =>
      obtain ⟨fl, τ1⟩ := p
      cases fl with
      | xc x =>
        show vZ (if x.cls ∈ oks then zEnd i (zs (τ1.set i (some (.fz (.exn x.cls x.fs))))) else none) QS = (x.cls ∈ oks ∧ vZ (zs (τ1.set i (some (.fz (.exn x.cls x.fs))))) (teK i QS))
        by_cases h : x.cls ∈ oks
        · rw [if_pos h]
          simp only [h, true_and]
          cases q2 : zs (τ1.set i (some (.fz (.exn x.cls x.fs)))) with
          | none => rfl
          | some p2 =>
            obtain ⟨f2, τ2⟩ := p2
            cases f2 <;> rfl
        · rw [if_neg h]
          simp only [h, false_and]
          rfl
      | nx => rfl
      | bk => rfl
      | ct => rfl
      | rt w => rfl
/-! caught exceptions -/
theorem a_xf {cs : List Str} : uO (oXf cs f (.exn C gs)) QO = (cs.contains C = true ∧ uO (gs.lookup f) QO) := by
  with_unfolding_all
    show vO (if cs.contains C = true then gs.lookup f else none) QO = _
    rw [vO_if] <;> rfl
theorem a_isx {isa : Ty → Ty → Option Bool} {ty : Ty} : uO (oIsx isa ty (.exn C gs)) QO = uO (isa (.c C) ty) fun b => QO (.bl b) := by
  with_unfolding_all
    show vO ((isa (.c C) ty).map .bl) QO = _
    rw [vO_map] <;> rfl
theorem a_cnt : uO (oCount (.lst xs) [t]) QO = ((flatT t && xs.all flatT) = true ∧ QO (.int (xs.countP (fun z => eqT z t) : Nat))) := by
  with_unfolding_all
    show vO (if (flatT t && xs.all flatT) = true then some (T.int (xs.countP (fun z => eqT z t) : Nat)) else none) QO = _
    rw [vO_if] <;> rfl
/-! zip, join, f-strings, str -/
theorem a_zp2 : uO (oZp2 [t, u]) QL = uO (sqA t) fun xs => uO (sqA u) fun ys => xs.length = ys.length ∧ QL (zipT xs ys) := by
  with_unfolding_all
    show vO ((sqA t).bind fun xs => (sqA u).bind fun ys => if xs.length = ys.length then some (zipT xs ys) else none) QL = _
    rw [vO_bind]
    congr 1; funext xs
    show vO ((sqA u).bind fun ys => if xs.length = ys.length then some (zipT xs ys) else none) QL = _
    rw [vO_bind]
    congr 1; funext ys
    show vO (if xs.length = ys.length then some (zipT xs ys) else none) QL = _
    rw [vO_if] <;> rfl
theorem a_join {y : Str} : uO (oJoin (.str y) [t]) QO = uO (sqA t) fun xs => uO (strT xs) fun ys => joinC y ys ≤ lim ∧ QO (.str (Txt.join y ys)) := by
  with_unfolding_all
    show vO ((sqA t).bind fun xs => (strT xs).bind fun ys => if joinC y ys ≤ lim then some (T.str (Txt.join y ys)) else none) QO = _
    rw [vO_bind]
    congr 1; funext xs
    show vO ((strT xs).bind fun ys => if joinC y ys ≤ lim then some (T.str (Txt.join y ys)) else none) QO = _
    rw [vO_bind]
    congr 1; funext ys
    show vO (if joinC y ys ≤ lim then some (T.str (Txt.join y ys)) else none) QO = _
    rw [vO_if] <;> rfl
theorem xS_str {y : Str} {Q : Str → Prop} : xS (.str y) Q = Q y := rfl
theorem a_fmtI {j : Int} : uO (oFmt (.int j)) QO = (j.natAbs.log2 < 1920 ∧ QO (.str (toString j))) := by
  with_unfolding_all
    show vO (if j.natAbs.log2 < 1920 then some (T.str (toString j)) else none) QO = _
    rw [vO_if] <;> rfl
theorem a_fmtS {y : Str} : uO (oFmt (.str y)) QO = (y.length ≤ lim ∧ QO (.str y)) := by
  with_unfolding_all
    show vO (if y.length ≤ lim then some (T.str y) else none) QO = _
    rw [vO_if] <;> rfl
theorem u_js {ts : List TEx} : uE (eJs ts τ) Q X = uE (jsT ts Str.empty τ) Q X := by with_unfolding_all exact rfl
theorem js_nil {acc : Str} : uE (jsT [] acc τ) Q X = Q (.str acc) τ := by with_unfolding_all exact rfl
theorem js_cons {ts : List TEx} {acc : Str} : uE (jsT (a :: ts) acc τ) Q X = uE (a τ) (fun v τ1 => xS v fun y => (acc ++ y).length ≤ lim ∧ uE (jsT ts (acc ++ y) τ1) Q X) X := by
  with_unfolding_all
    show vE ((a τ).bind _) Q X = _
    rw [vE_bind]
    congr 1
    funext v τ1
    cases v with
    | str y =>
      show vE (if (acc ++ y).length ≤ lim then jsT ts (acc ++ y) τ1 else .no) Q X = ((acc ++ y).length ≤ lim ∧ vE (jsT ts (acc ++ y) τ1) Q X)
      by_cases h : (acc ++ y).length ≤ lim
      · rw [if_pos h]; simp only [h, true_and]
      · rw [if_neg h]; simp only [h, false_and]; rfl
    | _ => rfl
theorem u_eStr {ls : List (Str × Ft)} : uE (eStr ls a τ) Q X = uE (a τ) (fun t τ1 => uE (strG ls t τ1) Q X) X := by
  with_unfolding_all
    show vE ((a τ).bind _) Q X = _
    rw [vE_bind] <;> rfl
theorem u_strI {ls : List (Str × Ft)} {j : Int} : uE (strG ls (.int j) τ) Q X = (j.natAbs.log2 < 1920 ∧ Q (.str (toString j)) τ) := by
  with_unfolding_all
    show vE (opt (if j.natAbs.log2 < 1920 then some (T.str (toString j)) else none) τ) Q X = _
    rw [vE_opt, vO_if] <;> rfl
theorem u_strS {ls : List (Str × Ft)} {y : Str} : uE (strG ls (.str y) τ) Q X = Q (.str y) τ := by with_unfolding_all exact rfl
theorem u_strC {ls : List (Str × Ft)} : uE (strG ls (.ins C gs) τ) Q X = uO (ls.lookup C) fun f => uE (f [.fz (.ins C gs)]) (fun v _ => xS v fun y => Q (.str y) τ) (fun x _ => X x τ) := by
  with_unfolding_all
    show vE (strG ls (.ins C gs) τ) Q X = vO _ _
    unfold strG
    cases q : ls.lookup C with
    | none => simp only [q]; rfl
    | some f =>
      simp only [q, vO]
      unfold strI
      cases q2 : f [.fz (.ins C gs)] with
      | ok v os => cases v <;> rfl
      | ex x os => rfl
      | no => rfl
end
end Mc

/-! what repr shows, by size -/
namespace Mc
open PySem
/-- read at depth n, shown in at most L signs, at most k deep -/
def Sn (n L k : Nat) (t : T) : Prop := ∃ d, rxT n t = some d ∧ d.showable = true ∧ d.depth ≤ k ∧ d.shown.length ≤ L
section
variable {n L k m : Nat} {t : T} {xs : List T}
theorem Sn.mono {L' k' : Nat} (h : Sn n L k t) (a : L ≤ L') (b : k ≤ k') : Sn n L' k' t := by
  obtain ⟨d, e1, e2, e3, e4⟩ := h
  exact ⟨d, e1, e2, Nat.le_trans e3 b, Nat.le_trans e4 a⟩
theorem sn_non : Sn n 5 0 .non := ⟨.none, by cases n <;> rfl, rfl, Nat.le_refl _, by decide +kernel⟩
theorem sn_bl {b : Bool} : Sn n 5 0 (.bl b) := ⟨.bool b, by cases n <;> rfl, rfl, Nat.le_refl _, by cases b <;> decide +kernel⟩
theorem log2_lt {a m : Nat} (hm : 0 < m) (h : a < 2 ^ m) : a.log2 < m := by
  by_cases h0 : a = 0
  · rw [h0]; simpa using hm
  · exact (Nat.log2_lt h0).mpr h
theorem int_len {i : Int} {m : Nat} (hm : 0 < m) (h : i.natAbs < 10 ^ m) : (Str.ofString (toString i)).length ≤ m + 1 := by
  rw [ofString_length]
  exact int_text_length_le10 hm h
theorem sn_int {i : Int} (h : i.natAbs < 10 ^ 25) : Sn n 26 0 (.int i) := by
  refine ⟨.int i, by cases n <;> rfl, ?_, Nat.le_refl _, ?_⟩
  · simp only [PyData.showable, decide_eq_true_eq]
    exact log2_lt (by decide) (Nat.lt_of_lt_of_le h (by decide +kernel))
  · simp only [PyData.shown]
    exact int_len (by decide) h
theorem sn_str {x : Str} (h : (reprText x).length ≤ L) : Sn n L 0 (.str x) := ⟨.str x, by cases n <;> rfl, rfl, Nat.le_refl _, by simp only [PyData.shown]; exact h⟩
theorem sn_dk0 : Sn (n + 1) 2 1 (.dK []) := ⟨.dict [], rfl, rfl, by decide, by decide +kernel⟩
/-- all of them -/
theorem sn_all : ∀ {xs : List T}, (∀ x ∈ xs, Sn n L k x) → ∃ ds, rdTL (rxT n) xs = some ds ∧ PyData.showableAll ds = true ∧ PyData.depthAll ds ≤ k ∧ (∀ s ∈ PyData.shownAll ds, s.length ≤ L) ∧ (PyData.shownAll ds).length = xs.length
  | [], _ => ⟨[], rfl, rfl, Nat.zero_le _, fun s hs => (by cases hs), rfl⟩
  | x :: xs, h => by
    obtain ⟨d, e1, e2, e3, e4⟩ := h x (List.mem_cons_self ..)
    obtain ⟨ds, f1, f2, f3, f4, f5⟩ := sn_all (xs := xs) fun y hy => h y (List.mem_cons_of_mem _ hy)
    refine ⟨d :: ds, by simp only [rdTL, e1, f1], by simp only [PyData.showableAll, e2, f2, Bool.and_self], ?_, ?_, ?_⟩
    · simp only [PyData.depthAll]; exact Nat.max_le.mpr ⟨e3, f3⟩
    · intro s hs
      simp only [PyData.shownAll] at hs
      rcases List.mem_cons.mp hs with z | z
      · rw [z]; exact e4
      · exact f4 s z
    · simp only [PyData.shownAll, List.length_cons, f5]
theorem textFrom_up : ∀ (ts : List Str) (j : Nat) (acc : Str), (∀ t ∈ ts, t.length ≤ L) → (textFrom j acc ts).length ≤ acc.length + ts.length * (L + 2)
  | [], j, acc, h => by show acc.length ≤ _; simp
  | t :: r, j, acc, h => by
    have z := textFrom_up r (j + 1) (acc ++ (if j > 0 then ", " else "" : String) ++ t) fun y hy => h y (List.mem_cons_of_mem _ hy)
    have ht := h t (List.mem_cons_self ..)
    show (textFrom (j + 1) (acc ++ (if j > 0 then ", " else "" : String) ++ t) r).length ≤ _
    rw [Str.length_append, Str.length_append] at z
    have h2 : (Str.ofString (if j > 0 then ", " else "" : String)).length ≤ 2 := by split <;> decide +kernel
    rw [List.length_cons, Nat.succ_mul]
    omega
theorem join_up {sep : Str} (hs : sep.length ≤ 2) : ∀ (ts : List Str), (∀ t ∈ ts, t.length ≤ L) → (Str.join sep ts).length ≤ ts.length * (L + 2)
  | [], h => by show (Str.join sep []).length ≤ _; exact Nat.le_of_eq (by simp [Str.join]; rfl)
  | [t], h => by show t.length ≤ _; have := h t (List.mem_cons_self ..); simp; omega
  | t :: u :: r, h => by
    have z := join_up hs (u :: r) fun y hy => h y (List.mem_cons_of_mem _ hy)
    have ht := h t (List.mem_cons_self ..)
    show (t ++ sep ++ Str.join sep (u :: r)).length ≤ _
    rw [Str.length_append, Str.length_append, List.length_cons, Nat.succ_mul]
    omega
theorem sn_lst (h : ∀ x ∈ xs, Sn n L k x) (hl : xs.length ≤ m) : Sn (n + 1) (m * (L + 2) + 2) (k + 1) (.lst xs) := by
  obtain ⟨ds, f1, f2, f3, f4, f5⟩ := sn_all h
  refine ⟨.list ds, by simp only [rxT, f1, Option.map_some], by simp only [PyData.showable]; exact f2, by simp only [PyData.depth]; omega, ?_⟩
  simp only [PyData.shown]
  have z := textFrom_up (PyData.shownAll ds) 0 "[" f4
  show (textFrom 0 "[" (PyData.shownAll ds) ++ "]").length ≤ _
  rw [Str.length_append]
  have e1 : (Str.ofString "[").length = 1 := by decide +kernel
  have e2 : (Str.ofString "]").length = 1 := by decide +kernel
  have e3 : xs.length * (L + 2) ≤ m * (L + 2) := Nat.mul_le_mul_right _ hl
  rw [f5] at z
  omega
theorem sn_tup (h : ∀ x ∈ xs, Sn n L k x) (hl : xs.length ≤ m) : Sn (n + 1) (m * (L + 2) + 3) (k + 1) (.tup xs) := by
  obtain ⟨ds, f1, f2, f3, f4, f5⟩ := sn_all h
  refine ⟨.tuple ds, by simp only [rxT, f1, Option.map_some], by simp only [PyData.showable]; exact f2, by simp only [PyData.depth]; omega, ?_⟩
  simp only [PyData.shown]
  have z := join_up (L := L) (sep := ", ") (by decide +kernel) (PyData.shownAll ds) f4
  unfold tupleText
  rw [Str.length_append, Str.length_append]
  have e1 : (Str.ofString "(").length = 1 := by decide +kernel
  have e2 : (Str.ofString (if (PyData.shownAll ds).length == 1 then ",)" else ")" : String)).length ≤ 2 := by split <;> decide +kernel
  have e3 : xs.length * (L + 2) ≤ m * (L + 2) := Nat.mul_le_mul_right _ hl
  rw [f5] at z
  omega
theorem repr_of (h : Sn 40 100000 60 t) : ∃ s, oReprX [t] = some (.str s) := by
  obtain ⟨d, e1, e2, e3, e4⟩ := h
  have e5 : d.depth ≤ 64 := by omega
  have e6 : d.shown.length ≤ lim := Nat.le_trans e4 (by decide)
  exact ⟨d.shown, by simp only [oReprX, e1, Option.bind_some, e2, e5, e6, decide_true, Bool.and_self, if_true]⟩
end
end Mc


namespace K02
open PySem PySem.Spec PyProof.Rows L2 Mc
def topS (i : Nat) : Stmt := PySem.Challenge.pw_staycounts_k02_counts_refused.main.body.getD i (.Pass ⟨0, 0, 0, 0⟩)
def isaTb : Tb := ([((.b "NoneType", .b "bool"), false), ((.b "bool", .b "bool"), true), ((.b "int", .b "bool"), false), ((.b "str", .b "bool"), false), ((.b "list", .b "bool"), false), ((.b "tuple", .b "bool"), false), ((.b "dict", .b "bool"), false), ((.c "Counts", .b "bool"), false)] : Tb) ++ ([((.b "NoneType", .b "int"), false), ((.b "bool", .b "int"), true), ((.b "int", .b "int"), true), ((.b "str", .b "int"), false), ((.b "list", .b "int"), false), ((.b "tuple", .b "int"), false), ((.b "dict", .b "int"), false), ((.c "Counts", .b "int"), false)] : Tb) ++ ([((.b "NoneType", .b "tuple"), false), ((.b "bool", .b "tuple"), false), ((.b "int", .b "tuple"), false), ((.b "str", .b "tuple"), false), ((.b "list", .b "tuple"), false), ((.b "tuple", .b "tuple"), true), ((.b "dict", .b "tuple"), false), ((.c "Counts", .b "tuple"), false)] : Tb)
def isaF : Ty → Ty → Option Bool := isaOf isaTb
def clsL : List Str := (["Counts"] : List Str)
def isxTb : Tb := ([((.c "InvalidCounts", .b "ArithmeticError"), false), ((.c "InvalidCounts", .b "LookupError"), false), ((.c "InvalidCounts", .b "ValueError"), true), ((.c "InvalidCounts", .c "CountError"), true), ((.c "InvalidCounts", .c "Impossible"), false), ((.c "InvalidCounts", .c "InvalidCommand"), false), ((.c "InvalidCounts", .c "InvalidCounts"), true), ((.c "InvalidCounts", .c "InvalidDeed"), false)] : Tb) ++ ([((.c "InvalidCounts", .c "InvalidDoors"), false), ((.c "InvalidCounts", .c "InvalidHistory"), false), ((.c "InvalidCounts", .c "InvalidLength"), false), ((.c "InvalidCounts", .c "InvalidName"), false), ((.c "InvalidCounts", .c "InvalidNumber"), false), ((.c "InvalidCounts", .c "InvalidStay"), false), ((.c "InvalidCounts", .c "InvalidText"), false), ((.c "InvalidCounts", .c "InvalidTick"), false)] : Tb) ++ ([((.c "InvalidCounts", .c "LimitBroken"), false), ((.c "InvalidCounts", .c "LimitError"), false), ((.c "InvalidCounts", .c "NotCounts"), false), ((.c "InvalidCounts", .c "NotKnown"), false), ((.c "InvalidCounts", .c "NothingToUndo"), false), ((.c "InvalidCounts", .c "SearchError"), false), ((.c "InvalidCounts", .c "TooMany"), false)] : Tb)
def isxF : Ty → Ty → Option Bool := isaOf isxTb
def xclL : List Str := (["InvalidCounts"] : List Str)
abbrev s_InvalidCounts_init : Stmt := inClass (topS 13) 0
def d_InvalidCounts_init : He.DefD := ⟨("InvalidCounts", some "__init__"), "__init__", "InvalidCounts.__init__", defArgs s_InvalidCounts_init, defBody s_InvalidCounts_init, defScope s_InvalidCounts_init, [], []⟩
abbrev N_InvalidCounts_init : List Str := (["self", "tick"] : List Str)
abbrev ps_InvalidCounts_init : List Str := (["self", "tick"] : List Str)
/-! Counts.__len__ -/
abbrev s_Counts_len : Stmt := inClass (topS 36) 7
def d_Counts_len : He.DefD := ⟨("Counts", some "__len__"), "__len__", "Counts.__len__", defArgs s_Counts_len, defBody s_Counts_len, defScope s_Counts_len, [], []⟩
abbrev N_Counts_len : List Str := (["self"] : List Str)
abbrev ps_Counts_len : List Str := (["self"] : List Str)
def m_Counts_len : MSx := (sRet (mArg kLen (mCons (m1 (kFld (["Counts"] : List Str) "arrivals") (mV 0)) mNil)))
def F_Counts_len : Fm := fnRun 1 m_Counts_len
/-! _law_wrong -/
abbrev s_wrong : Stmt := topS 49
def d_wrong : He.DefD := ⟨("_law_wrong", none), "_law_wrong", "_law_wrong", defArgs s_wrong, defBody s_wrong, defScope s_wrong, [], []⟩
abbrev N_wrong : List Str := (["_law_comes", "_law_goes", "_law_people", "_law_here", "_law_at", "_law_part"] : List Str)
abbrev ps_wrong : List Str := (["_law_comes", "_law_goes"] : List Str)
def m_wrong_1 : MSx := (sIf (tO (tTr (mIsi isaF (.b "bool") (mV 5))) (tO (tNt (tTr (mIsi isaF (.b "int") (mV 5)))) (tNt (tCh (mC (.int 0)) [(kLe, (mV 5)), (kLe, (mC (.int 999)))])))) (sRet (mArg kLst (mCons (mV 4) mNil))) sNil)
def m_wrong_2 : MSx := (sSeq (sFor (iSeq (mArg kLst (mCons (m2 kIx (mV 0) (mV 4)) (mCons (m2 kIx (mV 1) (mV 4)) mNil)))) (gN 5) m_wrong_1) (sSeq (sPar [2, 3] (mCons (m2 kAdd (mV 2) (m2 kIx (mV 0) (mV 4))) (mCons (m2 kSub (m2 kAdd (mV 3) (m2 kIx (mV 0) (mV 4))) (m2 kIx (mV 1) (mV 4))) mNil))) (sIf (tO (tV (m2 kGt (mV 2) (mC (.int 999)))) (tV (m2 kLt (mV 3) (mC (.int 0))))) (sRet (mArg kLst (mCons (mV 4) mNil))) sNil)))
def m_wrong : MSx := (sSeq (sIf (tO (tNt (tTr (mIsi isaF (.b "tuple") (mV 0)))) (tO (tNt (tTr (mIsi isaF (.b "tuple") (mV 1)))) (tV (m2 kNe2 (mArg (kLenO [("Counts", F_Counts_len)]) (mCons (mV 0) mNil)) (mArg (kLenO [("Counts", F_Counts_len)]) (mCons (mV 1) mNil)))))) (sRet (mArg kLst (mCons (mC .non) mNil))) sNil) (sSeq (sIf (tNt (tCh (mC (.int 0)) [(kLt, (mArg (kLenO [("Counts", F_Counts_len)]) (mCons (mV 0) mNil))), (kLt, (mC (.int 61)))])) (sRet (mArg kLst (mCons (mC .non) mNil))) sNil) (sSeq (sAsg (mArg kTup (mCons (mC (.int 0)) (mCons (mC (.int 0)) mNil))) (gTp 2 (gsCons (gN 2) (gsCons (gN 3) gsNil)))) (sSeq (sFor (iRg1 (mCons (mArg (kLenO [("Counts", F_Counts_len)]) (mCons (mV 0) mNil)) mNil)) (gN 4) m_wrong_2) (sRet (mArg kLst mNil))))))
def F_wrong : Fm := fnRun 6 m_wrong
/-! _law_written -/
abbrev s_written : Stmt := topS 48
def d_written : He.DefD := ⟨("_law_written", none), "_law_written", "_law_written", defArgs s_written, defBody s_written, defScope s_written, [], []⟩
abbrev N_written : List Str := (["_law_comes", "_law_goes", "_law_k"] : List Str)
abbrev ps_written : List Str := (["_law_comes", "_law_goes"] : List Str)
def m_written_1 : MEx := (m2 kAdd (m2 kAdd (mArg (kStrO []) (mCons (m2 kIx (mV 0) (mV 2)) mNil)) (mC (.str "/"))) (mArg (kStrO []) (mCons (m2 kIx (mV 1) (mV 2)) mNil)))
def m_written : MSx := (sRet (mMt "str" kJoin (mC (.str " ")) (mCons (mLc (iRg1 (mCons (mArg (kLenO [("Counts", F_Counts_len)]) (mCons (mV 0) mNil)) mNil)) (gN 2) tYs m_written_1 [2]) mNil)))
def F_written : Fm := fnRun 3 m_written
/-! is_same_size -/
abbrev s_is_same_size : Stmt := topS 33
def d_is_same_size : He.DefD := ⟨("is_same_size", none), "is_same_size", "is_same_size", defArgs s_is_same_size, defBody s_is_same_size, defScope s_is_same_size, [], []⟩
abbrev N_is_same_size : List Str := (["arrivals", "departures"] : List Str)
abbrev ps_is_same_size : List Str := (["arrivals", "departures"] : List Str)
def m_is_same_size : MSx := (sSeq (sIf (tO (tNt (tTr (mIsi isaF (.b "tuple") (mV 0)))) (tNt (tTr (mIsi isaF (.b "tuple") (mV 1))))) (sRet (mC (.bl false))) sNil) (sRet (mAn (m2 kEq2 (mArg (kLenO [("Counts", F_Counts_len)]) (mCons (mV 0) mNil)) (mArg (kLenO [("Counts", F_Counts_len)]) (mCons (mV 1) mNil))) (mCh (mC (.int 1)) [(kLe, (mArg (kLenO [("Counts", F_Counts_len)]) (mCons (mV 0) mNil))), (kLe, (mC (.int 60)))]))))
def F_is_same_size : Fm := fnRun 2 m_is_same_size
/-! is_integer -/
abbrev s_is_integer : Stmt := topS 5
def d_is_integer : He.DefD := ⟨("is_integer", none), "is_integer", "is_integer", defArgs s_is_integer, defBody s_is_integer, defScope s_is_integer, [], []⟩
abbrev N_is_integer : List Str := (["value", "least", "most"] : List Str)
abbrev ps_is_integer : List Str := (["value", "least", "most"] : List Str)
def m_is_integer : MSx := (sRet (mAn (mIsi isaF (.b "int") (mV 0)) (mAn (mNt (mIsi isaF (.b "bool") (mV 0))) (mCh (mV 1) [(kLe, (mV 0)), (kLe, (mV 2))]))))
def F_is_integer : Fm := fnRun 3 m_is_integer
/-! wrong_tick -/
abbrev s_wrong_tick : Stmt := topS 7
def d_wrong_tick : He.DefD := ⟨("wrong_tick", none), "wrong_tick", "wrong_tick", defArgs s_wrong_tick, defBody s_wrong_tick, defScope s_wrong_tick, [], []⟩
abbrev N_wrong_tick : List Str := (["arrivals", "departures", "people", "here", "tick", "new", "gone"] : List Str)
abbrev ps_wrong_tick : List Str := (["arrivals", "departures"] : List Str)
def m_wrong_tick_1 : MSx := (sSeq (sIfW (twOr (tNt (tTr (mCall F_is_integer 3 0 3 [] [0, 1, 2] (mCons (mV 5) (mCons (mC (.int 0)) (mCons (mC (.int 999)) mNil))) mNil))) (twNt (twCall F_is_integer 3 3 [] [0, 1, 2] 6 (m2 kIx (mV 1) (mV 4)) (mCons (mC (.int 0)) (mCons (mC (.int 999)) mNil))))) (sRet (mV 4)) sNil) (sSeq (sPar [2, 3] (mCons (m2 kAdd (mV 2) (mV 5)) (mCons (m2 kSub (m2 kAdd (mV 3) (mV 5)) (mV 6)) mNil))) (sIf (tO (tV (m2 kGt (mV 2) (mC (.int 999)))) (tV (m2 kLt (mV 3) (mC (.int 0))))) (sRet (mV 4)) sNil)))
def m_wrong_tick : MSx := (sSeq (sAsg2 (mC (.int 0)) (gN 2) (gN 3)) (sSeq (sFor (iEn (mCons (mV 0) mNil)) (gTp 2 (gsCons (gN 4) (gsCons (gN 5) gsNil))) m_wrong_tick_1) (sRet (mC .non))))
def F_wrong_tick : Fm := fnRun 7 m_wrong_tick
/-! Counts.__init__ -/
abbrev s_Counts_init : Stmt := inClass (topS 36) 2
def d_Counts_init : He.DefD := ⟨("Counts", some "__init__"), "__init__", "Counts.__init__", defArgs s_Counts_init, defBody s_Counts_init, defScope s_Counts_init, [], []⟩
abbrev N_Counts_init : List Str := (["self", "arrivals", "departures", "tick"] : List Str)
abbrev ps_Counts_init : List Str := (["self", "arrivals", "departures"] : List Str)
def m_Counts_init : MSx := (sSeq (sIf (tNt (tTr (mCall F_is_same_size 2 0 2 [] [0, 1] (mCons (mV 1) (mCons (mV 2) mNil)) mNil))) (sRaise "InvalidCounts" (["tick"] : List Str) (mCons (mC .non) mNil)) sNil) (sSeq (sAsg (mCall F_wrong_tick 2 0 2 [] [0, 1] (mCons (mV 1) (mCons (mV 2) mNil)) mNil) (gN 3)) (sSeq (sIf (tV (m2 kNotN (mV 3) (mC .non))) (sRaise "InvalidCounts" (["tick"] : List Str) (mCons (mV 3) mNil)) sNil) (sSeq (sFldM (["Counts"] : List Str) "arrivals" (mV 0) (mV 1)) (sFldM (["Counts"] : List Str) "departures" (mV 0) (mV 2))))))
def F_Counts_init : Fm := fnRun 4 m_Counts_init
/-! _law_error -/
abbrev s_error : Stmt := topS 46
def d_error : He.DefD := ⟨("_law_error", none), "_law_error", "_law_error", defArgs s_error, defBody s_error, defScope s_error, [], []⟩
abbrev N_error : List Str := (["_law_e", "_law_sorts", "_law_bases", "_law_own", "_law_at"] : List Str)
abbrev ps_error : List Str := (["_law_e"] : List Str)
def m_error : MSx := (sSeq (sAsg (mArg kLst (mCons (mIsx isxF (.c "InvalidCounts") (mV 0)) (mCons (mIsx isxF (.c "NotCounts") (mV 0)) (mCons (mIsx isxF (.c "InvalidTick") (mV 0)) mNil)))) (gN 1)) (sSeq (sAsg (m2 kAdd (mV 1) (mArg kLst (mCons (mIsx isxF (.c "InvalidNumber") (mV 0)) (mCons (mIsx isxF (.c "InvalidText") (mV 0)) (mCons (mIsx isxF (.c "InvalidStay") (mV 0)) mNil))))) (gN 1)) (sSeq (sAsg (m2 kAdd (mV 1) (mArg kLst (mCons (mIsx isxF (.c "InvalidHistory") (mV 0)) (mCons (mIsx isxF (.c "InvalidName") (mV 0)) (mCons (mIsx isxF (.c "InvalidLength") (mV 0)) mNil))))) (gN 1)) (sSeq (sAsg (m2 kAdd (mV 1) (mArg kLst (mCons (mIsx isxF (.c "InvalidDoors") (mV 0)) (mCons (mIsx isxF (.c "InvalidDeed") (mV 0)) (mCons (mIsx isxF (.c "InvalidCommand") (mV 0)) mNil))))) (gN 1)) (sSeq (sAsg (m2 kAdd (mV 1) (mArg kLst (mCons (mIsx isxF (.c "Impossible") (mV 0)) (mCons (mIsx isxF (.c "NotKnown") (mV 0)) (mCons (mIsx isxF (.c "LimitBroken") (mV 0)) mNil))))) (gN 1)) (sSeq (sAsg (m2 kAdd (mV 1) (mArg kLst (mCons (mIsx isxF (.c "NothingToUndo") (mV 0)) (mCons (mIsx isxF (.c "TooMany") (mV 0)) mNil)))) (gN 1)) (sSeq (sAsg (mArg kLst (mCons (mIsx isxF (.c "CountError") (mV 0)) (mCons (mIsx isxF (.c "SearchError") (mV 0)) (mCons (mIsx isxF (.c "LimitError") (mV 0)) mNil)))) (gN 2)) (sSeq (sAsg (mArg kLst (mCons (mIsx isxF (.b "ValueError") (mV 0)) (mCons (mIsx isxF (.b "LookupError") (mV 0)) (mCons (mIsx isxF (.b "ArithmeticError") (mV 0)) mNil)))) (gN 3)) (sSeq (sIf (tO (tV (m2 kNe2 (mMt "list" kCount (mV 1) (mCons (mC (.bl true)) mNil)) (mC (.int 1)))) (tV (m2 kNe2 (mV 3) (mV 2)))) (sRet (m1 kNeg (mC (.int 1)))) sNil) (sSeq (sAsg (mMt "list" kIndex (mV 1) (mCons (mC (.bl true)) mNil)) (gN 4)) (sRet (mIf (tV (m2 kEq2 (mV 2) (mArg kLst (mCons (m2 kLt (mV 4) (mC (.int 12))) (mCons (mCh (mC (.int 11)) [(kLt, (mV 4)), (kLt, (mC (.int 16)))]) (mCons (m2 kEq2 (mV 4) (mC (.int 16))) mNil)))))) (mV 4) (m1 kNeg (mC (.int 1)))))))))))))))
def F_error : Fm := fnRun 5 m_error
/-! Counts.__str__ -/
abbrev s_Counts_str : Stmt := inClass (topS 36) 9
def d_Counts_str : He.DefD := ⟨("Counts", some "__str__"), "__str__", "Counts.__str__", defArgs s_Counts_str, defBody s_Counts_str, defScope s_Counts_str, [], []⟩
abbrev N_Counts_str : List Str := (["self", "new", "gone"] : List Str)
abbrev ps_Counts_str : List Str := (["self"] : List Str)
def m_Counts_str_1 : MEx := (mJs [(m1 kFmt (mV 1)), (mC (.str "/")), (m1 kFmt (mV 2))])
def m_Counts_str : MSx := (sRet (mMt "str" kJoin (mC (.str " ")) (mCons (mLc (iZp2 (mCons (m1 (kFld (["Counts"] : List Str) "arrivals") (mV 0)) (mCons (m1 (kFld (["Counts"] : List Str) "departures") (mV 0)) mNil))) (gTp 2 (gsCons (gN 1) (gsCons (gN 2) gsNil))) tYs m_Counts_str_1 [1, 2]) mNil)))
def F_Counts_str : Fm := fnRun 3 m_Counts_str
/-! _law_told -/
abbrev s_told : Stmt := topS 50
def d_told : He.DefD := ⟨("_law_told", none), "_law_told", "_law_told", defArgs s_told, defBody s_told, defScope s_told, [], []⟩
abbrev N_told : List Str := (["_law_comes", "_law_goes", "_law_by_name", "_law_log", "_law_e"] : List Str)
abbrev ps_told : List Str := (["_law_comes", "_law_goes", "_law_by_name"] : List Str)
def m_told_1 : MSx := (sRet (mArg kLst (mCons (mCall F_error 1 0 1 [] [0] (mCons (mV 4) mNil) mNil) (mCons (mIf (tTr (mIsx isxF (.c "InvalidCounts") (mV 4))) (mArg kReprX (mCons (m1 (kXf (["InvalidCounts"] : List Str) "tick") (mV 4)) mNil)) (mC (.str ""))) mNil))))
def m_told_2 : MSx := (sAsg (mIf (tTr (mV 2)) (mMake "Counts" F_Counts_init 0 2 3 [] [0, 2, 1] mNil (mCons (mV 1) (mCons (mV 0) mNil))) (mMake "Counts" F_Counts_init 2 0 3 [] [0, 1, 2] (mCons (mV 0) (mCons (mV 1) mNil)) mNil)) (gN 3))
def m_told : MSx := (sSeq (sTryAs (["InvalidCounts"] : List Str) 4 m_told_2 m_told_1) (sRet (mArg kLst (mCons (mC (.str "made")) (mCons (mArg (kStrO [("Counts", F_Counts_str)]) (mCons (mV 3) mNil)) mNil)))))
def F_told : Fm := fnRun 5 m_told
/-! _law_pair_right -/
abbrev s_pair_right : Stmt := topS 51
def d_pair_right : He.DefD := ⟨("_law_pair_right", none), "_law_pair_right", "_law_pair_right", defArgs s_pair_right, defBody s_pair_right, defScope s_pair_right, [], []⟩
abbrev N_pair_right : List Str := (["_law_comes", "_law_goes", "_law_fault", "_law_shown_here", "_law_due", "_law_told_here", "_law_by_name"] : List Str)
abbrev ps_pair_right : List Str := (["_law_comes", "_law_goes"] : List Str)
def m_pair_right_1 : MEx := (mCall F_told 3 0 3 [] [0, 1, 2] (mCons (mV 0) (mCons (mV 1) (mCons (mV 6) mNil))) mNil)
def m_pair_right : MSx := (sSeq (sPar [2, 3] (mCons (mCall F_wrong 2 0 2 [] [0, 1] (mCons (mV 0) (mCons (mV 1) mNil)) mNil) (mCons (mArg kReprX (mCons (mArg kLst (mCons (mV 0) (mCons (mV 1) mNil))) mNil)) mNil))) (sSeq (sAsg (mIf (tV (m2 kNe2 (mV 2) (mArg kLst mNil))) (mArg kLst (mCons (mC (.int 0)) (mCons (mArg kReprX (mCons (m2 kIx (mV 2) (mC (.int 0))) mNil)) mNil))) (mArg kLst (mCons (mC (.str "made")) (mCons (mCall F_written 2 0 2 [] [0, 1] (mCons (mV 0) (mCons (mV 1) mNil)) mNil) mNil)))) (gN 4)) (sSeq (sAsg (mLc (iSeq (mArg kLst (mCons (mC (.bl false)) (mCons (mC (.bl true)) mNil)))) (gN 6) tYs m_pair_right_1 [6]) (gN 5)) (sRet (mAn (m2 kEq2 (mV 5) (mArg kLst (mCons (mV 4) (mCons (mV 4) mNil)))) (m2 kEq2 (mArg kReprX (mCons (mArg kLst (mCons (mV 0) (mCons (mV 1) mNil))) mNil)) (mV 3)))))))
def F_pair_right : Fm := fnRun 7 m_pair_right
/-! _law_by_hand -/
abbrev s_by_hand : Stmt := topS 54
def d_by_hand : He.DefD := ⟨("_law_by_hand", none), "_law_by_hand", "_law_by_hand", defArgs s_by_hand, defBody s_by_hand, defScope s_by_hand, [], []⟩
abbrev N_by_hand : List Str := (["_law_some", "_law_comes", "_law_goes"] : List Str)
abbrev ps_by_hand : List Str := ([] : List Str)
def m_by_hand_1 : MEx := (mCall F_pair_right 2 0 2 [] [0, 1] (mCons (mV 1) (mCons (mV 2) mNil)) mNil)
def m_by_hand : MSx := (sSeq (sAsg (mArg kLst (mCons (mArg kTup (mCons (m2 kMul (mArg kTup (mCons (mC (.int 0)) mNil)) (mC (.int 60))) (mCons (m2 kMul (mArg kTup (mCons (mC (.int 0)) mNil)) (mC (.int 60))) mNil))) (mCons (mArg kTup (mCons (m2 kMul (mArg kTup (mCons (mC (.int 0)) mNil)) (mC (.int 61))) (mCons (m2 kMul (mArg kTup (mCons (mC (.int 0)) mNil)) (mC (.int 61))) mNil))) (mCons (mArg kTup (mCons (mArg kTup mNil) (mCons (mArg kTup mNil) mNil))) (mCons (mArg kTup (mCons (mArg kTup (mCons (mC (.int 500)) (mCons (mC (.int 499)) mNil))) (mCons (mArg kTup (mCons (mC (.int 0)) (mCons (mC (.int 0)) mNil))) mNil))) (mCons (mArg kTup (mCons (mArg kTup (mCons (mC (.int 500)) (mCons (mC (.int 500)) mNil))) (mCons (mArg kTup (mCons (mC (.int 500)) (mCons (mC (.int 0)) mNil))) mNil))) mNil)))))) (gN 0)) (sSeq (sAsg (m2 kAdd (mV 0) (mArg kLst (mCons (mArg kTup (mCons (mArg kTup (mCons (mC (.int 999)) (mCons (mC (.int 1)) mNil))) (mCons (mArg kTup (mCons (mC (.int 999)) (mCons (mC (.int 0)) mNil))) mNil))) (mCons (mArg kTup (mCons (mArg kTup (mCons (mC (.int 1)) (mCons (mC (.int 0)) mNil))) (mCons (mArg kTup (mCons (mC (.int 0)) (mCons (mC (.int 2)) mNil))) mNil))) (mCons (mArg kTup (mCons (mArg kTup (mCons (mC (.int 0)) (mCons (mC (.int 5)) mNil))) (mCons (mArg kTup (mCons (mC (.int 1)) (mCons (mC (.int 0)) mNil))) mNil))) (mCons (mArg kTup (mCons (mArg kTup (mCons (mC (.bl true)) (mCons (mC (.int 1)) mNil))) (mCons (mArg kTup (mCons (mC (.int 0)) (mCons (mC (.int 0)) mNil))) mNil))) (mCons (mArg kTup (mCons (mArg kTup (mCons (mC (.int 1)) (mCons (mC (.int 1)) mNil))) (mCons (mArg kTup (mCons (mC (.int 0)) (mCons (mC (.bl false)) mNil))) mNil))) mNil))))))) (gN 0)) (sSeq (sAsg (m2 kAdd (mV 0) (mArg kLst (mCons (mArg kTup (mCons (mArg kTup (mCons (mC (.int 2)) (mCons (m1 kNeg (mC (.int 1))) mNil))) (mCons (mArg kTup (mCons (mC (.int 0)) (mCons (mC (.int 0)) mNil))) mNil))) (mCons (mArg kTup (mCons (mArg kTup (mCons (mC (.int 0)) (mCons (mC (.int 0)) (mCons (mC (.int 1000)) mNil)))) (mCons (mArg kTup (mCons (mC (.int 0)) (mCons (mC (.int 1)) (mCons (mC (.int 0)) mNil)))) mNil))) (mCons (mArg kTup (mCons (mC .non) (mCons (mC .non) mNil))) (mCons (mArg kTup (mCons (mArg kTup (mCons (mC (.int 1)) mNil)) (mCons (mArg kTup (mCons (mC (.int 0)) (mCons (mC (.int 0)) mNil))) mNil))) (mCons (mArg kTup (mCons (mArg kLst (mCons (mC (.int 1)) mNil)) (mCons (mArg kLst (mCons (mC (.int 0)) mNil)) mNil))) mNil))))))) (gN 0)) (sRet (mArg kAll (mCons (mLc (iSeq (mV 0)) (gTp 2 (gsCons (gN 1) (gsCons (gN 2) gsNil))) tYs m_by_hand_1 [1, 2]) mNil))))))
@[irreducible] def F_by_hand : Fm := fnRun 3 m_by_hand
/-! _law_draw -/
abbrev s_draw : Stmt := topS 42
def d_draw : He.DefD := ⟨("_law_draw", none), "_law_draw", "_law_draw", defArgs s_draw, defBody s_draw, defScope s_draw, [], []⟩
abbrev N_draw : List Str := (["_law_pool_here", "_law_many", "_law_seed", "_law_digit"] : List Str)
abbrev ps_draw : List Str := (["_law_pool_here", "_law_many"] : List Str)
def m_draw : MSx := (sSeq (sAsg (m2 kAdd (m2 kIx (mV 0) (mC (.int 2))) (mC (.int 1))) (gAt (mV 0) (mC (.int 2)))) (sSeq (sAsg (m2 kIx (mV 0) (mC (.int 0))) (gN 2)) (sSeq (sAsg (m2 kMod (m2 kAdd (m2 kAdd (m2 kMul (mV 2) (m2 kAdd (m2 kMod (mV 2) (mC (.int 40993))) (mC (.int 30013)))) (m2 kMul (mC (.int 70001)) (m2 kIx (mV 0) (mC (.int 2))))) (mC (.int 9))) (mC (.int 2147483179))) (gAt (mV 0) (mC (.int 0)))) (sSeq (sIf (tV (m2 kGt (m2 kIx (mV 0) (mC (.int 1))) (mC (.int 0)))) (sSeq (sAsg (mArg kDivmod (mCons (m2 kIx (mV 0) (mC (.int 1))) (mCons (mV 1) mNil))) (gTp 2 (gsCons (gAt (mV 0) (mC (.int 1))) (gsCons (gN 3) gsNil)))) (sRet (mV 3))) sNil) (sRet (m2 kMod (m2 kDiv (m2 kIx (mV 0) (mC (.int 0))) (mC (.int 64))) (mV 1)))))))
def F_draw : Fm := fnRun 4 m_draw
/-! _law_flows -/
abbrev s_flows : Stmt := topS 43
def d_flows : He.DefD := ⟨("_law_flows", none), "_law_flows", "_law_flows", defArgs s_flows, defBody s_flows, defScope s_flows, [], []⟩
abbrev N_flows : List Str := ((["_law_pool_here", "_law_size", "_law_most_in", "_law_people", "_law_comes", "_law_goes", "_law_here", "_law_spare", "_law_k", "_law_way"] : List Str) ++ (["_law_new", "_law_gone"] : List Str))
abbrev ps_flows : List Str := (["_law_pool_here", "_law_size", "_law_most_in", "_law_people"] : List Str)
def m_flows_1 : MSx := (sSeq (sAsg (mCall F_draw 2 0 2 [] [0, 1] (mCons (mV 0) (mCons (mC (.int 6)) mNil)) mNil) (gN 9)) (sSeq (sAsg (mArg kMin (mCons (mV 7) (mCons (m2 kIx (mArg kLst (mCons (mC (.int 0)) (mCons (mC (.int 0)) (mCons (mC (.int 1)) (mCons (mV 2) (mCons (mCall F_draw 2 0 2 [] [0, 1] (mCons (mV 0) (mCons (m2 kAdd (mV 2) (mC (.int 1))) mNil)) mNil) (mCons (mCall F_draw 2 0 2 [] [0, 1] (mCons (mV 0) (mCons (m2 kAdd (mV 2) (mC (.int 1))) mNil)) mNil) mNil))))))) (mV 9)) mNil))) (gN 10)) (sSeq (sPar [6, 7] (mCons (m2 kAdd (mV 6) (mV 10)) (mCons (m2 kSub (mV 7) (mV 10)) mNil))) (sSeq (sAsg (mCall F_draw 2 0 2 [] [0, 1] (mCons (mV 0) (mCons (mC (.int 6)) mNil)) mNil) (gN 9)) (sSeq (sAsg (m2 kIx (mArg kLst (mCons (mC (.int 0)) (mCons (mV 6) (mCons (mArg kMin (mCons (mC (.int 1)) (mCons (mV 6) mNil))) (mCons (mCall F_draw 2 0 2 [] [0, 1] (mCons (mV 0) (mCons (m2 kAdd (mV 6) (mC (.int 1))) mNil)) mNil) (mCons (mCall F_draw 2 0 2 [] [0, 1] (mCons (mV 0) (mCons (m2 kAdd (mV 6) (mC (.int 1))) mNil)) mNil) (mCons (mArg kMin (mCons (mV 6) (mCons (mV 10) mNil))) mNil))))))) (mV 9)) (gN 11)) (sSeq (sDrop (mMt "list" kAppend (mV 4) (mCons (mV 10) mNil))) (sSeq (sDrop (mMt "list" kAppend (mV 5) (mCons (mV 11) mNil))) (sAsg (m2 kSub (mV 6) (mV 11)) (gN 6)))))))))
def m_flows : MSx := (sSeq (sAsg (mArg kTup (mCons (mArg kLst mNil) (mCons (mArg kLst mNil) (mCons (mC (.int 0)) (mCons (mV 3) mNil))))) (gTp 4 (gsCons (gN 4) (gsCons (gN 5) (gsCons (gN 6) (gsCons (gN 7) gsNil)))))) (sSeq (sFor (iRg1 (mCons (mV 1) mNil)) (gN 8) m_flows_1) (sRet (mArg kLst (mCons (mArg kTuple (mCons (mV 4) mNil)) (mCons (mArg kTuple (mCons (mV 5) mNil)) mNil))))))
def F_flows : Fm := fnRun 12 m_flows
/-! _law_small_flows -/
abbrev s_small_flows : Stmt := topS 44
def d_small_flows : He.DefD := ⟨("_law_small_flows", none), "_law_small_flows", "_law_small_flows", defArgs s_small_flows, defBody s_small_flows, defScope s_small_flows, [], []⟩
abbrev N_small_flows : List Str := (["_law_pool_here"] : List Str)
abbrev ps_small_flows : List Str := (["_law_pool_here"] : List Str)
def m_small_flows : MSx := (sRet (mCall F_flows 4 0 4 [] [0, 1, 2, 3] (mCons (mV 0) (mCons (m2 kAdd (mC (.int 1)) (mCall F_draw 2 0 2 [] [0, 1] (mCons (mV 0) (mCons (mC (.int 5)) mNil)) mNil)) (mCons (mC (.int 3)) (mCons (mC (.int 6)) mNil)))) mNil))
def F_small_flows : Fm := fnRun 1 m_small_flows
/-! _law_great_flows -/
abbrev s_great_flows : Stmt := topS 45
def d_great_flows : He.DefD := ⟨("_law_great_flows", none), "_law_great_flows", "_law_great_flows", defArgs s_great_flows, defBody s_great_flows, defScope s_great_flows, [], []⟩
abbrev N_great_flows : List Str := (["_law_pool_here"] : List Str)
abbrev ps_great_flows : List Str := (["_law_pool_here"] : List Str)
def m_great_flows : MSx := (sSeq (sIf (tV (m2 kEq2 (mCall F_draw 2 0 2 [] [0, 1] (mCons (mV 0) (mCons (mC (.int 3)) mNil)) mNil) (mC (.int 1)))) (sRet (mCall F_flows 4 0 4 [] [0, 1, 2, 3] (mCons (mV 0) (mCons (m2 kAdd (mC (.int 1)) (mCall F_draw 2 0 2 [] [0, 1] (mCons (mV 0) (mCons (mC (.int 60)) mNil)) mNil)) (mCons (m2 kIx (mArg kLst (mCons (mC (.int 1)) (mCons (mC (.int 40)) (mCons (mC (.int 999)) mNil)))) (mCall F_draw 2 0 2 [] [0, 1] (mCons (mV 0) (mCons (mC (.int 3)) mNil)) mNil)) (mCons (mC (.int 999)) mNil)))) mNil)) sNil) (sRet (mCall F_flows 4 0 4 [] [0, 1, 2, 3] (mCons (mV 0) (mCons (m2 kAdd (mC (.int 1)) (mCall F_draw 2 0 2 [] [0, 1] (mCons (mV 0) (mCons (mC (.int 12)) mNil)) mNil)) (mCons (mC (.int 5)) (mCons (mC (.int 60)) mNil)))) mNil)))
def F_great_flows : Fm := fnRun 1 m_great_flows
/-! _law_any_flows -/
abbrev s_any_flows : Stmt := topS 47
def d_any_flows : He.DefD := ⟨("_law_any_flows", none), "_law_any_flows", "_law_any_flows", defArgs s_any_flows, defBody s_any_flows, defScope s_any_flows, [], []⟩
abbrev N_any_flows : List Str := (["_law_pool_here"] : List Str)
abbrev ps_any_flows : List Str := (["_law_pool_here"] : List Str)
def m_any_flows : MSx := (sRet (mIf (tV (m2 kEq2 (mCall F_draw 2 0 2 [] [0, 1] (mCons (mV 0) (mCons (mC (.int 3)) mNil)) mNil) (mC (.int 0)))) (mCall F_small_flows 1 0 1 [] [0] (mCons (mV 0) mNil) mNil) (mCall F_great_flows 1 0 1 [] [0] (mCons (mV 0) mNil) mNil)))
def F_any_flows : Fm := fnRun 1 m_any_flows
/-! _law_bent -/
abbrev s_bent : Stmt := topS 52
def d_bent : He.DefD := ⟨("_law_bent", none), "_law_bent", "_law_bent", defArgs s_bent, defBody s_bent, defScope s_bent, [], []⟩
abbrev N_bent : List Str := (["_law_pool_here", "_law_row", "_law_odd", "_law_at", "_law_way", "_law_some"] : List Str)
abbrev ps_bent : List Str := (["_law_pool_here", "_law_row"] : List Str)
def m_bent : MSx := (sSeq (sPar [2, 3] (mCons (mArg kLst (mCons (m1 kNeg (mC (.int 1))) (mCons (mC (.int 1000)) (mCons (mC (.bl true)) (mCons (mC (.bl false)) (mCons (mC .non) (mCons (mC (.str "1")) (mCons (m2 kPow (mC (.int 10)) (mC (.int 20))) (mCons (mArg kTup (mCons (mC (.int 1)) mNil)) (mCons (mArg kLst (mCons (mC (.int 1)) mNil)) (mCons (mC (.str "")) (mCons (mC (.int 999)) (mCons (mC (.int 1)) mNil))))))))))))) (mCons (mCall F_draw 2 0 2 [] [0, 1] (mCons (mV 0) (mCons (mArg (kLenO [("Counts", F_Counts_len)]) (mCons (mV 1) mNil)) mNil)) mNil) mNil))) (sSeq (sAsg (mCall F_draw 2 0 2 [] [0, 1] (mCons (mV 0) (mCons (mC (.int 10)) mNil)) mNil) (gN 4)) (sSeq (sIf (tV (m2 kLt (mV 4) (mC (.int 6)))) (sRet (m2 kAdd (m2 kAdd (mSl (mV 1) oNone (oSome (mV 3))) (mArg kTup (mCons (m2 kIx (mV 2) (mCall F_draw 2 0 2 [] [0, 1] (mCons (mV 0) (mCons (mC (.int 12)) mNil)) mNil)) mNil))) (mSl (mV 1) (oSome (m2 kAdd (mV 3) (mC (.int 1)))) oNone))) sNil) (sSeq (sAsg (mArg kLst (mCons (m2 kAdd (m2 kAdd (mSl (mV 1) oNone (oSome (mV 3))) (mArg kTup (mCons (m2 kAdd (m2 kIx (mV 1) (mV 3)) (mC (.int 1))) mNil))) (mSl (mV 1) (oSome (m2 kAdd (mV 3) (mC (.int 1)))) oNone)) (mCons (mSl (mV 1) (oSome (mC (.int 1))) oNone) (mCons (m2 kAdd (mV 1) (mSl (mV 1) (oSome (m1 kNeg (mC (.int 1)))) oNone)) (mCons (mArg kList (mCons (mV 1) mNil)) mNil))))) (gN 5)) (sRet (m2 kIx (mV 5) (m2 kSub (mV 4) (mC (.int 6)))))))))
def F_bent : Fm := fnRun 6 m_bent
/-! _law_right -/
abbrev s_right : Stmt := topS 53
def d_right : He.DefD := ⟨("_law_right", none), "_law_right", "_law_right", defArgs s_right, defBody s_right, defScope s_right, [], []⟩
abbrev N_right : List Str := (["_law_pool_here", "_law_comes", "_law_goes", "_law_turn", "_law_way", "_law_pair"] : List Str)
abbrev ps_right : List Str := (["_law_pool_here"] : List Str)
def m_right_1 : MSx := (sSeq (sAsg (mCall F_draw 2 0 2 [] [0, 1] (mCons (mV 0) (mCons (mC (.int 8)) mNil)) mNil) (gN 4)) (sSeq (sAsg (mArg kLst (mCons (mIf (tV (m2 kNe2 (mV 4) (mC (.int 1)))) (mCall F_bent 2 0 2 [] [0, 1] (mCons (mV 0) (mCons (mV 1) mNil)) mNil) (mV 1)) (mCons (mIf (tV (m2 kGt (mV 4) (mC (.int 4)))) (mCall F_bent 2 0 2 [] [0, 1] (mCons (mV 0) (mCons (mV 2) mNil)) mNil) (mV 2)) mNil))) (gN 5)) (sSeq (sIf (tV (m2 kEq2 (mV 4) (mC (.int 1)))) (sAsg (mCall F_bent 2 0 2 [] [0, 1] (mCons (mV 0) (mCons (mV 2) mNil)) mNil) (gAt (mV 5) (mC (.int 1)))) sNil) (sSeq (sIf (tV (m2 kEq2 (mV 4) (mC (.int 2)))) (sAsg (m2 kIx (mArg kLst (mCons (mC .non) (mCons (mC (.int 0)) (mCons (mC (.str "")) (mCons mDict0 (mCons (mArg kLst mNil) (mCons (mArg kTup mNil) (mCons (mC (.str "1/0")) (mCons (mArg kTup (mCons (mArg kTup (mCons (mC (.int 1)) mNil)) (mCons (mArg kTup (mCons (mC (.int 0)) mNil)) mNil))) (mCons (mC (.bl true)) (mCons (mC (.int 7)) mNil))))))))))) (mCall F_draw 2 0 2 [] [0, 1] (mCons (mV 0) (mCons (mC (.int 10)) mNil)) mNil)) (gAt (mV 5) (mCall F_draw 2 0 2 [] [0, 1] (mCons (mV 0) (mCons (mC (.int 2)) mNil)) mNil))) sNil) (sIf (tO (tNt (tTr (mCall F_pair_right 2 0 2 [] [0, 1] (mCons (m2 kIx (mV 5) (mC (.int 0))) (mCons (m2 kIx (mV 5) (mC (.int 1))) mNil)) mNil))) (tNt (tTr (mCall F_pair_right 2 0 2 [] [0, 1] (mCons (mV 1) (mCons (mV 2) mNil)) mNil)))) (sRet (mC (.bl false))) sNil)))))
def m_right : MSx := (sSeq (sAsg (mCall F_any_flows 1 0 1 [] [0] (mCons (mV 0) mNil) mNil) (gTp 2 (gsCons (gN 1) (gsCons (gN 2) gsNil)))) (sSeq (sFor (iRg1 (mCons (mC (.int 12)) mNil)) (gN 3) m_right_1) (sRet (mC (.bl true)))))
def F_right : Fm := fnRun 6 m_right
/-! _law_pool -/
abbrev s_pool : Stmt := topS 41
def d_pool : He.DefD := ⟨("_law_pool", none), "_law_pool", "_law_pool", defArgs s_pool, defBody s_pool, defScope s_pool, [], []⟩
abbrev N_pool : List Str := (["_law_cell_here", "_law_digits"] : List Str)
abbrev ps_pool : List Str := (["_law_cell_here"] : List Str)
def m_pool : MSx := (sSeq (sAsg (mIf (tO (tV (m2 kLt (mV 0) (mC (.int 0)))) (tV (m2 kGe (mV 0) (m2 kPow (mC (.int 10)) (mC (.int 18)))))) (mArg kAbs (mCons (mV 0) mNil)) (mC (.int 0))) (gN 1)) (sRet (mArg kLst (mCons (m2 kMod (mV 0) (mC (.int 2147483179))) (mCons (mV 1) (mCons (mC (.int 0)) mNil))))))
def F_pool : Fm := fnRun 2 m_pool
/-! _law_cell -/
abbrev s_cell : Stmt := topS 40
def d_cell : He.DefD := ⟨("_law_cell", none), "_law_cell", "_law_cell", defArgs s_cell, defBody s_cell, defScope s_cell, [], []⟩
abbrev N_cell : List Str := (["_law_cells", "_law_k", "_law_seed", "_law_part"] : List Str)
abbrev ps_cell : List Str := (["_law_cells", "_law_k"] : List Str)
def m_cell_1 : MSx := (sAsg (m2 kMod (m2 kAdd (m2 kMul (mV 2) (mC (.int 42019))) (mV 3)) (mC (.int 2147483179))) (gN 2))
def m_cell : MSx := (sSeq (sIf (tV (m2 kLt (mV 1) (mArg (kLenO [("Counts", F_Counts_len)]) (mCons (mV 0) mNil)))) (sRet (m2 kIx (mV 0) (mV 1))) sNil) (sSeq (sAsg (m2 kMod (m2 kMul (mC (.int 70009)) (m2 kAdd (m2 kAdd (m2 kMul (mV 1) (mV 1)) (m2 kMul (mC (.int 7)) (mV 1))) (mC (.int 19)))) (mC (.int 2147483179))) (gN 2)) (sSeq (sFor (iSeq (mSl (mV 0) oNone (oSome (mC (.int 3))))) (gN 3) m_cell_1) (sRet (mV 2)))))
def F_cell : Fm := fnRun 4 m_cell
/-! law -/
abbrev s_law : Stmt := topS 55
def d_law : He.DefD := ⟨("law", none), "law", "law", defArgs s_law, defBody s_law, defScope s_law, [], []⟩
abbrev N_law : List Str := (["_law_cells", "_law_k"] : List Str)
abbrev ps_law : List Str := (["_law_cells"] : List Str)
def m_law_1 : MEx := (mCall F_right 1 0 1 [] [0] (mCons (mCall F_pool 1 0 1 [] [0] (mCons (mCall F_cell 2 0 2 [] [0, 1] (mCons (mV 0) (mCons (mV 1) mNil)) mNil) mNil) mNil) mNil) mNil)
def m_law : MSx := (sSeq (sIf (tNt (tTr (mCall F_by_hand 0 0 0 [] [] mNil mNil))) (sRet (mC (.bl false))) sNil) (sRet (mArg kAll (mCons (mLc (iRg1 (mCons (mArg kMax (mCons (mC (.int 2)) (mCons (mArg kMin (mCons (mArg (kLenO [("Counts", F_Counts_len)]) (mCons (mV 0) mNil)) (mCons (mC (.int 6)) mNil))) mNil))) mNil)) (gN 1) tYs m_law_1 [1]) mNil))))
def F_law : Fm := fnRun 2 m_law
end K02

namespace K02
open PySem PySem.Spec PyProof.Rows L2 Mc
structure Ev (K : Frag) (mg : Mg) : Prop where
  g_CountError : mg "CountError" = some (.ref (He.ga K "CountError"))
  g_Counts : mg "Counts" = some (.ref (He.ga K "Counts"))
  g_Impossible : mg "Impossible" = some (.ref (He.ga K "Impossible"))
  g_InvalidCommand : mg "InvalidCommand" = some (.ref (He.ga K "InvalidCommand"))
  g_InvalidCounts : mg "InvalidCounts" = some (.ref (He.ga K "InvalidCounts"))
  g_InvalidDeed : mg "InvalidDeed" = some (.ref (He.ga K "InvalidDeed"))
  g_InvalidDoors : mg "InvalidDoors" = some (.ref (He.ga K "InvalidDoors"))
  g_InvalidHistory : mg "InvalidHistory" = some (.ref (He.ga K "InvalidHistory"))
  g_InvalidLength : mg "InvalidLength" = some (.ref (He.ga K "InvalidLength"))
  g_InvalidName : mg "InvalidName" = some (.ref (He.ga K "InvalidName"))
  g_InvalidNumber : mg "InvalidNumber" = some (.ref (He.ga K "InvalidNumber"))
  g_InvalidStay : mg "InvalidStay" = some (.ref (He.ga K "InvalidStay"))
  g_InvalidText : mg "InvalidText" = some (.ref (He.ga K "InvalidText"))
  g_InvalidTick : mg "InvalidTick" = some (.ref (He.ga K "InvalidTick"))
  g_LimitBroken : mg "LimitBroken" = some (.ref (He.ga K "LimitBroken"))
  g_LimitError : mg "LimitError" = some (.ref (He.ga K "LimitError"))
  g_NotCounts : mg "NotCounts" = some (.ref (He.ga K "NotCounts"))
  g_NotKnown : mg "NotKnown" = some (.ref (He.ga K "NotKnown"))
  g_NothingToUndo : mg "NothingToUndo" = some (.ref (He.ga K "NothingToUndo"))
  g_SearchError : mg "SearchError" = some (.ref (He.ga K "SearchError"))
  g_TooMany : mg "TooMany" = some (.ref (He.ga K "TooMany"))
  g__law_any_flows : mg "_law_any_flows" = some (.ref (He.ga K "_law_any_flows"))
  g__law_bent : mg "_law_bent" = some (.ref (He.ga K "_law_bent"))
  g__law_by_hand : mg "_law_by_hand" = some (.ref (He.ga K "_law_by_hand"))
  g__law_cell : mg "_law_cell" = some (.ref (He.ga K "_law_cell"))
  g__law_draw : mg "_law_draw" = some (.ref (He.ga K "_law_draw"))
  g__law_error : mg "_law_error" = some (.ref (He.ga K "_law_error"))
  g__law_flows : mg "_law_flows" = some (.ref (He.ga K "_law_flows"))
  g__law_great_flows : mg "_law_great_flows" = some (.ref (He.ga K "_law_great_flows"))
  g__law_pair_right : mg "_law_pair_right" = some (.ref (He.ga K "_law_pair_right"))
  g__law_pool : mg "_law_pool" = some (.ref (He.ga K "_law_pool"))
  g__law_right : mg "_law_right" = some (.ref (He.ga K "_law_right"))
  g__law_small_flows : mg "_law_small_flows" = some (.ref (He.ga K "_law_small_flows"))
  g__law_told : mg "_law_told" = some (.ref (He.ga K "_law_told"))
  g__law_written : mg "_law_written" = some (.ref (He.ga K "_law_written"))
  g__law_wrong : mg "_law_wrong" = some (.ref (He.ga K "_law_wrong"))
  g_is_integer : mg "is_integer" = some (.ref (He.ga K "is_integer"))
  g_is_same_size : mg "is_same_size" = some (.ref (He.ga K "is_same_size"))
  g_law : mg "law" = some (.ref (He.ga K "law"))
  g_wrong_tick : mg "wrong_tick" = some (.ref (He.ga K "wrong_tick"))
  b_ArithmeticError : mg "ArithmeticError" = none
  b_LookupError : mg "LookupError" = none
  b_ValueError : mg "ValueError" = none
  b_abs : mg "abs" = none
  b_all : mg "all" = none
  b_bool : mg "bool" = none
  b_divmod : mg "divmod" = none
  b_enumerate : mg "enumerate" = none
  b_int : mg "int" = none
  b_isinstance : mg "isinstance" = none
  b_len : mg "len" = none
  b_list : mg "list" = none
  b_max : mg "max" = none
  b_min : mg "min" = none
  b_range : mg "range" = none
  b_repr : mg "repr" = none
  b_str : mg "str" = none
  b_tuple : mg "tuple" = none
  b_zip : mg "zip" = none
  v_MOST_PEOPLE : ∃ t, mg "MOST_PEOPLE" = some (.int 999 t)
  v_MOST_TICKS : ∃ t, mg "MOST_TICKS" = some (.int 60 t)
  f_Counts_len : ∃ fd, FunD K d_Counts_len.name d_Counts_len.qual d_Counts_len.params d_Counts_len.body d_Counts_len.scope [] [] (He.fAd K d_Counts_len.at_) fd
  f_wrong : ∃ fd, FunD K d_wrong.name d_wrong.qual d_wrong.params d_wrong.body d_wrong.scope [] [] (He.fAd K d_wrong.at_) fd
  f_written : ∃ fd, FunD K d_written.name d_written.qual d_written.params d_written.body d_written.scope [] [] (He.fAd K d_written.at_) fd
  f_is_same_size : ∃ fd, FunD K d_is_same_size.name d_is_same_size.qual d_is_same_size.params d_is_same_size.body d_is_same_size.scope [] [] (He.fAd K d_is_same_size.at_) fd
  f_is_integer : ∃ fd, FunD K d_is_integer.name d_is_integer.qual d_is_integer.params d_is_integer.body d_is_integer.scope [] [] (He.fAd K d_is_integer.at_) fd
  f_wrong_tick : ∃ fd, FunD K d_wrong_tick.name d_wrong_tick.qual d_wrong_tick.params d_wrong_tick.body d_wrong_tick.scope [] [] (He.fAd K d_wrong_tick.at_) fd
  f_Counts_init : ∃ fd, FunD K d_Counts_init.name d_Counts_init.qual d_Counts_init.params d_Counts_init.body d_Counts_init.scope [] [] (He.fAd K d_Counts_init.at_) fd
  f_error : ∃ fd, FunD K d_error.name d_error.qual d_error.params d_error.body d_error.scope [] [] (He.fAd K d_error.at_) fd
  f_Counts_str : ∃ fd, FunD K d_Counts_str.name d_Counts_str.qual d_Counts_str.params d_Counts_str.body d_Counts_str.scope [] [] (He.fAd K d_Counts_str.at_) fd
  f_told : ∃ fd, FunD K d_told.name d_told.qual d_told.params d_told.body d_told.scope [] [] (He.fAd K d_told.at_) fd
  f_pair_right : ∃ fd, FunD K d_pair_right.name d_pair_right.qual d_pair_right.params d_pair_right.body d_pair_right.scope [] [] (He.fAd K d_pair_right.at_) fd
  f_by_hand : ∃ fd, FunD K d_by_hand.name d_by_hand.qual d_by_hand.params d_by_hand.body d_by_hand.scope [] [] (He.fAd K d_by_hand.at_) fd
  f_draw : ∃ fd, FunD K d_draw.name d_draw.qual d_draw.params d_draw.body d_draw.scope [] [] (He.fAd K d_draw.at_) fd
  f_flows : ∃ fd, FunD K d_flows.name d_flows.qual d_flows.params d_flows.body d_flows.scope [] [] (He.fAd K d_flows.at_) fd
  f_small_flows : ∃ fd, FunD K d_small_flows.name d_small_flows.qual d_small_flows.params d_small_flows.body d_small_flows.scope [] [] (He.fAd K d_small_flows.at_) fd
  f_great_flows : ∃ fd, FunD K d_great_flows.name d_great_flows.qual d_great_flows.params d_great_flows.body d_great_flows.scope [] [] (He.fAd K d_great_flows.at_) fd
  f_any_flows : ∃ fd, FunD K d_any_flows.name d_any_flows.qual d_any_flows.params d_any_flows.body d_any_flows.scope [] [] (He.fAd K d_any_flows.at_) fd
  f_bent : ∃ fd, FunD K d_bent.name d_bent.qual d_bent.params d_bent.body d_bent.scope [] [] (He.fAd K d_bent.at_) fd
  f_right : ∃ fd, FunD K d_right.name d_right.qual d_right.params d_right.body d_right.scope [] [] (He.fAd K d_right.at_) fd
  f_pool : ∃ fd, FunD K d_pool.name d_pool.qual d_pool.params d_pool.body d_pool.scope [] [] (He.fAd K d_pool.at_) fd
  f_cell : ∃ fd, FunD K d_cell.name d_cell.qual d_cell.params d_cell.body d_cell.scope [] [] (He.fAd K d_cell.at_) fd
  f_law : ∃ fd, FunD K d_law.name d_law.qual d_law.params d_law.body d_law.scope [] [] (He.fAd K d_law.at_) fd
  c_Counts : Cls K (He.ga K "Counts")
  mk_Counts : Mk K (He.ga K "Counts") (He.ma K (He.ga K "Counts") "__init__")
  n_Counts_arrivals : NoAttr K (He.ga K "Counts") "arrivals"
  n_Counts_departures : NoAttr K (He.ga K "Counts") "departures"
  m_Counts_len : Meth K (He.ga K "Counts") "__len__" (He.ma K (He.ga K "Counts") "__len__")
  m_Counts_str : Meth K (He.ga K "Counts") "__str__" (He.ma K (He.ga K "Counts") "__str__")
  m_InvalidCounts_init : Meth K (He.ga K "InvalidCounts") "__init__" (He.ma K (He.ga K "InvalidCounts") "__init__")
  f_InvalidCounts_init : ∃ fd, FunD K d_InvalidCounts_init.name d_InvalidCounts_init.qual d_InvalidCounts_init.params d_InvalidCounts_init.body d_InvalidCounts_init.scope [] [] (He.fAd K d_InvalidCounts_init.at_) fd
  x_InvalidCounts : XcC K (He.ga K "InvalidCounts")
  xn_InvalidCounts : ∀ f ∈ (["tick"] : List Str), PySem.W.findIn K (.ref (He.ga K "InvalidCounts")) f = some none
  xf_tick : XfOk K (["InvalidCounts"] : List Str) "tick"
  exm_0 : ExmOk K (["InvalidCounts"] : List Str) (["CountError", "SearchError", "LimitError"] : List Str)
  isx : ∀ u, IsxOk K isxF u
  isa : ∀ u, IsaOk K isaF u
section
variable {P : Program} {w : World} {K : Frag} {mg : Mg} {base : Heap}
theorem sc_InvalidCounts_init : FnScope N_InvalidCounts_init ps_InvalidCounts_init (defScope s_InvalidCounts_init) := ⟨rfl, rfl, rfl, by decide +kernel, rfl, by decide +kernel, by decide +kernel⟩
theorem xi_InvalidCounts (E : Ev K mg) : XI P w K mg base "InvalidCounts" (["tick"] : List Str) := by
  obtain ⟨fd, D⟩ := E.f_InvalidCounts_init
  exact xi_1 E.x_InvalidCounts E.xn_InvalidCounts E.m_InvalidCounts_init D sc_InvalidCounts_init (Or.inl rfl) (Or.inl rfl) (fun _ _ _ _ _ _ us hl => match us, hl with | [_, _], _ => rfl)
theorem sc_Counts_len : FnScope N_Counts_len ps_Counts_len (defScope s_Counts_len) := ⟨rfl, rfl, rfl, by decide +kernel, rfl, by decide +kernel, by decide +kernel⟩
theorem ok_Counts_len (hS : SmOk base) (E : Ev K mg) : ∃ fd, FunD K d_Counts_len.name d_Counts_len.qual d_Counts_len.params d_Counts_len.body d_Counts_len.scope [] [] (He.fAd K d_Counts_len.at_) fd ∧ FnM P w K mg base 2 (He.fAd K d_Counts_len.at_) fd ps_Counts_len F_Counts_len := by
  obtain ⟨fd, D⟩ := E.f_Counts_len
  refine ⟨fd, D, FunD_okM (k := 1) D sc_Counts_len fun cdv A outer s H E1 hr => ?_⟩
  refine mss_one ?_
  exact (ms_ret (me_callB call_len cm_len (by rfl) E.b_len boot_len (ma_cons (me_fld (me_var (i := 0)) (by intro c hc; simp at hc; rcases hc with rfl <;> first | exact ⟨E.c_Counts, E.n_Counts_arrivals⟩)) ma_nil)))
theorem sc_wrong : FnScope N_wrong ps_wrong (defScope s_wrong) := ⟨rfl, rfl, rfl, by decide +kernel, rfl, by decide +kernel, by decide +kernel⟩
theorem ok_wrong (hS : SmOk base) (E : Ev K mg) : ∃ fd, FunD K d_wrong.name d_wrong.qual d_wrong.params d_wrong.body d_wrong.scope [] [] (He.fAd K d_wrong.at_) fd ∧ FnM P w K mg base 4 (He.fAd K d_wrong.at_) fd ps_wrong F_wrong := by
  obtain ⟨fd, D⟩ := E.f_wrong
  obtain ⟨fd_Counts_len, D_Counts_len, G_Counts_len⟩ := ok_Counts_len (P := P) (w := w) (base := base) hS E
  have B_Counts_len_1 : Bd K fd_Counts_len ps_Counts_len 1 ([] : List Str) [] [0] := bd_no D_Counts_len 1 ([] : List Str) [0] (fun _ _ _ _ _ _ us ws h1 h2 => match us, ws, h1, h2 with | [_], [], _, _ => rfl)
  refine ⟨fd, D, FunD_okM (k := 3) D sc_wrong fun cdv A outer s H E1 hr => ?_⟩
  refine mss_cons ?_ ?_
  · refine ms_if (mt_w (mw_or (mt_not (mt_tru (me_isi (E.isa (.b "tuple")) (by rfl) E.b_isinstance (me_var (i := 0)) (me_bty (by rfl) E.b_tuple (by decide +kernel))))) (mw_or (mt_not (mt_tru (me_isi (E.isa (.b "tuple")) (by rfl) E.b_isinstance (me_var (i := 1)) (me_bty (by rfl) E.b_tuple (by decide +kernel))))) (mw_or1 (mt_cmp (op_ne.or (op_neD hr.rm.units)) om_ne2 (me_len (k := 2) (hr.mono (by decide)) (by exact takes_of rfl rfl rfl rfl) (lens_cons (len_ok E.m_Counts_len (G_Counts_len.mono (by decide)) B_Counts_len_1 rfl) lens_nil) (by rfl) E.b_len (ma_cons (me_var (i := 0)) ma_nil)) (me_len (k := 2) (hr.mono (by decide)) (by exact takes_of rfl rfl rfl rfl) (lens_cons (len_ok E.m_Counts_len (G_Counts_len.mono (by decide)) B_Counts_len_1 rfl) lens_nil) (by rfl) E.b_len (ma_cons (me_var (i := 1)) ma_nil)) (nomark _)))))) ?_ ?_
    · refine mss_one ?_
      exact (ms_ret (me_lst (ma_cons me_non ma_nil)))
    · exact mss_nil
  refine mss_cons ?_ ?_
  · refine ms_if (mt_not (mt_chain me_int (Links.cons op_lt om_lt (me_len (k := 2) (hr.mono (by decide)) (by exact takes_of rfl rfl rfl rfl) (lens_cons (len_ok E.m_Counts_len (G_Counts_len.mono (by decide)) B_Counts_len_1 rfl) lens_nil) (by rfl) E.b_len (ma_cons (me_var (i := 0)) ma_nil)) (Links.cons op_lt om_lt me_int Links.nil)))) ?_ ?_
    · refine mss_one ?_
      exact (ms_ret (me_lst (ma_cons me_non ma_nil)))
    · exact mss_nil
  refine mss_cons ?_ ?_
  · exact (ms_asg (me_tup (ma_cons me_int (ma_cons me_int ma_nil))) (mg_tup (by rfl) (mgs_cons (mg_name (i := 2) sc_wrong.nd (by rfl) (by first | exact Or.inl rfl | exact Or.inr rfl)) (mgs_cons (mg_name (i := 3) sc_wrong.nd (by rfl) (by first | exact Or.inl rfl | exact Or.inr rfl)) mgs_nil))))
  refine mss_cons ?_ ?_
  · refine ms_for (by exact passes_of rfl) (by rfl) ?_ ?_ ?_
    · exact (mi_range1 (by rfl) E.b_range (ma_cons (me_len (k := 2) (hr.mono (by decide)) (by exact takes_of rfl rfl rfl rfl) (lens_cons (len_ok E.m_Counts_len (G_Counts_len.mono (by decide)) B_Counts_len_1 rfl) lens_nil) (by rfl) E.b_len (ma_cons (me_var (i := 0)) ma_nil)) ma_nil))
    · exact (mg_name (i := 4) sc_wrong.nd (by rfl) (by first | exact Or.inl rfl | exact Or.inr rfl))
    · refine mss_cons ?_ ?_
      · refine ms_for (by exact passes_of rfl) (by rfl) ?_ ?_ ?_
        · exact (mi_seq (me_lst (ma_cons (me_ix (me_var (i := 0)) (me_var (i := 4))) (ma_cons (me_ix (me_var (i := 1)) (me_var (i := 4))) ma_nil))))
        · exact (mg_name (i := 5) sc_wrong.nd (by rfl) (by first | exact Or.inl rfl | exact Or.inr rfl))
        · refine mss_one ?_
          refine ms_if (mt_w (mw_or (mt_tru (me_isi (E.isa (.b "bool")) (by rfl) E.b_isinstance (me_var (i := 5)) (me_bty (by rfl) E.b_bool (by decide +kernel)))) (mw_or (mt_not (mt_tru (me_isi (E.isa (.b "int")) (by rfl) E.b_isinstance (me_var (i := 5)) (me_bty (by rfl) E.b_int (by decide +kernel))))) (mw_or1 (mt_not (mt_chain me_int (Links.cons op_le om_le (me_var (i := 5)) (Links.cons op_le om_le me_int Links.nil)))))))) ?_ ?_
          · refine mss_one ?_
            exact (ms_ret (me_lst (ma_cons (me_var (i := 4)) ma_nil)))
          · exact mss_nil
      refine mss_cons ?_ ?_
      · exact (ms_par2 (i := 2) (j := 3) (by rfl) sc_wrong.nd (by rfl) (by rfl) (by decide) (by rfl) (by rfl) (ma_cons (me_add (me_var (i := 2)) (me_ix (me_var (i := 0)) (me_var (i := 4)))) (ma_cons (me_sub (me_add (me_var (i := 3)) (me_ix (me_var (i := 0)) (me_var (i := 4)))) (me_ix (me_var (i := 1)) (me_var (i := 4)))) ma_nil)) (by rfl))
      refine mss_one ?_
      refine ms_if (mt_w (mw_or (mt_cmp op_gt om_gt (me_var (i := 2)) me_int (nomark _)) (mw_or1 (mt_cmp op_lt om_lt (me_var (i := 3)) me_int (nomark _))))) ?_ ?_
      · refine mss_one ?_
        exact (ms_ret (me_lst (ma_cons (me_var (i := 4)) ma_nil)))
      · exact mss_nil
  refine mss_one ?_
  exact (ms_ret (me_lst ma_nil))
theorem sc_written : FnScope N_written ps_written (defScope s_written) := ⟨rfl, rfl, rfl, by decide +kernel, rfl, by decide +kernel, by decide +kernel⟩
theorem ok_written (hS : SmOk base) (E : Ev K mg) : ∃ fd, FunD K d_written.name d_written.qual d_written.params d_written.body d_written.scope [] [] (He.fAd K d_written.at_) fd ∧ FnM P w K mg base 4 (He.fAd K d_written.at_) fd ps_written F_written := by
  obtain ⟨fd, D⟩ := E.f_written
  obtain ⟨fd_Counts_len, D_Counts_len, G_Counts_len⟩ := ok_Counts_len (P := P) (w := w) (base := base) hS E
  have B_Counts_len_1 : Bd K fd_Counts_len ps_Counts_len 1 ([] : List Str) [] [0] := bd_no D_Counts_len 1 ([] : List Str) [0] (fun _ _ _ _ _ _ us ws h1 h2 => match us, ws, h1, h2 with | [_], [], _, _ => rfl)
  refine ⟨fd, D, FunD_okM (k := 3) D sc_written fun cdv A outer s H E1 hr => ?_⟩
  refine mss_one ?_
  exact (ms_ret (me_join me_str (ma_cons (me_lc (by rfl) sc_written.nd (mi_range1 (by rfl) E.b_range (ma_cons (me_len (k := 2) (hr.mono (by decide)) (by exact takes_of rfl rfl rfl rfl) (lens_cons (len_ok E.m_Counts_len (G_Counts_len.mono (by decide)) B_Counts_len_1 rfl) lens_nil) (by rfl) E.b_len (ma_cons (me_var (i := 0)) ma_nil)) ma_nil)) (blkOk_by (own := [("_law_k", 2)]) (by show blkC N_written (defScope s_written) _ _ = true; decide +kernel)) (fun _ _ _ _ _ => (mg_name (i := 2) sc_written.nd (by rfl) (by first | exact Or.inl rfl | exact Or.inr rfl))) (fun _ _ _ _ _ => mts_nil) (fun _ _ _ _ _ => (me_add (me_add (me_strO (k := 0) (hr.mono (by decide)) takes0 strs_nil (by rfl) E.b_str (ma_cons (me_ix (me_var (i := 0)) (me_var (i := 2))) ma_nil)) me_str) (me_strO (k := 0) (hr.mono (by decide)) takes0 strs_nil (by rfl) E.b_str (ma_cons (me_ix (me_var (i := 1)) (me_var (i := 2))) ma_nil))))) ma_nil)))
theorem sc_is_same_size : FnScope N_is_same_size ps_is_same_size (defScope s_is_same_size) := ⟨rfl, rfl, rfl, by decide +kernel, rfl, by decide +kernel, by decide +kernel⟩
theorem ok_is_same_size (hS : SmOk base) (E : Ev K mg) : ∃ fd, FunD K d_is_same_size.name d_is_same_size.qual d_is_same_size.params d_is_same_size.body d_is_same_size.scope [] [] (He.fAd K d_is_same_size.at_) fd ∧ FnM P w K mg base 4 (He.fAd K d_is_same_size.at_) fd ps_is_same_size F_is_same_size := by
  obtain ⟨fd, D⟩ := E.f_is_same_size
  obtain ⟨fd_Counts_len, D_Counts_len, G_Counts_len⟩ := ok_Counts_len (P := P) (w := w) (base := base) hS E
  have B_Counts_len_1 : Bd K fd_Counts_len ps_Counts_len 1 ([] : List Str) [] [0] := bd_no D_Counts_len 1 ([] : List Str) [0] (fun _ _ _ _ _ _ us ws h1 h2 => match us, ws, h1, h2 with | [_], [], _, _ => rfl)
  refine ⟨fd, D, FunD_okM (k := 3) D sc_is_same_size fun cdv A outer s H E1 hr => ?_⟩
  refine mss_cons ?_ ?_
  · refine ms_if (mt_w (mw_or (mt_not (mt_tru (me_isi (E.isa (.b "tuple")) (by rfl) E.b_isinstance (me_var (i := 0)) (me_bty (by rfl) E.b_tuple (by decide +kernel))))) (mw_or1 (mt_not (mt_tru (me_isi (E.isa (.b "tuple")) (by rfl) E.b_isinstance (me_var (i := 1)) (me_bty (by rfl) E.b_tuple (by decide +kernel)))))))) ?_ ?_
    · refine mss_one ?_
      exact (ms_ret me_bl)
    · exact mss_nil
  refine mss_one ?_
  exact (ms_ret (me_and (me_cmp (op_eq.or (op_eqD hr.rm.units)) om_eq2 (me_len (k := 2) (hr.mono (by decide)) (by exact takes_of rfl rfl rfl rfl) (lens_cons (len_ok E.m_Counts_len (G_Counts_len.mono (by decide)) B_Counts_len_1 rfl) lens_nil) (by rfl) E.b_len (ma_cons (me_var (i := 0)) ma_nil)) (me_len (k := 2) (hr.mono (by decide)) (by exact takes_of rfl rfl rfl rfl) (lens_cons (len_ok E.m_Counts_len (G_Counts_len.mono (by decide)) B_Counts_len_1 rfl) lens_nil) (by rfl) E.b_len (ma_cons (me_var (i := 1)) ma_nil)) (nomark _)) (me_one (me_chain me_int (Links.cons op_le om_le (me_len (k := 2) (hr.mono (by decide)) (by exact takes_of rfl rfl rfl rfl) (lens_cons (len_ok E.m_Counts_len (G_Counts_len.mono (by decide)) B_Counts_len_1 rfl) lens_nil) (by rfl) E.b_len (ma_cons (me_var (i := 0)) ma_nil)) (Links.cons op_le om_le (me_gint (by rfl) E.v_MOST_TICKS) Links.nil))))))
theorem sc_is_integer : FnScope N_is_integer ps_is_integer (defScope s_is_integer) := ⟨rfl, rfl, rfl, by decide +kernel, rfl, by decide +kernel, by decide +kernel⟩
theorem ok_is_integer (hS : SmOk base) (E : Ev K mg) : ∃ fd, FunD K d_is_integer.name d_is_integer.qual d_is_integer.params d_is_integer.body d_is_integer.scope [] [] (He.fAd K d_is_integer.at_) fd ∧ FnM P w K mg base 2 (He.fAd K d_is_integer.at_) fd ps_is_integer F_is_integer := by
  obtain ⟨fd, D⟩ := E.f_is_integer
  refine ⟨fd, D, FunD_okM (k := 1) D sc_is_integer fun cdv A outer s H E1 hr => ?_⟩
  refine mss_one ?_
  exact (ms_ret (me_and (me_isi (E.isa (.b "int")) (by rfl) E.b_isinstance (me_var (i := 0)) (me_bty (by rfl) E.b_int (by decide +kernel))) (me_and (me_not (me_isi (E.isa (.b "bool")) (by rfl) E.b_isinstance (me_var (i := 0)) (me_bty (by rfl) E.b_bool (by decide +kernel)))) (me_one (me_chain (me_var (i := 1)) (Links.cons op_le om_le (me_var (i := 0)) (Links.cons op_le om_le (me_var (i := 2)) Links.nil)))))))
theorem sc_wrong_tick : FnScope N_wrong_tick ps_wrong_tick (defScope s_wrong_tick) := ⟨rfl, rfl, rfl, by decide +kernel, rfl, by decide +kernel, by decide +kernel⟩
theorem ok_wrong_tick (hS : SmOk base) (E : Ev K mg) : ∃ fd, FunD K d_wrong_tick.name d_wrong_tick.qual d_wrong_tick.params d_wrong_tick.body d_wrong_tick.scope [] [] (He.fAd K d_wrong_tick.at_) fd ∧ FnM P w K mg base 3 (He.fAd K d_wrong_tick.at_) fd ps_wrong_tick F_wrong_tick := by
  obtain ⟨fd, D⟩ := E.f_wrong_tick
  obtain ⟨fd_is_integer, D_is_integer, G_is_integer⟩ := ok_is_integer (P := P) (w := w) (base := base) hS E
  have B_is_integer_3 : Bd K fd_is_integer ps_is_integer 3 ([] : List Str) [] [0, 1, 2] := bd_no D_is_integer 3 ([] : List Str) [0, 1, 2] (fun _ _ _ _ _ _ us ws h1 h2 => match us, ws, h1, h2 with | [_, _, _], [], _, _ => rfl)
  refine ⟨fd, D, FunD_okM (k := 2) D sc_wrong_tick fun cdv A outer s H E1 hr => ?_⟩
  refine mss_cons ?_ ?_
  · exact (ms_asg2 me_int (mg_name (i := 2) sc_wrong_tick.nd (by rfl) (by first | exact Or.inl rfl | exact Or.inr rfl)) (mg_name (i := 3) sc_wrong_tick.nd (by rfl) (by first | exact Or.inl rfl | exact Or.inr rfl)))
  refine mss_cons ?_ ?_
  · refine ms_for (by exact passes_of rfl) (by rfl) ?_ ?_ ?_
    · exact (mi_enum (by rfl) E.b_enumerate (ma_cons (me_var (i := 0)) ma_nil))
    · exact (mg_tup (by rfl) (mgs_cons (mg_name (i := 4) sc_wrong_tick.nd (by rfl) (by first | exact Or.inl rfl | exact Or.inr rfl)) (mgs_cons (mg_name (i := 5) sc_wrong_tick.nd (by rfl) (by first | exact Or.inl rfl | exact Or.inr rfl)) mgs_nil)))
    · refine mss_cons ?_ ?_
      · refine ms_ifW (mtw_or (mt_not (mt_tru (me_call (ps := ps_is_integer) G_is_integer (hr.mono (by decide)) takes0 (by rfl) E.g_is_integer D_is_integer.kp B_is_integer_3 (ma_cons (me_var (i := 5)) (ma_cons me_int (ma_cons (me_gint (by rfl) E.v_MOST_PEOPLE) ma_nil)))))) (mtw_not (mtw_call (i := 6) (ps := ps_is_integer) G_is_integer (hr.mono (by decide)) sc_wrong_tick.nd (by rfl) E.g_is_integer D_is_integer.kp B_is_integer_3 (by rfl) (by first | exact Or.inl rfl | exact Or.inr rfl) (me_ix (me_var (i := 1)) (me_var (i := 4))) (ma_cons me_int (ma_cons (me_gint (by rfl) E.v_MOST_PEOPLE) ma_nil)) (tk := takes0)))) ?_ ?_
        · refine mss_one ?_
          exact (ms_ret (me_var (i := 4)))
        · exact mss_nil
      refine mss_cons ?_ ?_
      · exact (ms_par2 (i := 2) (j := 3) (by rfl) sc_wrong_tick.nd (by rfl) (by rfl) (by decide) (by rfl) (by rfl) (ma_cons (me_add (me_var (i := 2)) (me_var (i := 5))) (ma_cons (me_sub (me_add (me_var (i := 3)) (me_var (i := 5))) (me_var (i := 6))) ma_nil)) (by rfl))
      refine mss_one ?_
      refine ms_if (mt_w (mw_or (mt_cmp op_gt om_gt (me_var (i := 2)) (me_gint (by rfl) E.v_MOST_PEOPLE) (nomark _)) (mw_or1 (mt_cmp op_lt om_lt (me_var (i := 3)) me_int (nomark _))))) ?_ ?_
      · refine mss_one ?_
        exact (ms_ret (me_var (i := 4)))
      · exact mss_nil
  refine mss_one ?_
  exact (ms_ret me_non)
theorem sc_Counts_init : FnScope N_Counts_init ps_Counts_init (defScope s_Counts_init) := ⟨rfl, rfl, rfl, by decide +kernel, rfl, by decide +kernel, by decide +kernel⟩
theorem ok_Counts_init (hS : SmOk base) (E : Ev K mg) : ∃ fd, FunD K d_Counts_init.name d_Counts_init.qual d_Counts_init.params d_Counts_init.body d_Counts_init.scope [] [] (He.fAd K d_Counts_init.at_) fd ∧ FnM P w K mg base 5 (He.fAd K d_Counts_init.at_) fd ps_Counts_init F_Counts_init := by
  obtain ⟨fd, D⟩ := E.f_Counts_init
  obtain ⟨fd_is_same_size, D_is_same_size, G_is_same_size⟩ := ok_is_same_size (P := P) (w := w) (base := base) hS E
  obtain ⟨fd_wrong_tick, D_wrong_tick, G_wrong_tick⟩ := ok_wrong_tick (P := P) (w := w) (base := base) hS E
  have XI_InvalidCounts := xi_InvalidCounts (P := P) (w := w) (base := base) E
  have B_is_same_size_2 : Bd K fd_is_same_size ps_is_same_size 2 ([] : List Str) [] [0, 1] := bd_no D_is_same_size 2 ([] : List Str) [0, 1] (fun _ _ _ _ _ _ us ws h1 h2 => match us, ws, h1, h2 with | [_, _], [], _, _ => rfl)
  have B_wrong_tick_2 : Bd K fd_wrong_tick ps_wrong_tick 2 ([] : List Str) [] [0, 1] := bd_no D_wrong_tick 2 ([] : List Str) [0, 1] (fun _ _ _ _ _ _ us ws h1 h2 => match us, ws, h1, h2 with | [_, _], [], _, _ => rfl)
  refine ⟨fd, D, FunD_okM (k := 4) D sc_Counts_init fun cdv A outer s H E1 hr => ?_⟩
  refine mss_cons ?_ ?_
  · refine ms_if (mt_not (mt_tru (me_call (ps := ps_is_same_size) G_is_same_size (hr.mono (by decide)) (by exact takes_of rfl rfl rfl rfl) (by rfl) E.g_is_same_size D_is_same_size.kp B_is_same_size_2 (ma_cons (me_var (i := 1)) (ma_cons (me_var (i := 2)) ma_nil))))) ?_ ?_
    · refine mss_one ?_
      exact (ms_raiseI (by rfl) (by exact takes_of rfl rfl rfl rfl) XI_InvalidCounts (hr.mono (by decide)) (by rfl) E.g_InvalidCounts (by decide) (ma_cons me_non ma_nil))
    · exact mss_nil
  refine mss_cons ?_ ?_
  · exact (ms_set (i := 3) sc_Counts_init.nd (me_call (ps := ps_wrong_tick) G_wrong_tick (hr.mono (by decide)) (by exact takes_of rfl rfl rfl rfl) (by rfl) E.g_wrong_tick D_wrong_tick.kp B_wrong_tick_2 (ma_cons (me_var (i := 1)) (ma_cons (me_var (i := 2)) ma_nil))))
  refine mss_cons ?_ ?_
  · refine ms_if (mt_cmp op_notN om_notN (me_var (i := 3)) me_non (nomark _)) ?_ ?_
    · refine mss_one ?_
      exact (ms_raiseI (by rfl) (by exact takes_of rfl rfl rfl rfl) XI_InvalidCounts (hr.mono (by decide)) (by rfl) E.g_InvalidCounts (by decide) (ma_cons (me_var (i := 3)) ma_nil))
    · exact mss_nil
  refine mss_cons ?_ ?_
  · exact (ms_fld (me_var (i := 0)) (me_var (i := 1)) (by intro c hc; simp at hc; subst hc; exact ⟨E.c_Counts, E.n_Counts_arrivals⟩))
  refine mss_one ?_
  exact (ms_fld (me_var (i := 0)) (me_var (i := 2)) (by intro c hc; simp at hc; subst hc; exact ⟨E.c_Counts, E.n_Counts_departures⟩))
theorem sc_error : FnScope N_error ps_error (defScope s_error) := ⟨rfl, rfl, rfl, by decide +kernel, rfl, by decide +kernel, by decide +kernel⟩
theorem ok_error (hS : SmOk base) (E : Ev K mg) : ∃ fd, FunD K d_error.name d_error.qual d_error.params d_error.body d_error.scope [] [] (He.fAd K d_error.at_) fd ∧ FnT P w K mg base 2 (He.fAd K d_error.at_) fd ps_error F_error := by
  obtain ⟨fd, D⟩ := E.f_error
  refine ⟨fd, D, FunD_okT (k := 1) D sc_error fun cdv A outer s H E1 hr => ?_⟩
  refine mss_cons ?_ ?_
  · exact (ms_set (i := 1) sc_error.nd (me_lst (ma_cons (me_isx (E.isx (.c "InvalidCounts")) (by rfl) E.b_isinstance (me_var (i := 0)) (me_gcls (by rfl) E.g_InvalidCounts)) (ma_cons (me_isx (E.isx (.c "NotCounts")) (by rfl) E.b_isinstance (me_var (i := 0)) (me_gcls (by rfl) E.g_NotCounts)) (ma_cons (me_isx (E.isx (.c "InvalidTick")) (by rfl) E.b_isinstance (me_var (i := 0)) (me_gcls (by rfl) E.g_InvalidTick)) ma_nil)))))
  refine mss_cons ?_ ?_
  · exact (ms_set (i := 1) sc_error.nd (me_add (me_var (i := 1)) (me_lst (ma_cons (me_isx (E.isx (.c "InvalidNumber")) (by rfl) E.b_isinstance (me_var (i := 0)) (me_gcls (by rfl) E.g_InvalidNumber)) (ma_cons (me_isx (E.isx (.c "InvalidText")) (by rfl) E.b_isinstance (me_var (i := 0)) (me_gcls (by rfl) E.g_InvalidText)) (ma_cons (me_isx (E.isx (.c "InvalidStay")) (by rfl) E.b_isinstance (me_var (i := 0)) (me_gcls (by rfl) E.g_InvalidStay)) ma_nil))))))
  refine mss_cons ?_ ?_
  · exact (ms_set (i := 1) sc_error.nd (me_add (me_var (i := 1)) (me_lst (ma_cons (me_isx (E.isx (.c "InvalidHistory")) (by rfl) E.b_isinstance (me_var (i := 0)) (me_gcls (by rfl) E.g_InvalidHistory)) (ma_cons (me_isx (E.isx (.c "InvalidName")) (by rfl) E.b_isinstance (me_var (i := 0)) (me_gcls (by rfl) E.g_InvalidName)) (ma_cons (me_isx (E.isx (.c "InvalidLength")) (by rfl) E.b_isinstance (me_var (i := 0)) (me_gcls (by rfl) E.g_InvalidLength)) ma_nil))))))
  refine mss_cons ?_ ?_
  · exact (ms_set (i := 1) sc_error.nd (me_add (me_var (i := 1)) (me_lst (ma_cons (me_isx (E.isx (.c "InvalidDoors")) (by rfl) E.b_isinstance (me_var (i := 0)) (me_gcls (by rfl) E.g_InvalidDoors)) (ma_cons (me_isx (E.isx (.c "InvalidDeed")) (by rfl) E.b_isinstance (me_var (i := 0)) (me_gcls (by rfl) E.g_InvalidDeed)) (ma_cons (me_isx (E.isx (.c "InvalidCommand")) (by rfl) E.b_isinstance (me_var (i := 0)) (me_gcls (by rfl) E.g_InvalidCommand)) ma_nil))))))
  refine mss_cons ?_ ?_
  · exact (ms_set (i := 1) sc_error.nd (me_add (me_var (i := 1)) (me_lst (ma_cons (me_isx (E.isx (.c "Impossible")) (by rfl) E.b_isinstance (me_var (i := 0)) (me_gcls (by rfl) E.g_Impossible)) (ma_cons (me_isx (E.isx (.c "NotKnown")) (by rfl) E.b_isinstance (me_var (i := 0)) (me_gcls (by rfl) E.g_NotKnown)) (ma_cons (me_isx (E.isx (.c "LimitBroken")) (by rfl) E.b_isinstance (me_var (i := 0)) (me_gcls (by rfl) E.g_LimitBroken)) ma_nil))))))
  refine mss_cons ?_ ?_
  · exact (ms_set (i := 1) sc_error.nd (me_add (me_var (i := 1)) (me_lst (ma_cons (me_isx (E.isx (.c "NothingToUndo")) (by rfl) E.b_isinstance (me_var (i := 0)) (me_gcls (by rfl) E.g_NothingToUndo)) (ma_cons (me_isx (E.isx (.c "TooMany")) (by rfl) E.b_isinstance (me_var (i := 0)) (me_gcls (by rfl) E.g_TooMany)) ma_nil)))))
  refine mss_cons ?_ ?_
  · exact (ms_set (i := 2) sc_error.nd (me_lst (ma_cons (me_isx (E.isx (.c "CountError")) (by rfl) E.b_isinstance (me_var (i := 0)) (me_gcls (by rfl) E.g_CountError)) (ma_cons (me_isx (E.isx (.c "SearchError")) (by rfl) E.b_isinstance (me_var (i := 0)) (me_gcls (by rfl) E.g_SearchError)) (ma_cons (me_isx (E.isx (.c "LimitError")) (by rfl) E.b_isinstance (me_var (i := 0)) (me_gcls (by rfl) E.g_LimitError)) ma_nil)))))
  refine mss_cons ?_ ?_
  · exact (ms_set (i := 3) sc_error.nd (me_lst (ma_cons (me_isx (E.isx (.b "ValueError")) (by rfl) E.b_isinstance (me_var (i := 0)) (me_bty (by rfl) E.b_ValueError (by decide +kernel))) (ma_cons (me_isx (E.isx (.b "LookupError")) (by rfl) E.b_isinstance (me_var (i := 0)) (me_bty (by rfl) E.b_LookupError (by decide +kernel))) (ma_cons (me_isx (E.isx (.b "ArithmeticError")) (by rfl) E.b_isinstance (me_var (i := 0)) (me_bty (by rfl) E.b_ArithmeticError (by decide +kernel))) ma_nil)))))
  refine mss_cons ?_ ?_
  · refine ms_if (mt_w (mw_or (mt_cmp (op_ne.or (op_neD hr.units)) om_ne2 (me_count (me_var (i := 1)) (ma_cons me_bl ma_nil)) me_int (nomark _)) (mw_or1 (mt_cmp (op_ne.or (op_neD hr.units)) om_ne2 (me_var (i := 3)) (me_var (i := 2)) (nomark _))))) ?_ ?_
    · refine mss_one ?_
      exact (ms_ret (me_neg me_int))
    · exact mss_nil
  refine mss_cons ?_ ?_
  · exact (ms_set (i := 4) sc_error.nd (me_index (me_var (i := 1)) (ma_cons me_bl ma_nil)))
  refine mss_one ?_
  exact (ms_ret (me_ifExp (mt_cmp (op_eq.or (op_eqD hr.units)) om_eq2 (me_var (i := 2)) (me_lst (ma_cons (me_cmp op_lt om_lt (me_var (i := 4)) me_int (nomark _)) (ma_cons (me_chain me_int (Links.cons op_lt om_lt (me_var (i := 4)) (Links.cons op_lt om_lt me_int Links.nil))) (ma_cons (me_cmp (op_eq.or (op_eqD hr.units)) om_eq2 (me_var (i := 4)) me_int (nomark _)) ma_nil)))) (nomark _)) (me_var (i := 4)) (me_neg me_int)))
theorem sc_Counts_str : FnScope N_Counts_str ps_Counts_str (defScope s_Counts_str) := ⟨rfl, rfl, rfl, by decide +kernel, rfl, by decide +kernel, by decide +kernel⟩
theorem ok_Counts_str (hS : SmOk base) (E : Ev K mg) : ∃ fd, FunD K d_Counts_str.name d_Counts_str.qual d_Counts_str.params d_Counts_str.body d_Counts_str.scope [] [] (He.fAd K d_Counts_str.at_) fd ∧ FnM P w K mg base 2 (He.fAd K d_Counts_str.at_) fd ps_Counts_str F_Counts_str := by
  obtain ⟨fd, D⟩ := E.f_Counts_str
  refine ⟨fd, D, FunD_okM (k := 1) D sc_Counts_str fun cdv A outer s H E1 hr => ?_⟩
  refine mss_one ?_
  exact (ms_ret (me_join me_str (ma_cons (me_lc (by rfl) sc_Counts_str.nd (mi_zip2 (by rfl) E.b_zip (ma_cons (me_fld (me_var (i := 0)) (by intro c hc; simp at hc; rcases hc with rfl <;> first | exact ⟨E.c_Counts, E.n_Counts_arrivals⟩)) (ma_cons (me_fld (me_var (i := 0)) (by intro c hc; simp at hc; rcases hc with rfl <;> first | exact ⟨E.c_Counts, E.n_Counts_departures⟩)) ma_nil))) (blkOk_by (own := [("new", 1), ("gone", 2)]) (by show blkC N_Counts_str (defScope s_Counts_str) _ _ = true; decide +kernel)) (fun _ _ _ _ _ => (mg_tup (by rfl) (mgs_cons (mg_name (i := 1) sc_Counts_str.nd (by rfl) (by first | exact Or.inl rfl | exact Or.inr rfl)) (mgs_cons (mg_name (i := 2) sc_Counts_str.nd (by rfl) (by first | exact Or.inl rfl | exact Or.inr rfl)) mgs_nil)))) (fun _ _ _ _ _ => mts_nil) (fun _ _ _ _ _ => (me_joined (MJ.cons (me_fmt (me_var (i := 1))) (MJ.cons me_str (MJ.cons (me_fmt (me_var (i := 2))) MJ.nil)))))) ma_nil)))
theorem sc_told : FnScope N_told ps_told (defScope s_told) := ⟨rfl, rfl, rfl, by decide +kernel, rfl, by decide +kernel, by decide +kernel⟩
theorem ok_told (hS : SmOk base) (E : Ev K mg) : ∃ fd, FunD K d_told.name d_told.qual d_told.params d_told.body d_told.scope [] [] (He.fAd K d_told.at_) fd ∧ FnM P w K mg base 7 (He.fAd K d_told.at_) fd ps_told F_told := by
  obtain ⟨fd, D⟩ := E.f_told
  obtain ⟨fd_Counts_init, D_Counts_init, G_Counts_init⟩ := ok_Counts_init (P := P) (w := w) (base := base) hS E
  obtain ⟨fd_error, D_error, GT_error⟩ := ok_error (P := P) (w := w) (base := base) hS E
  have G_error := GT_error.calm
  obtain ⟨fd_Counts_str, D_Counts_str, G_Counts_str⟩ := ok_Counts_str (P := P) (w := w) (base := base) hS E
  have B_Counts_init_1_departures_arrivals : Bd K fd_Counts_init ps_Counts_init 1 (["departures", "arrivals"] : List Str) [] [0, 2, 1] := bd_no D_Counts_init 1 (["departures", "arrivals"] : List Str) [0, 2, 1] (fun _ _ _ _ _ _ us ws h1 h2 => match us, ws, h1, h2 with | [_], [_, _], _, _ => rfl)
  have B_Counts_init_3 : Bd K fd_Counts_init ps_Counts_init 3 ([] : List Str) [] [0, 1, 2] := bd_no D_Counts_init 3 ([] : List Str) [0, 1, 2] (fun _ _ _ _ _ _ us ws h1 h2 => match us, ws, h1, h2 with | [_, _, _], [], _, _ => rfl)
  have B_error_1 : Bd K fd_error ps_error 1 ([] : List Str) [] [0] := bd_no D_error 1 ([] : List Str) [0] (fun _ _ _ _ _ _ us ws h1 h2 => match us, ws, h1, h2 with | [_], [], _, _ => rfl)
  have B_Counts_str_1 : Bd K fd_Counts_str ps_Counts_str 1 ([] : List Str) [] [0] := bd_no D_Counts_str 1 ([] : List Str) [0] (fun _ _ _ _ _ _ us ws h1 h2 => match us, ws, h1, h2 with | [_], [], _, _ => rfl)
  refine ⟨fd, D, FunD_okM (k := 6) D sc_told fun cdv A outer s H E1 hr => ?_⟩
  refine mss_cons ?_ ?_
  · refine ms_try_as (i := 4) (by rfl) (by rfl) sc_told.nd (by rfl) (by rfl) (tst_3 (by rfl) E.g_CountError (by rfl) E.g_SearchError (by rfl) E.g_LimitError) E.exm_0 ?_ ?_
    · intro W1 pn1 xe1 tk1 px1
      refine mss_one ?_
      exact (ms_set (i := 3) sc_told.nd (me_ifExp (mt_tru (me_var (i := 2))) (me_makeK0 (ks := (["departures", "arrivals"] : List Str)) (ps := ps_Counts_init) E.mk_Counts G_Counts_init (hr.mono (by decide)) tk1 (by rfl) E.g_Counts B_Counts_init_1_departures_arrivals (mk_cons (me_var (i := 1)) (mk_cons (me_var (i := 0)) mk_nil))) (me_make (ps := ps_Counts_init) E.mk_Counts G_Counts_init (hr.mono (by decide)) tk1 (by rfl) E.g_Counts B_Counts_init_3 (ma_cons (me_var (i := 0)) (ma_cons (me_var (i := 1)) ma_nil)))))
    · intro a1 pn1
      have hr := RoomG.mark (v := some (.ref a1)) hr
      refine mss_one ?_
      exact (ms_ret (me_lst (ma_cons (me_callT (ps := ps_error) GT_error (hr.mono (by decide)) takes0 (by rfl) E.g__law_error D_error.kp B_error_1 (ma_cons (me_var (i := 4)) ma_nil)) (ma_cons (me_ifExp (mt_tru (me_isx (E.isx (.c "InvalidCounts")) (by rfl) E.b_isinstance (me_var (i := 4)) (me_gcls (by rfl) E.g_InvalidCounts))) (me_reprXT hS hr (by rfl) E.b_repr (ma_cons (me_xf (me_var (i := 4)) E.xf_tick) ma_nil)) me_str) ma_nil))))
  refine mss_one ?_
  exact (ms_ret (me_lst (ma_cons me_str (ma_cons (me_strO (k := 2) (hr.mono (by decide)) (by exact takes_of rfl rfl rfl rfl) (strs_cons (str_ok E.m_Counts_str (G_Counts_str.mono (by decide)) B_Counts_str_1 rfl) strs_nil) (by rfl) E.b_str (ma_cons (me_var (i := 3)) ma_nil)) ma_nil))))
theorem sc_pair_right : FnScope N_pair_right ps_pair_right (defScope s_pair_right) := ⟨rfl, rfl, rfl, by decide +kernel, rfl, by decide +kernel, by decide +kernel⟩
theorem ok_pair_right (hS : SmOk base) (E : Ev K mg) : ∃ fd, FunD K d_pair_right.name d_pair_right.qual d_pair_right.params d_pair_right.body d_pair_right.scope [] [] (He.fAd K d_pair_right.at_) fd ∧ FnM P w K mg base 8 (He.fAd K d_pair_right.at_) fd ps_pair_right F_pair_right := by
  obtain ⟨fd, D⟩ := E.f_pair_right
  obtain ⟨fd_wrong, D_wrong, G_wrong⟩ := ok_wrong (P := P) (w := w) (base := base) hS E
  obtain ⟨fd_written, D_written, G_written⟩ := ok_written (P := P) (w := w) (base := base) hS E
  obtain ⟨fd_told, D_told, G_told⟩ := ok_told (P := P) (w := w) (base := base) hS E
  have B_wrong_2 : Bd K fd_wrong ps_wrong 2 ([] : List Str) [] [0, 1] := bd_no D_wrong 2 ([] : List Str) [0, 1] (fun _ _ _ _ _ _ us ws h1 h2 => match us, ws, h1, h2 with | [_, _], [], _, _ => rfl)
  have B_written_2 : Bd K fd_written ps_written 2 ([] : List Str) [] [0, 1] := bd_no D_written 2 ([] : List Str) [0, 1] (fun _ _ _ _ _ _ us ws h1 h2 => match us, ws, h1, h2 with | [_, _], [], _, _ => rfl)
  have B_told_3 : Bd K fd_told ps_told 3 ([] : List Str) [] [0, 1, 2] := bd_no D_told 3 ([] : List Str) [0, 1, 2] (fun _ _ _ _ _ _ us ws h1 h2 => match us, ws, h1, h2 with | [_, _, _], [], _, _ => rfl)
  refine ⟨fd, D, FunD_okM (k := 7) D sc_pair_right fun cdv A outer s H E1 hr => ?_⟩
  refine mss_cons ?_ ?_
  · exact (ms_par2 (i := 2) (j := 3) (by rfl) sc_pair_right.nd (by rfl) (by rfl) (by decide) (by rfl) (by rfl) (ma_cons (me_call (ps := ps_wrong) G_wrong (hr.mono (by decide)) (by exact takes_of rfl rfl rfl rfl) (by rfl) E.g__law_wrong D_wrong.kp B_wrong_2 (ma_cons (me_var (i := 0)) (ma_cons (me_var (i := 1)) ma_nil))) (ma_cons (me_reprX hS hr (by rfl) E.b_repr (ma_cons (me_lst (ma_cons (me_var (i := 0)) (ma_cons (me_var (i := 1)) ma_nil))) ma_nil)) ma_nil)) (by rfl))
  refine mss_cons ?_ ?_
  · exact (ms_set (i := 4) sc_pair_right.nd (me_ifExp (mt_cmp (op_ne.or (op_neD hr.rm.units)) om_ne2 (me_var (i := 2)) (me_lst ma_nil) (nomark _)) (me_lst (ma_cons me_int (ma_cons (me_reprX hS hr (by rfl) E.b_repr (ma_cons (me_ix (me_var (i := 2)) me_int) ma_nil)) ma_nil))) (me_lst (ma_cons me_str (ma_cons (me_call (ps := ps_written) G_written (hr.mono (by decide)) (by exact takes_of rfl rfl rfl rfl) (by rfl) E.g__law_written D_written.kp B_written_2 (ma_cons (me_var (i := 0)) (ma_cons (me_var (i := 1)) ma_nil))) ma_nil)))))
  refine mss_cons ?_ ?_
  · exact (ms_setLc (i := 5) (by rfl) sc_pair_right.nd (by rfl) (by rfl) (by exact sw_true rfl rfl rfl rfl) (mi_seq (me_lst (ma_cons me_bl (ma_cons me_bl ma_nil)))) (blkOk_by (own := [("_law_by_name", 6)]) (by show blkC N_pair_right (defScope s_pair_right) _ _ = true; decide +kernel)) (fun _ _ _ _ _ => (mg_name (i := 6) sc_pair_right.nd (by rfl) (by first | exact Or.inl rfl | exact Or.inr rfl))) (fun _ _ _ _ _ => mts_nil) (fun _ _ _ _ _ => (me_call (ps := ps_told) G_told (hr.mono (by decide)) takes0 (by rfl) E.g__law_told D_told.kp B_told_3 (ma_cons (me_var (i := 0)) (ma_cons (me_var (i := 1)) (ma_cons (me_var (i := 6)) ma_nil))))))
  refine mss_one ?_
  exact (ms_ret (me_and (me_cmp (op_eq.or (op_eqD hr.rm.units)) om_eq2 (me_var (i := 5)) (me_lst (ma_cons (me_var (i := 4)) (ma_cons (me_var (i := 4)) ma_nil))) (nomark _)) (me_one (me_cmp (op_eq.or (op_eqD hr.rm.units)) om_eq2 (me_reprX hS hr (by rfl) E.b_repr (ma_cons (me_lst (ma_cons (me_var (i := 0)) (ma_cons (me_var (i := 1)) ma_nil))) ma_nil)) (me_var (i := 3)) (nomark _)))))
theorem sc_by_hand : FnScope N_by_hand ps_by_hand (defScope s_by_hand) := ⟨rfl, rfl, rfl, by decide +kernel, rfl, by decide +kernel, by decide +kernel⟩
theorem ok_by_hand (hS : SmOk base) (E : Ev K mg) : ∃ fd, FunD K d_by_hand.name d_by_hand.qual d_by_hand.params d_by_hand.body d_by_hand.scope [] [] (He.fAd K d_by_hand.at_) fd ∧ FnM P w K mg base 9 (He.fAd K d_by_hand.at_) fd ps_by_hand F_by_hand := by
  obtain ⟨fd, D⟩ := E.f_by_hand
  obtain ⟨fd_pair_right, D_pair_right, G_pair_right⟩ := ok_pair_right (P := P) (w := w) (base := base) hS E
  have B_pair_right_2 : Bd K fd_pair_right ps_pair_right 2 ([] : List Str) [] [0, 1] := bd_no D_pair_right 2 ([] : List Str) [0, 1] (fun _ _ _ _ _ _ us ws h1 h2 => match us, ws, h1, h2 with | [_, _], [], _, _ => rfl)
  unfold F_by_hand
  refine ⟨fd, D, FunD_okM (k := 8) D sc_by_hand fun cdv A outer s H E1 hr => ?_⟩
  refine mss_cons ?_ ?_
  · exact (ms_set (i := 0) sc_by_hand.nd (me_lst (ma_cons (me_tup (ma_cons (me_mul (me_tup (ma_cons me_int ma_nil)) me_int) (ma_cons (me_mul (me_tup (ma_cons me_int ma_nil)) me_int) ma_nil))) (ma_cons (me_tup (ma_cons (me_mul (me_tup (ma_cons me_int ma_nil)) me_int) (ma_cons (me_mul (me_tup (ma_cons me_int ma_nil)) me_int) ma_nil))) (ma_cons (me_tup (ma_cons (me_tup ma_nil) (ma_cons (me_tup ma_nil) ma_nil))) (ma_cons (me_tup (ma_cons (me_tup (ma_cons me_int (ma_cons me_int ma_nil))) (ma_cons (me_tup (ma_cons me_int (ma_cons me_int ma_nil))) ma_nil))) (ma_cons (me_tup (ma_cons (me_tup (ma_cons me_int (ma_cons me_int ma_nil))) (ma_cons (me_tup (ma_cons me_int (ma_cons me_int ma_nil))) ma_nil))) ma_nil)))))))
  refine mss_cons ?_ ?_
  · exact (ms_set (i := 0) sc_by_hand.nd (me_add (me_var (i := 0)) (me_lst (ma_cons (me_tup (ma_cons (me_tup (ma_cons me_int (ma_cons me_int ma_nil))) (ma_cons (me_tup (ma_cons me_int (ma_cons me_int ma_nil))) ma_nil))) (ma_cons (me_tup (ma_cons (me_tup (ma_cons me_int (ma_cons me_int ma_nil))) (ma_cons (me_tup (ma_cons me_int (ma_cons me_int ma_nil))) ma_nil))) (ma_cons (me_tup (ma_cons (me_tup (ma_cons me_int (ma_cons me_int ma_nil))) (ma_cons (me_tup (ma_cons me_int (ma_cons me_int ma_nil))) ma_nil))) (ma_cons (me_tup (ma_cons (me_tup (ma_cons me_bl (ma_cons me_int ma_nil))) (ma_cons (me_tup (ma_cons me_int (ma_cons me_int ma_nil))) ma_nil))) (ma_cons (me_tup (ma_cons (me_tup (ma_cons me_int (ma_cons me_int ma_nil))) (ma_cons (me_tup (ma_cons me_int (ma_cons me_bl ma_nil))) ma_nil))) ma_nil))))))))
  refine mss_cons ?_ ?_
  · exact (ms_set (i := 0) sc_by_hand.nd (me_add (me_var (i := 0)) (me_lst (ma_cons (me_tup (ma_cons (me_tup (ma_cons me_int (ma_cons (me_neg me_int) ma_nil))) (ma_cons (me_tup (ma_cons me_int (ma_cons me_int ma_nil))) ma_nil))) (ma_cons (me_tup (ma_cons (me_tup (ma_cons me_int (ma_cons me_int (ma_cons me_int ma_nil)))) (ma_cons (me_tup (ma_cons me_int (ma_cons me_int (ma_cons me_int ma_nil)))) ma_nil))) (ma_cons (me_tup (ma_cons me_non (ma_cons me_non ma_nil))) (ma_cons (me_tup (ma_cons (me_tup (ma_cons me_int ma_nil)) (ma_cons (me_tup (ma_cons me_int (ma_cons me_int ma_nil))) ma_nil))) (ma_cons (me_tup (ma_cons (me_lst (ma_cons me_int ma_nil)) (ma_cons (me_lst (ma_cons me_int ma_nil)) ma_nil))) ma_nil))))))))
  refine mss_one ?_
  exact (ms_ret (me_callB (cr_all (by rfl)) cm_all (by rfl) E.b_all (by decide +kernel) (ma_cons (me_lc (by rfl) sc_by_hand.nd (mi_seq (me_var (i := 0))) (blkOk_by (own := [("_law_comes", 1), ("_law_goes", 2)]) (by show blkC N_by_hand (defScope s_by_hand) _ _ = true; decide +kernel)) (fun _ _ _ _ _ => (mg_tup (by rfl) (mgs_cons (mg_name (i := 1) sc_by_hand.nd (by rfl) (by first | exact Or.inl rfl | exact Or.inr rfl)) (mgs_cons (mg_name (i := 2) sc_by_hand.nd (by rfl) (by first | exact Or.inl rfl | exact Or.inr rfl)) mgs_nil)))) (fun _ _ _ _ _ => mts_nil) (fun _ _ _ _ _ => (me_call (ps := ps_pair_right) G_pair_right (hr.mono (by decide)) takes0 (by rfl) E.g__law_pair_right D_pair_right.kp B_pair_right_2 (ma_cons (me_var (i := 1)) (ma_cons (me_var (i := 2)) ma_nil))))) ma_nil)))
theorem sc_draw : FnScope N_draw ps_draw (defScope s_draw) := ⟨rfl, rfl, rfl, by decide +kernel, rfl, by decide +kernel, by decide +kernel⟩
theorem ok_draw (hS : SmOk base) (E : Ev K mg) : ∃ fd, FunD K d_draw.name d_draw.qual d_draw.params d_draw.body d_draw.scope [] [] (He.fAd K d_draw.at_) fd ∧ FnM P w K mg base 2 (He.fAd K d_draw.at_) fd ps_draw F_draw := by
  obtain ⟨fd, D⟩ := E.f_draw
  refine ⟨fd, D, FunD_okM (k := 1) D sc_draw fun cdv A outer s H E1 hr => ?_⟩
  refine mss_cons ?_ ?_
  · exact (ms_asg (me_add (me_ix (me_var (i := 0)) me_int) me_int) (mg_at (me_var (i := 0)) me_int))
  refine mss_cons ?_ ?_
  · exact (ms_set (i := 2) sc_draw.nd (me_ix (me_var (i := 0)) me_int))
  refine mss_cons ?_ ?_
  · exact (ms_asg (me_mod (me_add (me_add (me_mul (me_var (i := 2)) (me_add (me_mod (me_var (i := 2)) me_int) me_int)) (me_mul me_int (me_ix (me_var (i := 0)) me_int))) me_int) me_int) (mg_at (me_var (i := 0)) me_int))
  refine mss_cons ?_ ?_
  · refine ms_if (mt_cmp op_gt om_gt (me_ix (me_var (i := 0)) me_int) me_int (nomark _)) ?_ ?_
    · refine mss_cons ?_ ?_
      · exact (ms_asg (me_callB call_divmod cm_divmod (by rfl) E.b_divmod (by decide +kernel) (ma_cons (me_ix (me_var (i := 0)) me_int) (ma_cons (me_var (i := 1)) ma_nil))) (mg_tup (by rfl) (mgs_cons (mg_at (me_var (i := 0)) me_int) (mgs_cons (mg_name (i := 3) sc_draw.nd (by rfl) (by first | exact Or.inl rfl | exact Or.inr rfl)) mgs_nil))))
      refine mss_one ?_
      exact (ms_ret (me_var (i := 3)))
    · exact mss_nil
  refine mss_one ?_
  exact (ms_ret (me_mod (me_div (me_ix (me_var (i := 0)) me_int) me_int) (me_var (i := 1))))
theorem sc_flows : FnScope N_flows ps_flows (defScope s_flows) := ⟨rfl, rfl, rfl, by decide +kernel, rfl, by decide +kernel, by decide +kernel⟩
theorem ok_flows (hS : SmOk base) (E : Ev K mg) : ∃ fd, FunD K d_flows.name d_flows.qual d_flows.params d_flows.body d_flows.scope [] [] (He.fAd K d_flows.at_) fd ∧ FnM P w K mg base 3 (He.fAd K d_flows.at_) fd ps_flows F_flows := by
  obtain ⟨fd, D⟩ := E.f_flows
  obtain ⟨fd_draw, D_draw, G_draw⟩ := ok_draw (P := P) (w := w) (base := base) hS E
  have B_draw_2 : Bd K fd_draw ps_draw 2 ([] : List Str) [] [0, 1] := bd_no D_draw 2 ([] : List Str) [0, 1] (fun _ _ _ _ _ _ us ws h1 h2 => match us, ws, h1, h2 with | [_, _], [], _, _ => rfl)
  refine ⟨fd, D, FunD_okM (k := 2) D sc_flows fun cdv A outer s H E1 hr => ?_⟩
  refine mss_cons ?_ ?_
  · exact (ms_asg (me_tup (ma_cons (me_lst ma_nil) (ma_cons (me_lst ma_nil) (ma_cons me_int (ma_cons (me_var (i := 3)) ma_nil))))) (mg_tup (by rfl) (mgs_cons (mg_name (i := 4) sc_flows.nd (by rfl) (by first | exact Or.inl rfl | exact Or.inr rfl)) (mgs_cons (mg_name (i := 5) sc_flows.nd (by rfl) (by first | exact Or.inl rfl | exact Or.inr rfl)) (mgs_cons (mg_name (i := 6) sc_flows.nd (by rfl) (by first | exact Or.inl rfl | exact Or.inr rfl)) (mgs_cons (mg_name (i := 7) sc_flows.nd (by rfl) (by first | exact Or.inl rfl | exact Or.inr rfl)) mgs_nil))))))
  refine mss_cons ?_ ?_
  · refine ms_for (by exact passes_of rfl) (by rfl) ?_ ?_ ?_
    · exact (mi_range1 (by rfl) E.b_range (ma_cons (me_var (i := 1)) ma_nil))
    · exact (mg_name (i := 8) sc_flows.nd (by rfl) (by first | exact Or.inl rfl | exact Or.inr rfl))
    · refine mss_cons ?_ ?_
      · exact (ms_set (i := 9) sc_flows.nd (me_call (ps := ps_draw) G_draw (hr.mono (by decide)) (by exact takes_of rfl rfl rfl rfl) (by rfl) E.g__law_draw D_draw.kp B_draw_2 (ma_cons (me_var (i := 0)) (ma_cons me_int ma_nil))))
      refine mss_cons ?_ ?_
      · exact (ms_set (i := 10) sc_flows.nd (me_callB ((call_min2 (by rfl)).or (cr_min (by rfl))) cm_min (by rfl) E.b_min (by decide +kernel) (ma_cons (me_var (i := 7)) (ma_cons (me_ix (me_lst (ma_cons me_int (ma_cons me_int (ma_cons me_int (ma_cons (me_var (i := 2)) (ma_cons (me_call (ps := ps_draw) G_draw (hr.mono (by decide)) (by exact takes_of rfl rfl rfl rfl) (by rfl) E.g__law_draw D_draw.kp B_draw_2 (ma_cons (me_var (i := 0)) (ma_cons (me_add (me_var (i := 2)) me_int) ma_nil))) (ma_cons (me_call (ps := ps_draw) G_draw (hr.mono (by decide)) (by exact takes_of rfl rfl rfl rfl) (by rfl) E.g__law_draw D_draw.kp B_draw_2 (ma_cons (me_var (i := 0)) (ma_cons (me_add (me_var (i := 2)) me_int) ma_nil))) ma_nil))))))) (me_var (i := 9))) ma_nil))))
      refine mss_cons ?_ ?_
      · exact (ms_par2 (i := 6) (j := 7) (by rfl) sc_flows.nd (by rfl) (by rfl) (by decide) (by rfl) (by rfl) (ma_cons (me_add (me_var (i := 6)) (me_var (i := 10))) (ma_cons (me_sub (me_var (i := 7)) (me_var (i := 10))) ma_nil)) (by rfl))
      refine mss_cons ?_ ?_
      · exact (ms_set (i := 9) sc_flows.nd (me_call (ps := ps_draw) G_draw (hr.mono (by decide)) (by exact takes_of rfl rfl rfl rfl) (by rfl) E.g__law_draw D_draw.kp B_draw_2 (ma_cons (me_var (i := 0)) (ma_cons me_int ma_nil))))
      refine mss_cons ?_ ?_
      · exact (ms_set (i := 11) sc_flows.nd (me_ix (me_lst (ma_cons me_int (ma_cons (me_var (i := 6)) (ma_cons (me_callB ((call_min2 (by rfl)).or (cr_min (by rfl))) cm_min (by rfl) E.b_min (by decide +kernel) (ma_cons me_int (ma_cons (me_var (i := 6)) ma_nil))) (ma_cons (me_call (ps := ps_draw) G_draw (hr.mono (by decide)) (by exact takes_of rfl rfl rfl rfl) (by rfl) E.g__law_draw D_draw.kp B_draw_2 (ma_cons (me_var (i := 0)) (ma_cons (me_add (me_var (i := 6)) me_int) ma_nil))) (ma_cons (me_call (ps := ps_draw) G_draw (hr.mono (by decide)) (by exact takes_of rfl rfl rfl rfl) (by rfl) E.g__law_draw D_draw.kp B_draw_2 (ma_cons (me_var (i := 0)) (ma_cons (me_add (me_var (i := 6)) me_int) ma_nil))) (ma_cons (me_callB ((call_min2 (by rfl)).or (cr_min (by rfl))) cm_min (by rfl) E.b_min (by decide +kernel) (ma_cons (me_var (i := 6)) (ma_cons (me_var (i := 10)) ma_nil))) ma_nil))))))) (me_var (i := 9))))
      refine mss_cons ?_ ?_
      · exact (ms_expr (me_append (me_var (i := 4)) (ma_cons (me_var (i := 10)) ma_nil)))
      refine mss_cons ?_ ?_
      · exact (ms_expr (me_append (me_var (i := 5)) (ma_cons (me_var (i := 11)) ma_nil)))
      refine mss_one ?_
      exact (ms_set (i := 6) sc_flows.nd (me_sub (me_var (i := 6)) (me_var (i := 11))))
  refine mss_one ?_
  exact (ms_ret (me_lst (ma_cons (me_callTy call_tuple_of cm_tuple (by rfl) E.b_tuple (by decide +kernel) (ma_cons (me_var (i := 4)) ma_nil)) (ma_cons (me_callTy call_tuple_of cm_tuple (by rfl) E.b_tuple (by decide +kernel) (ma_cons (me_var (i := 5)) ma_nil)) ma_nil))))
theorem sc_small_flows : FnScope N_small_flows ps_small_flows (defScope s_small_flows) := ⟨rfl, rfl, rfl, by decide +kernel, rfl, by decide +kernel, by decide +kernel⟩
theorem ok_small_flows (hS : SmOk base) (E : Ev K mg) : ∃ fd, FunD K d_small_flows.name d_small_flows.qual d_small_flows.params d_small_flows.body d_small_flows.scope [] [] (He.fAd K d_small_flows.at_) fd ∧ FnM P w K mg base 4 (He.fAd K d_small_flows.at_) fd ps_small_flows F_small_flows := by
  obtain ⟨fd, D⟩ := E.f_small_flows
  obtain ⟨fd_flows, D_flows, G_flows⟩ := ok_flows (P := P) (w := w) (base := base) hS E
  obtain ⟨fd_draw, D_draw, G_draw⟩ := ok_draw (P := P) (w := w) (base := base) hS E
  have B_flows_4 : Bd K fd_flows ps_flows 4 ([] : List Str) [] [0, 1, 2, 3] := bd_no D_flows 4 ([] : List Str) [0, 1, 2, 3] (fun _ _ _ _ _ _ us ws h1 h2 => match us, ws, h1, h2 with | [_, _, _, _], [], _, _ => rfl)
  have B_draw_2 : Bd K fd_draw ps_draw 2 ([] : List Str) [] [0, 1] := bd_no D_draw 2 ([] : List Str) [0, 1] (fun _ _ _ _ _ _ us ws h1 h2 => match us, ws, h1, h2 with | [_, _], [], _, _ => rfl)
  refine ⟨fd, D, FunD_okM (k := 3) D sc_small_flows fun cdv A outer s H E1 hr => ?_⟩
  refine mss_one ?_
  exact (ms_ret (me_call (ps := ps_flows) G_flows (hr.mono (by decide)) (by exact takes_of rfl rfl rfl rfl) (by rfl) E.g__law_flows D_flows.kp B_flows_4 (ma_cons (me_var (i := 0)) (ma_cons (me_add me_int (me_call (ps := ps_draw) G_draw (hr.mono (by decide)) (by exact takes_of rfl rfl rfl rfl) (by rfl) E.g__law_draw D_draw.kp B_draw_2 (ma_cons (me_var (i := 0)) (ma_cons me_int ma_nil)))) (ma_cons me_int (ma_cons me_int ma_nil))))))
theorem sc_great_flows : FnScope N_great_flows ps_great_flows (defScope s_great_flows) := ⟨rfl, rfl, rfl, by decide +kernel, rfl, by decide +kernel, by decide +kernel⟩
theorem ok_great_flows (hS : SmOk base) (E : Ev K mg) : ∃ fd, FunD K d_great_flows.name d_great_flows.qual d_great_flows.params d_great_flows.body d_great_flows.scope [] [] (He.fAd K d_great_flows.at_) fd ∧ FnM P w K mg base 4 (He.fAd K d_great_flows.at_) fd ps_great_flows F_great_flows := by
  obtain ⟨fd, D⟩ := E.f_great_flows
  obtain ⟨fd_draw, D_draw, G_draw⟩ := ok_draw (P := P) (w := w) (base := base) hS E
  obtain ⟨fd_flows, D_flows, G_flows⟩ := ok_flows (P := P) (w := w) (base := base) hS E
  have B_draw_2 : Bd K fd_draw ps_draw 2 ([] : List Str) [] [0, 1] := bd_no D_draw 2 ([] : List Str) [0, 1] (fun _ _ _ _ _ _ us ws h1 h2 => match us, ws, h1, h2 with | [_, _], [], _, _ => rfl)
  have B_flows_4 : Bd K fd_flows ps_flows 4 ([] : List Str) [] [0, 1, 2, 3] := bd_no D_flows 4 ([] : List Str) [0, 1, 2, 3] (fun _ _ _ _ _ _ us ws h1 h2 => match us, ws, h1, h2 with | [_, _, _, _], [], _, _ => rfl)
  refine ⟨fd, D, FunD_okM (k := 3) D sc_great_flows fun cdv A outer s H E1 hr => ?_⟩
  refine mss_cons ?_ ?_
  · refine ms_if (mt_cmp (op_eq.or (op_eqD hr.rm.units)) om_eq2 (me_call (ps := ps_draw) G_draw (hr.mono (by decide)) (by exact takes_of rfl rfl rfl rfl) (by rfl) E.g__law_draw D_draw.kp B_draw_2 (ma_cons (me_var (i := 0)) (ma_cons me_int ma_nil))) me_int (nomark _)) ?_ ?_
    · refine mss_one ?_
      exact (ms_ret (me_call (ps := ps_flows) G_flows (hr.mono (by decide)) (by exact takes_of rfl rfl rfl rfl) (by rfl) E.g__law_flows D_flows.kp B_flows_4 (ma_cons (me_var (i := 0)) (ma_cons (me_add me_int (me_call (ps := ps_draw) G_draw (hr.mono (by decide)) (by exact takes_of rfl rfl rfl rfl) (by rfl) E.g__law_draw D_draw.kp B_draw_2 (ma_cons (me_var (i := 0)) (ma_cons me_int ma_nil)))) (ma_cons (me_ix (me_lst (ma_cons me_int (ma_cons me_int (ma_cons me_int ma_nil)))) (me_call (ps := ps_draw) G_draw (hr.mono (by decide)) (by exact takes_of rfl rfl rfl rfl) (by rfl) E.g__law_draw D_draw.kp B_draw_2 (ma_cons (me_var (i := 0)) (ma_cons me_int ma_nil)))) (ma_cons me_int ma_nil))))))
    · exact mss_nil
  refine mss_one ?_
  exact (ms_ret (me_call (ps := ps_flows) G_flows (hr.mono (by decide)) (by exact takes_of rfl rfl rfl rfl) (by rfl) E.g__law_flows D_flows.kp B_flows_4 (ma_cons (me_var (i := 0)) (ma_cons (me_add me_int (me_call (ps := ps_draw) G_draw (hr.mono (by decide)) (by exact takes_of rfl rfl rfl rfl) (by rfl) E.g__law_draw D_draw.kp B_draw_2 (ma_cons (me_var (i := 0)) (ma_cons me_int ma_nil)))) (ma_cons me_int (ma_cons me_int ma_nil))))))
theorem sc_any_flows : FnScope N_any_flows ps_any_flows (defScope s_any_flows) := ⟨rfl, rfl, rfl, by decide +kernel, rfl, by decide +kernel, by decide +kernel⟩
theorem ok_any_flows (hS : SmOk base) (E : Ev K mg) : ∃ fd, FunD K d_any_flows.name d_any_flows.qual d_any_flows.params d_any_flows.body d_any_flows.scope [] [] (He.fAd K d_any_flows.at_) fd ∧ FnM P w K mg base 5 (He.fAd K d_any_flows.at_) fd ps_any_flows F_any_flows := by
  obtain ⟨fd, D⟩ := E.f_any_flows
  obtain ⟨fd_draw, D_draw, G_draw⟩ := ok_draw (P := P) (w := w) (base := base) hS E
  obtain ⟨fd_small_flows, D_small_flows, G_small_flows⟩ := ok_small_flows (P := P) (w := w) (base := base) hS E
  obtain ⟨fd_great_flows, D_great_flows, G_great_flows⟩ := ok_great_flows (P := P) (w := w) (base := base) hS E
  have B_draw_2 : Bd K fd_draw ps_draw 2 ([] : List Str) [] [0, 1] := bd_no D_draw 2 ([] : List Str) [0, 1] (fun _ _ _ _ _ _ us ws h1 h2 => match us, ws, h1, h2 with | [_, _], [], _, _ => rfl)
  have B_small_flows_1 : Bd K fd_small_flows ps_small_flows 1 ([] : List Str) [] [0] := bd_no D_small_flows 1 ([] : List Str) [0] (fun _ _ _ _ _ _ us ws h1 h2 => match us, ws, h1, h2 with | [_], [], _, _ => rfl)
  have B_great_flows_1 : Bd K fd_great_flows ps_great_flows 1 ([] : List Str) [] [0] := bd_no D_great_flows 1 ([] : List Str) [0] (fun _ _ _ _ _ _ us ws h1 h2 => match us, ws, h1, h2 with | [_], [], _, _ => rfl)
  refine ⟨fd, D, FunD_okM (k := 4) D sc_any_flows fun cdv A outer s H E1 hr => ?_⟩
  refine mss_one ?_
  exact (ms_ret (me_ifExp (mt_cmp (op_eq.or (op_eqD hr.rm.units)) om_eq2 (me_call (ps := ps_draw) G_draw (hr.mono (by decide)) (by exact takes_of rfl rfl rfl rfl) (by rfl) E.g__law_draw D_draw.kp B_draw_2 (ma_cons (me_var (i := 0)) (ma_cons me_int ma_nil))) me_int (nomark _)) (me_call (ps := ps_small_flows) G_small_flows (hr.mono (by decide)) (by exact takes_of rfl rfl rfl rfl) (by rfl) E.g__law_small_flows D_small_flows.kp B_small_flows_1 (ma_cons (me_var (i := 0)) ma_nil)) (me_call (ps := ps_great_flows) G_great_flows (hr.mono (by decide)) (by exact takes_of rfl rfl rfl rfl) (by rfl) E.g__law_great_flows D_great_flows.kp B_great_flows_1 (ma_cons (me_var (i := 0)) ma_nil))))
theorem sc_bent : FnScope N_bent ps_bent (defScope s_bent) := ⟨rfl, rfl, rfl, by decide +kernel, rfl, by decide +kernel, by decide +kernel⟩
theorem ok_bent (hS : SmOk base) (E : Ev K mg) : ∃ fd, FunD K d_bent.name d_bent.qual d_bent.params d_bent.body d_bent.scope [] [] (He.fAd K d_bent.at_) fd ∧ FnM P w K mg base 4 (He.fAd K d_bent.at_) fd ps_bent F_bent := by
  obtain ⟨fd, D⟩ := E.f_bent
  obtain ⟨fd_draw, D_draw, G_draw⟩ := ok_draw (P := P) (w := w) (base := base) hS E
  obtain ⟨fd_Counts_len, D_Counts_len, G_Counts_len⟩ := ok_Counts_len (P := P) (w := w) (base := base) hS E
  have B_draw_2 : Bd K fd_draw ps_draw 2 ([] : List Str) [] [0, 1] := bd_no D_draw 2 ([] : List Str) [0, 1] (fun _ _ _ _ _ _ us ws h1 h2 => match us, ws, h1, h2 with | [_, _], [], _, _ => rfl)
  have B_Counts_len_1 : Bd K fd_Counts_len ps_Counts_len 1 ([] : List Str) [] [0] := bd_no D_Counts_len 1 ([] : List Str) [0] (fun _ _ _ _ _ _ us ws h1 h2 => match us, ws, h1, h2 with | [_], [], _, _ => rfl)
  refine ⟨fd, D, FunD_okM (k := 3) D sc_bent fun cdv A outer s H E1 hr => ?_⟩
  refine mss_cons ?_ ?_
  · exact (ms_par2 (i := 2) (j := 3) (by rfl) sc_bent.nd (by rfl) (by rfl) (by decide) (by rfl) (by rfl) (ma_cons (me_lst (ma_cons (me_neg me_int) (ma_cons me_int (ma_cons me_bl (ma_cons me_bl (ma_cons me_non (ma_cons me_str (ma_cons (me_pow me_int me_int) (ma_cons (me_tup (ma_cons me_int ma_nil)) (ma_cons (me_lst (ma_cons me_int ma_nil)) (ma_cons me_str (ma_cons me_int (ma_cons me_int ma_nil))))))))))))) (ma_cons (me_call (ps := ps_draw) G_draw (hr.mono (by decide)) (by exact takes_of rfl rfl rfl rfl) (by rfl) E.g__law_draw D_draw.kp B_draw_2 (ma_cons (me_var (i := 0)) (ma_cons (me_len (k := 2) (hr.mono (by decide)) (by exact takes_of rfl rfl rfl rfl) (lens_cons (len_ok E.m_Counts_len (G_Counts_len.mono (by decide)) B_Counts_len_1 rfl) lens_nil) (by rfl) E.b_len (ma_cons (me_var (i := 1)) ma_nil)) ma_nil))) ma_nil)) (by rfl))
  refine mss_cons ?_ ?_
  · exact (ms_set (i := 4) sc_bent.nd (me_call (ps := ps_draw) G_draw (hr.mono (by decide)) (by exact takes_of rfl rfl rfl rfl) (by rfl) E.g__law_draw D_draw.kp B_draw_2 (ma_cons (me_var (i := 0)) (ma_cons me_int ma_nil))))
  refine mss_cons ?_ ?_
  · refine ms_if (mt_cmp op_lt om_lt (me_var (i := 4)) me_int (nomark _)) ?_ ?_
    · refine mss_one ?_
      exact (ms_ret (me_add (me_add (me_slice (me_var (i := 1)) mo_none (mo_some (me_var (i := 3)))) (me_tup (ma_cons (me_ix (me_var (i := 2)) (me_call (ps := ps_draw) G_draw (hr.mono (by decide)) (by exact takes_of rfl rfl rfl rfl) (by rfl) E.g__law_draw D_draw.kp B_draw_2 (ma_cons (me_var (i := 0)) (ma_cons me_int ma_nil)))) ma_nil))) (me_slice (me_var (i := 1)) (mo_some (me_add (me_var (i := 3)) me_int)) mo_none)))
    · exact mss_nil
  refine mss_cons ?_ ?_
  · exact (ms_set (i := 5) sc_bent.nd (me_lst (ma_cons (me_add (me_add (me_slice (me_var (i := 1)) mo_none (mo_some (me_var (i := 3)))) (me_tup (ma_cons (me_add (me_ix (me_var (i := 1)) (me_var (i := 3))) me_int) ma_nil))) (me_slice (me_var (i := 1)) (mo_some (me_add (me_var (i := 3)) me_int)) mo_none)) (ma_cons (me_slice (me_var (i := 1)) (mo_some me_int) mo_none) (ma_cons (me_add (me_var (i := 1)) (me_slice (me_var (i := 1)) (mo_some (me_neg me_int)) mo_none)) (ma_cons (me_callTy call_list_of cm_list (by rfl) E.b_list (by decide +kernel) (ma_cons (me_var (i := 1)) ma_nil)) ma_nil))))))
  refine mss_one ?_
  exact (ms_ret (me_ix (me_var (i := 5)) (me_sub (me_var (i := 4)) me_int)))
theorem sc_right : FnScope N_right ps_right (defScope s_right) := ⟨rfl, rfl, rfl, by decide +kernel, rfl, by decide +kernel, by decide +kernel⟩
theorem ok_right (hS : SmOk base) (E : Ev K mg) : ∃ fd, FunD K d_right.name d_right.qual d_right.params d_right.body d_right.scope [] [] (He.fAd K d_right.at_) fd ∧ FnM P w K mg base 9 (He.fAd K d_right.at_) fd ps_right F_right := by
  obtain ⟨fd, D⟩ := E.f_right
  obtain ⟨fd_any_flows, D_any_flows, G_any_flows⟩ := ok_any_flows (P := P) (w := w) (base := base) hS E
  obtain ⟨fd_draw, D_draw, G_draw⟩ := ok_draw (P := P) (w := w) (base := base) hS E
  obtain ⟨fd_bent, D_bent, G_bent⟩ := ok_bent (P := P) (w := w) (base := base) hS E
  obtain ⟨fd_pair_right, D_pair_right, G_pair_right⟩ := ok_pair_right (P := P) (w := w) (base := base) hS E
  have B_any_flows_1 : Bd K fd_any_flows ps_any_flows 1 ([] : List Str) [] [0] := bd_no D_any_flows 1 ([] : List Str) [0] (fun _ _ _ _ _ _ us ws h1 h2 => match us, ws, h1, h2 with | [_], [], _, _ => rfl)
  have B_draw_2 : Bd K fd_draw ps_draw 2 ([] : List Str) [] [0, 1] := bd_no D_draw 2 ([] : List Str) [0, 1] (fun _ _ _ _ _ _ us ws h1 h2 => match us, ws, h1, h2 with | [_, _], [], _, _ => rfl)
  have B_bent_2 : Bd K fd_bent ps_bent 2 ([] : List Str) [] [0, 1] := bd_no D_bent 2 ([] : List Str) [0, 1] (fun _ _ _ _ _ _ us ws h1 h2 => match us, ws, h1, h2 with | [_, _], [], _, _ => rfl)
  have B_pair_right_2 : Bd K fd_pair_right ps_pair_right 2 ([] : List Str) [] [0, 1] := bd_no D_pair_right 2 ([] : List Str) [0, 1] (fun _ _ _ _ _ _ us ws h1 h2 => match us, ws, h1, h2 with | [_, _], [], _, _ => rfl)
  refine ⟨fd, D, FunD_okM (k := 8) D sc_right fun cdv A outer s H E1 hr => ?_⟩
  refine mss_cons ?_ ?_
  · exact (ms_asg (me_call (ps := ps_any_flows) G_any_flows (hr.mono (by decide)) (by exact takes_of rfl rfl rfl rfl) (by rfl) E.g__law_any_flows D_any_flows.kp B_any_flows_1 (ma_cons (me_var (i := 0)) ma_nil)) (mg_tup (by rfl) (mgs_cons (mg_name (i := 1) sc_right.nd (by rfl) (by first | exact Or.inl rfl | exact Or.inr rfl)) (mgs_cons (mg_name (i := 2) sc_right.nd (by rfl) (by first | exact Or.inl rfl | exact Or.inr rfl)) mgs_nil))))
  refine mss_cons ?_ ?_
  · refine ms_for (by exact passes_of rfl) (by rfl) ?_ ?_ ?_
    · exact (mi_range1 (by rfl) E.b_range (ma_cons me_int ma_nil))
    · exact (mg_name (i := 3) sc_right.nd (by rfl) (by first | exact Or.inl rfl | exact Or.inr rfl))
    · refine mss_cons ?_ ?_
      · exact (ms_set (i := 4) sc_right.nd (me_call (ps := ps_draw) G_draw (hr.mono (by decide)) (by exact takes_of rfl rfl rfl rfl) (by rfl) E.g__law_draw D_draw.kp B_draw_2 (ma_cons (me_var (i := 0)) (ma_cons me_int ma_nil))))
      refine mss_cons ?_ ?_
      · exact (ms_set (i := 5) sc_right.nd (me_lst (ma_cons (me_ifExp (mt_cmp (op_ne.or (op_neD hr.rm.units)) om_ne2 (me_var (i := 4)) me_int (nomark _)) (me_call (ps := ps_bent) G_bent (hr.mono (by decide)) (by exact takes_of rfl rfl rfl rfl) (by rfl) E.g__law_bent D_bent.kp B_bent_2 (ma_cons (me_var (i := 0)) (ma_cons (me_var (i := 1)) ma_nil))) (me_var (i := 1))) (ma_cons (me_ifExp (mt_cmp op_gt om_gt (me_var (i := 4)) me_int (nomark _)) (me_call (ps := ps_bent) G_bent (hr.mono (by decide)) (by exact takes_of rfl rfl rfl rfl) (by rfl) E.g__law_bent D_bent.kp B_bent_2 (ma_cons (me_var (i := 0)) (ma_cons (me_var (i := 2)) ma_nil))) (me_var (i := 2))) ma_nil))))
      refine mss_cons ?_ ?_
      · refine ms_if (mt_cmp (op_eq.or (op_eqD hr.rm.units)) om_eq2 (me_var (i := 4)) me_int (nomark _)) ?_ ?_
        · refine mss_one ?_
          exact (ms_asg (me_call (ps := ps_bent) G_bent (hr.mono (by decide)) (by exact takes_of rfl rfl rfl rfl) (by rfl) E.g__law_bent D_bent.kp B_bent_2 (ma_cons (me_var (i := 0)) (ma_cons (me_var (i := 2)) ma_nil))) (mg_at (me_var (i := 5)) me_int))
        · exact mss_nil
      refine mss_cons ?_ ?_
      · refine ms_if (mt_cmp (op_eq.or (op_eqD hr.rm.units)) om_eq2 (me_var (i := 4)) me_int (nomark _)) ?_ ?_
        · refine mss_one ?_
          exact (ms_asg (me_ix (me_lst (ma_cons me_non (ma_cons me_int (ma_cons me_str (ma_cons me_dict0 (ma_cons (me_lst ma_nil) (ma_cons (me_tup ma_nil) (ma_cons me_str (ma_cons (me_tup (ma_cons (me_tup (ma_cons me_int ma_nil)) (ma_cons (me_tup (ma_cons me_int ma_nil)) ma_nil))) (ma_cons me_bl (ma_cons me_int ma_nil))))))))))) (me_call (ps := ps_draw) G_draw (hr.mono (by decide)) (by exact takes_of rfl rfl rfl rfl) (by rfl) E.g__law_draw D_draw.kp B_draw_2 (ma_cons (me_var (i := 0)) (ma_cons me_int ma_nil)))) (mg_at (me_var (i := 5)) (me_call (ps := ps_draw) G_draw (hr.mono (by decide)) takes0 (by rfl) E.g__law_draw D_draw.kp B_draw_2 (ma_cons (me_var (i := 0)) (ma_cons me_int ma_nil)))))
        · exact mss_nil
      refine mss_one ?_
      refine ms_if (mt_w (mw_or (mt_not (mt_tru (me_call (ps := ps_pair_right) G_pair_right (hr.mono (by decide)) (by exact takes_of rfl rfl rfl rfl) (by rfl) E.g__law_pair_right D_pair_right.kp B_pair_right_2 (ma_cons (me_ix (me_var (i := 5)) me_int) (ma_cons (me_ix (me_var (i := 5)) me_int) ma_nil))))) (mw_or1 (mt_not (mt_tru (me_call (ps := ps_pair_right) G_pair_right (hr.mono (by decide)) (by exact takes_of rfl rfl rfl rfl) (by rfl) E.g__law_pair_right D_pair_right.kp B_pair_right_2 (ma_cons (me_var (i := 1)) (ma_cons (me_var (i := 2)) ma_nil)))))))) ?_ ?_
      · refine mss_one ?_
        exact (ms_ret me_bl)
      · exact mss_nil
  refine mss_one ?_
  exact (ms_ret me_bl)
theorem sc_pool : FnScope N_pool ps_pool (defScope s_pool) := ⟨rfl, rfl, rfl, by decide +kernel, rfl, by decide +kernel, by decide +kernel⟩
theorem ok_pool (hS : SmOk base) (E : Ev K mg) : ∃ fd, FunD K d_pool.name d_pool.qual d_pool.params d_pool.body d_pool.scope [] [] (He.fAd K d_pool.at_) fd ∧ FnM P w K mg base 2 (He.fAd K d_pool.at_) fd ps_pool F_pool := by
  obtain ⟨fd, D⟩ := E.f_pool
  refine ⟨fd, D, FunD_okM (k := 1) D sc_pool fun cdv A outer s H E1 hr => ?_⟩
  refine mss_cons ?_ ?_
  · exact (ms_set (i := 1) sc_pool.nd (me_ifExp (mt_w (mw_or (mt_cmp op_lt om_lt (me_var (i := 0)) me_int (nomark _)) (mw_or1 (mt_cmp op_ge om_ge (me_var (i := 0)) (me_pow me_int me_int) (nomark _))))) (me_callB call_abs cm_abs (by rfl) E.b_abs (by decide +kernel) (ma_cons (me_var (i := 0)) ma_nil)) me_int))
  refine mss_one ?_
  exact (ms_ret (me_lst (ma_cons (me_mod (me_var (i := 0)) me_int) (ma_cons (me_var (i := 1)) (ma_cons me_int ma_nil)))))
theorem sc_cell : FnScope N_cell ps_cell (defScope s_cell) := ⟨rfl, rfl, rfl, by decide +kernel, rfl, by decide +kernel, by decide +kernel⟩
theorem ok_cell (hS : SmOk base) (E : Ev K mg) : ∃ fd, FunD K d_cell.name d_cell.qual d_cell.params d_cell.body d_cell.scope [] [] (He.fAd K d_cell.at_) fd ∧ FnM P w K mg base 4 (He.fAd K d_cell.at_) fd ps_cell F_cell := by
  obtain ⟨fd, D⟩ := E.f_cell
  obtain ⟨fd_Counts_len, D_Counts_len, G_Counts_len⟩ := ok_Counts_len (P := P) (w := w) (base := base) hS E
  have B_Counts_len_1 : Bd K fd_Counts_len ps_Counts_len 1 ([] : List Str) [] [0] := bd_no D_Counts_len 1 ([] : List Str) [0] (fun _ _ _ _ _ _ us ws h1 h2 => match us, ws, h1, h2 with | [_], [], _, _ => rfl)
  refine ⟨fd, D, FunD_okM (k := 3) D sc_cell fun cdv A outer s H E1 hr => ?_⟩
  refine mss_cons ?_ ?_
  · refine ms_if (mt_cmp op_lt om_lt (me_var (i := 1)) (me_len (k := 2) (hr.mono (by decide)) (by exact takes_of rfl rfl rfl rfl) (lens_cons (len_ok E.m_Counts_len (G_Counts_len.mono (by decide)) B_Counts_len_1 rfl) lens_nil) (by rfl) E.b_len (ma_cons (me_var (i := 0)) ma_nil)) (nomark _)) ?_ ?_
    · refine mss_one ?_
      exact (ms_ret (me_ix (me_var (i := 0)) (me_var (i := 1))))
    · exact mss_nil
  refine mss_cons ?_ ?_
  · exact (ms_set (i := 2) sc_cell.nd (me_mod (me_mul me_int (me_add (me_add (me_mul (me_var (i := 1)) (me_var (i := 1))) (me_mul me_int (me_var (i := 1)))) me_int)) me_int))
  refine mss_cons ?_ ?_
  · refine ms_for (by exact passes_of rfl) (by rfl) ?_ ?_ ?_
    · exact (mi_seq (me_slice (me_var (i := 0)) mo_none (mo_some me_int)))
    · exact (mg_name (i := 3) sc_cell.nd (by rfl) (by first | exact Or.inl rfl | exact Or.inr rfl))
    · refine mss_one ?_
      exact (ms_set (i := 2) sc_cell.nd (me_mod (me_add (me_mul (me_var (i := 2)) me_int) (me_var (i := 3))) me_int))
  refine mss_one ?_
  exact (ms_ret (me_var (i := 2)))
theorem sc_law : FnScope N_law ps_law (defScope s_law) := ⟨rfl, rfl, rfl, by decide +kernel, rfl, by decide +kernel, by decide +kernel⟩
theorem ok_law (hS : SmOk base) (E : Ev K mg) : ∃ fd, FunD K d_law.name d_law.qual d_law.params d_law.body d_law.scope [] [] (He.fAd K d_law.at_) fd ∧ FnM P w K mg base 10 (He.fAd K d_law.at_) fd ps_law F_law := by
  obtain ⟨fd, D⟩ := E.f_law
  obtain ⟨fd_by_hand, D_by_hand, G_by_hand⟩ := ok_by_hand (P := P) (w := w) (base := base) hS E
  obtain ⟨fd_Counts_len, D_Counts_len, G_Counts_len⟩ := ok_Counts_len (P := P) (w := w) (base := base) hS E
  obtain ⟨fd_right, D_right, G_right⟩ := ok_right (P := P) (w := w) (base := base) hS E
  obtain ⟨fd_pool, D_pool, G_pool⟩ := ok_pool (P := P) (w := w) (base := base) hS E
  obtain ⟨fd_cell, D_cell, G_cell⟩ := ok_cell (P := P) (w := w) (base := base) hS E
  have B_by_hand_0 : Bd K fd_by_hand ps_by_hand 0 ([] : List Str) [] [] := bd_no D_by_hand 0 ([] : List Str) [] (fun _ _ _ _ _ _ us ws h1 h2 => match us, ws, h1, h2 with | [], [], _, _ => rfl)
  have B_Counts_len_1 : Bd K fd_Counts_len ps_Counts_len 1 ([] : List Str) [] [0] := bd_no D_Counts_len 1 ([] : List Str) [0] (fun _ _ _ _ _ _ us ws h1 h2 => match us, ws, h1, h2 with | [_], [], _, _ => rfl)
  have B_right_1 : Bd K fd_right ps_right 1 ([] : List Str) [] [0] := bd_no D_right 1 ([] : List Str) [0] (fun _ _ _ _ _ _ us ws h1 h2 => match us, ws, h1, h2 with | [_], [], _, _ => rfl)
  have B_pool_1 : Bd K fd_pool ps_pool 1 ([] : List Str) [] [0] := bd_no D_pool 1 ([] : List Str) [0] (fun _ _ _ _ _ _ us ws h1 h2 => match us, ws, h1, h2 with | [_], [], _, _ => rfl)
  have B_cell_2 : Bd K fd_cell ps_cell 2 ([] : List Str) [] [0, 1] := bd_no D_cell 2 ([] : List Str) [0, 1] (fun _ _ _ _ _ _ us ws h1 h2 => match us, ws, h1, h2 with | [_, _], [], _, _ => rfl)
  refine ⟨fd, D, FunD_okM (k := 9) D sc_law fun cdv A outer s H E1 hr => ?_⟩
  refine mss_cons ?_ ?_
  · refine ms_if (mt_not (mt_tru (me_call0 (ps := ps_by_hand) G_by_hand (hr.mono (by decide)) (by exact takes_of rfl rfl rfl rfl) (by rfl) E.g__law_by_hand D_by_hand.kp B_by_hand_0))) ?_ ?_
    · refine mss_one ?_
      exact (ms_ret me_bl)
    · exact mss_nil
  refine mss_one ?_
  exact (ms_ret (me_callB (cr_all (by rfl)) cm_all (by rfl) E.b_all (by decide +kernel) (ma_cons (me_lc (by rfl) sc_law.nd (mi_range1 (by rfl) E.b_range (ma_cons (me_callB ((call_max2 (by rfl)).or (cr_max (by rfl))) cm_max (by rfl) E.b_max (by decide +kernel) (ma_cons me_int (ma_cons (me_callB ((call_min2 (by rfl)).or (cr_min (by rfl))) cm_min (by rfl) E.b_min (by decide +kernel) (ma_cons (me_len (k := 2) (hr.mono (by decide)) (by exact takes_of rfl rfl rfl rfl) (lens_cons (len_ok E.m_Counts_len (G_Counts_len.mono (by decide)) B_Counts_len_1 rfl) lens_nil) (by rfl) E.b_len (ma_cons (me_var (i := 0)) ma_nil)) (ma_cons me_int ma_nil))) ma_nil))) ma_nil)) (blkOk_by (own := [("_law_k", 1)]) (by show blkC N_law (defScope s_law) _ _ = true; decide +kernel)) (fun _ _ _ _ _ => (mg_name (i := 1) sc_law.nd (by rfl) (by first | exact Or.inl rfl | exact Or.inr rfl))) (fun _ _ _ _ _ => mts_nil) (fun _ _ _ _ _ => (me_call (ps := ps_right) G_right (hr.mono (by decide)) takes0 (by rfl) E.g__law_right D_right.kp B_right_1 (ma_cons (me_call (ps := ps_pool) G_pool (hr.mono (by decide)) takes0 (by rfl) E.g__law_pool D_pool.kp B_pool_1 (ma_cons (me_call (ps := ps_cell) G_cell (hr.mono (by decide)) takes0 (by rfl) E.g__law_cell D_cell.kp B_cell_2 (ma_cons (me_var (i := 0)) (ma_cons (me_var (i := 1)) ma_nil))) ma_nil)) ma_nil)))) ma_nil)))
end
def fa : List He.Fa := ([.glo "CountError", .glo "Counts", .glo "Impossible", .glo "InvalidCommand", .glo "InvalidCounts", .glo "InvalidDeed", .glo "InvalidDoors", .glo "InvalidHistory", .glo "InvalidLength", .glo "InvalidName"] : List He.Fa) ++ ([.glo "InvalidNumber", .glo "InvalidStay", .glo "InvalidText", .glo "InvalidTick", .glo "LimitBroken", .glo "LimitError", .glo "NotCounts", .glo "NotKnown", .glo "NothingToUndo", .glo "SearchError"] : List He.Fa) ++ ([.glo "TooMany", .glo "_law_any_flows", .glo "_law_bent", .glo "_law_by_hand", .glo "_law_cell", .glo "_law_draw", .glo "_law_error", .glo "_law_flows", .glo "_law_great_flows", .glo "_law_pair_right"] : List He.Fa) ++ ([.glo "_law_pool", .glo "_law_right", .glo "_law_small_flows", .glo "_law_told", .glo "_law_written", .glo "_law_wrong", .glo "is_integer", .glo "is_same_size", .glo "law", .glo "wrong_tick"] : List He.Fa) ++ ([.free "ArithmeticError", .free "LookupError", .free "ValueError", .free "abs", .free "all", .free "bool", .free "divmod", .free "enumerate", .free "int", .free "isinstance"] : List He.Fa) ++ ([.free "len", .free "list", .free "max", .free "min", .free "range", .free "repr", .free "str", .free "tuple", .free "zip", .int "MOST_PEOPLE" 999] : List He.Fa) ++ ([.int "MOST_TICKS" 60, .cls "Counts", .mkr "Counts", .noat "Counts" "arrivals", .noat "Counts" "departures", .meth "Counts" "__len__", .meth "Counts" "__str__", .meth "InvalidCounts" "__init__"] : List He.Fa)
def fn : List He.DefD := ([d_Counts_len, d_wrong, d_written, d_is_same_size, d_is_integer, d_wrong_tick, d_Counts_init, d_error, d_Counts_str, d_told] : List He.DefD) ++ ([d_pair_right, d_by_hand, d_draw, d_flows, d_small_flows, d_great_flows, d_any_flows, d_bent, d_right, d_pool] : List He.DefD) ++ ([d_cell, d_law, d_InvalidCounts_init] : List He.DefD)
def exB (K : Frag) : Bool := isaB isaTb clsL K && xcB K (He.ga K "InvalidCounts") && xnB K "InvalidCounts" (["tick"] : List Str) && xfAllB K (["InvalidCounts"] : List Str) "tick" && exmB K (["InvalidCounts"] : List Str) (["CountError", "SearchError", "LimitError"] : List Str) && isxB isxTb xclL K
theorem ev_of {h : Heap} {K : Frag} {mg : Mg} (X : K.In h) (G : h.Ns mainGlobals mg) (c : He.SaysD fa fn K) (ex : exB K = true) : Ev K mg := by
  have hc_Counts : Cls K (He.ga K "Counts") := He.cls_ok (c.fact 61 (f := .cls "Counts") rfl)
  obtain ⟨ex4, px4⟩ := He.ba ex
  obtain ⟨ex3, px3⟩ := He.ba ex4
  obtain ⟨ex2, px2⟩ := He.ba ex3
  obtain ⟨ex1, px1⟩ := He.ba ex2
  obtain ⟨ex0, px0⟩ := He.ba ex1
  exact ⟨He.glo_ok X G (c.fact 0 (f := .glo "CountError") rfl),
    He.glo_ok X G (c.fact 1 (f := .glo "Counts") rfl),
    He.glo_ok X G (c.fact 2 (f := .glo "Impossible") rfl),
    He.glo_ok X G (c.fact 3 (f := .glo "InvalidCommand") rfl),
    He.glo_ok X G (c.fact 4 (f := .glo "InvalidCounts") rfl),
    He.glo_ok X G (c.fact 5 (f := .glo "InvalidDeed") rfl),
    He.glo_ok X G (c.fact 6 (f := .glo "InvalidDoors") rfl),
    He.glo_ok X G (c.fact 7 (f := .glo "InvalidHistory") rfl),
    He.glo_ok X G (c.fact 8 (f := .glo "InvalidLength") rfl),
    He.glo_ok X G (c.fact 9 (f := .glo "InvalidName") rfl),
    He.glo_ok X G (c.fact 10 (f := .glo "InvalidNumber") rfl),
    He.glo_ok X G (c.fact 11 (f := .glo "InvalidStay") rfl),
    He.glo_ok X G (c.fact 12 (f := .glo "InvalidText") rfl),
    He.glo_ok X G (c.fact 13 (f := .glo "InvalidTick") rfl),
    He.glo_ok X G (c.fact 14 (f := .glo "LimitBroken") rfl),
    He.glo_ok X G (c.fact 15 (f := .glo "LimitError") rfl),
    He.glo_ok X G (c.fact 16 (f := .glo "NotCounts") rfl),
    He.glo_ok X G (c.fact 17 (f := .glo "NotKnown") rfl),
    He.glo_ok X G (c.fact 18 (f := .glo "NothingToUndo") rfl),
    He.glo_ok X G (c.fact 19 (f := .glo "SearchError") rfl),
    He.glo_ok X G (c.fact 20 (f := .glo "TooMany") rfl),
    He.glo_ok X G (c.fact 21 (f := .glo "_law_any_flows") rfl),
    He.glo_ok X G (c.fact 22 (f := .glo "_law_bent") rfl),
    He.glo_ok X G (c.fact 23 (f := .glo "_law_by_hand") rfl),
    He.glo_ok X G (c.fact 24 (f := .glo "_law_cell") rfl),
    He.glo_ok X G (c.fact 25 (f := .glo "_law_draw") rfl),
    He.glo_ok X G (c.fact 26 (f := .glo "_law_error") rfl),
    He.glo_ok X G (c.fact 27 (f := .glo "_law_flows") rfl),
    He.glo_ok X G (c.fact 28 (f := .glo "_law_great_flows") rfl),
    He.glo_ok X G (c.fact 29 (f := .glo "_law_pair_right") rfl),
    He.glo_ok X G (c.fact 30 (f := .glo "_law_pool") rfl),
    He.glo_ok X G (c.fact 31 (f := .glo "_law_right") rfl),
    He.glo_ok X G (c.fact 32 (f := .glo "_law_small_flows") rfl),
    He.glo_ok X G (c.fact 33 (f := .glo "_law_told") rfl),
    He.glo_ok X G (c.fact 34 (f := .glo "_law_written") rfl),
    He.glo_ok X G (c.fact 35 (f := .glo "_law_wrong") rfl),
    He.glo_ok X G (c.fact 36 (f := .glo "is_integer") rfl),
    He.glo_ok X G (c.fact 37 (f := .glo "is_same_size") rfl),
    He.glo_ok X G (c.fact 38 (f := .glo "law") rfl),
    He.glo_ok X G (c.fact 39 (f := .glo "wrong_tick") rfl),
    He.free_ok X G (c.fact 40 (f := .free "ArithmeticError") rfl),
    He.free_ok X G (c.fact 41 (f := .free "LookupError") rfl),
    He.free_ok X G (c.fact 42 (f := .free "ValueError") rfl),
    He.free_ok X G (c.fact 43 (f := .free "abs") rfl),
    He.free_ok X G (c.fact 44 (f := .free "all") rfl),
    He.free_ok X G (c.fact 45 (f := .free "bool") rfl),
    He.free_ok X G (c.fact 46 (f := .free "divmod") rfl),
    He.free_ok X G (c.fact 47 (f := .free "enumerate") rfl),
    He.free_ok X G (c.fact 48 (f := .free "int") rfl),
    He.free_ok X G (c.fact 49 (f := .free "isinstance") rfl),
    He.free_ok X G (c.fact 50 (f := .free "len") rfl),
    He.free_ok X G (c.fact 51 (f := .free "list") rfl),
    He.free_ok X G (c.fact 52 (f := .free "max") rfl),
    He.free_ok X G (c.fact 53 (f := .free "min") rfl),
    He.free_ok X G (c.fact 54 (f := .free "range") rfl),
    He.free_ok X G (c.fact 55 (f := .free "repr") rfl),
    He.free_ok X G (c.fact 56 (f := .free "str") rfl),
    He.free_ok X G (c.fact 57 (f := .free "tuple") rfl),
    He.free_ok X G (c.fact 58 (f := .free "zip") rfl),
    He.int_ok X G (c.fact 59 (f := .int "MOST_PEOPLE" 999) rfl),
    He.int_ok X G (c.fact 60 (f := .int "MOST_TICKS" 60) rfl),
    c.def_ 0 (d := d_Counts_len) rfl,
    c.def_ 1 (d := d_wrong) rfl,
    c.def_ 2 (d := d_written) rfl,
    c.def_ 3 (d := d_is_same_size) rfl,
    c.def_ 4 (d := d_is_integer) rfl,
    c.def_ 5 (d := d_wrong_tick) rfl,
    c.def_ 6 (d := d_Counts_init) rfl,
    c.def_ 7 (d := d_error) rfl,
    c.def_ 8 (d := d_Counts_str) rfl,
    c.def_ 9 (d := d_told) rfl,
    c.def_ 10 (d := d_pair_right) rfl,
    c.def_ 11 (d := d_by_hand) rfl,
    c.def_ 12 (d := d_draw) rfl,
    c.def_ 13 (d := d_flows) rfl,
    c.def_ 14 (d := d_small_flows) rfl,
    c.def_ 15 (d := d_great_flows) rfl,
    c.def_ 16 (d := d_any_flows) rfl,
    c.def_ 17 (d := d_bent) rfl,
    c.def_ 18 (d := d_right) rfl,
    c.def_ 19 (d := d_pool) rfl,
    c.def_ 20 (d := d_cell) rfl,
    c.def_ 21 (d := d_law) rfl,
    hc_Counts,
    He.mkr_ok (c.fact 62 (f := .mkr "Counts") rfl),
    He.noat_ok (c.fact 63 (f := .noat "Counts" "arrivals") rfl),
    He.noat_ok (c.fact 64 (f := .noat "Counts" "departures") rfl),
    He.meth_ok (c.fact 65 (f := .meth "Counts" "__len__") rfl),
    He.meth_ok (c.fact 66 (f := .meth "Counts" "__str__") rfl),
    He.meth_ok (c.fact 67 (f := .meth "InvalidCounts" "__init__") rfl),
    c.def_ 22 (d := d_InvalidCounts_init) rfl,
    xcB_ok px0,
    xnB_ok px1,
    xfAll_ok px2,
    exm_ok px3,
    isx_ok px4 (by decide +kernel),
    isa_ok ex0 (fun C hC => by simp only [clsL, List.mem_cons, List.mem_append, List.not_mem_nil, or_false, false_or] at hC; subst hC; exact hc_Counts) (by decide +kernel)⟩
abbrev RR : PySem.W.OpenRow := PySem.W.OpenLaw.row PySem.Challenge.rw_staycounts_k02_counts_refused
abbrev hk : PySem.W.Hook := hookS 5 fa fn [] [] exB
def ob (s : PySem.W.SharedT) : He.AlX × Bool := (He.obsX 5 fa fn [] [] exB (HandSHeadRun.getT s), smB (HandSHeadRun.getT s))
theorem ob_eq (s : PySem.W.SharedT) : ob s = hk.obs s.abs := by
  have e : HandSHeadRun.getT s = s.abs.heap.get? := funext (HandSHeadRun.getT_eq s)
  unfold ob; rw [e] <;> rfl
def names : List Str := ((["_wall", "MOST_TICKS", "MOST_PEOPLE", "WORDS", "is_integer", "sums", "wrong_tick", "is_stay_of", "used_by", "obstacle_of"] : List Str) ++ (["CountError", "InvalidCounts", "NotCounts", "InvalidTick", "InvalidNumber", "InvalidText", "InvalidStay", "InvalidHistory", "InvalidName", "InvalidLength"] : List Str) ++ (["InvalidDoors", "InvalidDeed", "InvalidCommand", "SearchError", "Impossible", "NotKnown", "LimitBroken", "NothingToUndo", "LimitError", "TooMany"] : List Str) ++ (["is_same_size", "read_number", "read_tick", "Counts", "check_stays", "check_possible", "_law_cell", "_law_pool", "_law_draw", "_law_flows"] : List Str) ++ (["_law_small_flows", "_law_great_flows", "_law_error", "_law_any_flows", "_law_written", "_law_wrong", "_law_told", "_law_pair_right", "_law_bent", "_law_right"] : List Str) ++ (["_law_by_hand"] : List Str))
theorem run (w : World) : HandSHeadRun.RunEq RR (PySem.W.view RR.prog [55]) hk ob 20000 names w := by
  intro os
  kernel_rfl
theorem holds_of (H : ∀ ns : List Int, ns.length ≤ 63 → ∃ h', F_law [.ref 0] [.frl (ns.map W.int)] = .ok (.bl true) h') : PySem.Challenge.rw_staycounts_k02_counts_refused.Holds := by
  open PySem PySem.W PySem.Calls PyProof.Rows in
  w_on; o_law
  refine HandSHeadRun.head_any (r := OpenLaw.row PySem.Challenge.rw_staycounts_k02_counts_refused) (q := view (OpenLaw.row PySem.Challenge.rw_staycounts_k02_counts_refused).prog [55]) (H := hk) (ob := ob) (M := 20000) (loose := names) (d := HandSHeadRun.topDef (OpenLaw.row PySem.Challenge.rw_staycounts_k02_counts_refused).prog 55) (kwd := []) ob_eq
    (by kernel_rfl) (fun s => by kernel_rfl) run (by kernel_rfl) (by kernel_rfl) (by kernel_rfl) (by rfl) (by first | assumption | decide +kernel) (by decide +kernel) ⟨rfl, rfl, rfl, rfl, rfl, by decide +kernel⟩ ?hw ?hc
  case hw => w_witness2
  case hc =>
    refine Mc.law_endS (l := PySem.Challenge.rw_staycounts_k02_counts_refused) (n := 63) (k := 10) (x := "_law_cells") rfl (by decide) (by kernel_rfl) ⟨rfl, by decide, by decide⟩ ?F (fun _ _ y => y.2)
    intro w mg fa h Y G hmg0
    obtain ⟨⟨K, KX, c⟩, _⟩ := Y
    have hmg : mg ("law" : PySem.Str) = some (.ref fa) := by
      have e : (HandSHeadRun.topDef (OpenLaw.row PySem.Challenge.rw_staycounts_k02_counts_refused).prog 55).name = ("law" : PySem.Str) := by kernel_rfl
      rw [← e]
      exact hmg0
    have EV := ev_of KX G c.t.d c.more
    have e := hmg.symm.trans EV.g_law
    cases e
    obtain ⟨fd, D⟩ := EV.f_law
    have b := FunD.bindsA (ps := ps_law) D fun _ _ _ _ _ _ us hl => match us, hl with | [_], _ => rfl
    refine ⟨K, fd, F_law, KX, fun s v => b s [v] rfl, H, fun base _ _ hS => ?_⟩
    obtain ⟨fd2, D2, G2⟩ := ok_law (P := (PySem.Challenge.rw_staycounts_k02_counts_refused).prog) (w := w) (base := base) hS EV
    exact FunD_same D2 D G2
end K02

namespace K02
open PySem Mc
theorem isa_0 : isaF (.b "NoneType") (.b "bool") = some false := by decide +kernel
theorem isa_1 : isaF (.b "bool") (.b "bool") = some true := by decide +kernel
theorem isa_2 : isaF (.b "int") (.b "bool") = some false := by decide +kernel
theorem isa_3 : isaF (.b "str") (.b "bool") = some false := by decide +kernel
theorem isa_4 : isaF (.b "list") (.b "bool") = some false := by decide +kernel
theorem isa_5 : isaF (.b "tuple") (.b "bool") = some false := by decide +kernel
theorem isa_6 : isaF (.b "dict") (.b "bool") = some false := by decide +kernel
theorem isa_7 : isaF (.c "Counts") (.b "bool") = some false := by decide +kernel
theorem isa_8 : isaF (.b "NoneType") (.b "int") = some false := by decide +kernel
theorem isa_9 : isaF (.b "bool") (.b "int") = some true := by decide +kernel
theorem isa_10 : isaF (.b "int") (.b "int") = some true := by decide +kernel
theorem isa_11 : isaF (.b "str") (.b "int") = some false := by decide +kernel
theorem isa_12 : isaF (.b "list") (.b "int") = some false := by decide +kernel
theorem isa_13 : isaF (.b "tuple") (.b "int") = some false := by decide +kernel
theorem isa_14 : isaF (.b "dict") (.b "int") = some false := by decide +kernel
theorem isa_15 : isaF (.c "Counts") (.b "int") = some false := by decide +kernel
theorem isa_16 : isaF (.b "NoneType") (.b "tuple") = some false := by decide +kernel
theorem isa_17 : isaF (.b "bool") (.b "tuple") = some false := by decide +kernel
theorem isa_18 : isaF (.b "int") (.b "tuple") = some false := by decide +kernel
theorem isa_19 : isaF (.b "str") (.b "tuple") = some false := by decide +kernel
theorem isa_20 : isaF (.b "list") (.b "tuple") = some false := by decide +kernel
theorem isa_21 : isaF (.b "tuple") (.b "tuple") = some true := by decide +kernel
theorem isa_22 : isaF (.b "dict") (.b "tuple") = some false := by decide +kernel
theorem isa_23 : isaF (.c "Counts") (.b "tuple") = some false := by decide +kernel
theorem isx_0 : isxF (.c "InvalidCounts") (.b "ArithmeticError") = some false := by decide +kernel
theorem isx_1 : isxF (.c "InvalidCounts") (.b "LookupError") = some false := by decide +kernel
theorem isx_2 : isxF (.c "InvalidCounts") (.b "ValueError") = some true := by decide +kernel
theorem isx_3 : isxF (.c "InvalidCounts") (.c "CountError") = some true := by decide +kernel
theorem isx_4 : isxF (.c "InvalidCounts") (.c "Impossible") = some false := by decide +kernel
theorem isx_5 : isxF (.c "InvalidCounts") (.c "InvalidCommand") = some false := by decide +kernel
theorem isx_6 : isxF (.c "InvalidCounts") (.c "InvalidCounts") = some true := by decide +kernel
theorem isx_7 : isxF (.c "InvalidCounts") (.c "InvalidDeed") = some false := by decide +kernel
theorem isx_8 : isxF (.c "InvalidCounts") (.c "InvalidDoors") = some false := by decide +kernel
theorem isx_9 : isxF (.c "InvalidCounts") (.c "InvalidHistory") = some false := by decide +kernel
theorem isx_10 : isxF (.c "InvalidCounts") (.c "InvalidLength") = some false := by decide +kernel
theorem isx_11 : isxF (.c "InvalidCounts") (.c "InvalidName") = some false := by decide +kernel
theorem isx_12 : isxF (.c "InvalidCounts") (.c "InvalidNumber") = some false := by decide +kernel
theorem isx_13 : isxF (.c "InvalidCounts") (.c "InvalidStay") = some false := by decide +kernel
theorem isx_14 : isxF (.c "InvalidCounts") (.c "InvalidText") = some false := by decide +kernel
theorem isx_15 : isxF (.c "InvalidCounts") (.c "InvalidTick") = some false := by decide +kernel
theorem isx_16 : isxF (.c "InvalidCounts") (.c "LimitBroken") = some false := by decide +kernel
theorem isx_17 : isxF (.c "InvalidCounts") (.c "LimitError") = some false := by decide +kernel
theorem isx_18 : isxF (.c "InvalidCounts") (.c "NotCounts") = some false := by decide +kernel
theorem isx_19 : isxF (.c "InvalidCounts") (.c "NotKnown") = some false := by decide +kernel
theorem isx_20 : isxF (.c "InvalidCounts") (.c "NothingToUndo") = some false := by decide +kernel
theorem isx_21 : isxF (.c "InvalidCounts") (.c "SearchError") = some false := by decide +kernel
theorem isx_22 : isxF (.c "InvalidCounts") (.c "TooMany") = some false := by decide +kernel
theorem sne_0 : (("arrivals" : Str) == "departures") = false := by decide +kernel
theorem seq_0 : (("arrivals" : Str) = "departures") = False := eq_false (by decide +kernel)
theorem sne_1 : (("arrivals" : Str) == "tick") = false := by decide +kernel
theorem seq_1 : (("arrivals" : Str) = "tick") = False := eq_false (by decide +kernel)
theorem sne_2 : (("departures" : Str) == "arrivals") = false := by decide +kernel
theorem seq_2 : (("departures" : Str) = "arrivals") = False := eq_false (by decide +kernel)
theorem sne_3 : (("departures" : Str) == "tick") = false := by decide +kernel
theorem seq_3 : (("departures" : Str) = "tick") = False := eq_false (by decide +kernel)
theorem sne_4 : (("tick" : Str) == "arrivals") = false := by decide +kernel
theorem seq_4 : (("tick" : Str) = "arrivals") = False := eq_false (by decide +kernel)
theorem sne_5 : (("tick" : Str) == "departures") = false := by decide +kernel
theorem seq_5 : (("tick" : Str) = "departures") = False := eq_false (by decide +kernel)
def t_Counts_len : TSx := (zRet (eArg oLen (aCons (e1 (oFld (["Counts"] : List Str) "arrivals") (eV 0)) aNil)))
def T_Counts_len : Ft := fnT 1 [] t_Counts_len
theorem sim_Counts_len : SimF [] F_Counts_len T_Counts_len := by unfold F_Counts_len T_Counts_len m_Counts_len t_Counts_len; exact sf_fn (ss_ret (se_arg ol_len (sa_cons (se_1 tq_fld se_var) sa_nil)))
def t_wrong_1 : TSx := (zIf (bO (bTr (e1 (oIsi isaF (.b "bool")) (eV 5))) (bO (bNt (bTr (e1 (oIsi isaF (.b "int")) (eV 5)))) (bNt (bV (eCh (eC (.int 0)) [(oLe, (eV 5)), (oLe, (eC (.int 999)))]))))) (zRet (eArg oLst (aCons (eV 4) aNil))) zNil)
theorem sim_wrong_1 : SimS [] m_wrong_1 t_wrong_1 := by unfold m_wrong_1 t_wrong_1; exact (ss_if (st_or (st_tr (se_isi se_var)) (st_or (st_not (st_tr (se_isi se_var))) (st_not (st_ch se_int (Lk.cons tq_le se_var (Lk.cons tq_le se_int Lk.nil)))))) (ss_ret (se_arg ol_lst (sa_cons se_var sa_nil))) ss_nil)
def t_wrong_2 : TSx := (zSeq (zFor (jS (eArg oLst (aCons (e2 oIx (eV 0) (eV 4)) (aCons (e2 oIx (eV 1) (eV 4)) aNil)))) (yN 5) t_wrong_1) (zSeq (zPar [2, 3] (aCons (e2 oAdd (eV 2) (e2 oIx (eV 0) (eV 4))) (aCons (e2 oSub (e2 oAdd (eV 3) (e2 oIx (eV 0) (eV 4))) (e2 oIx (eV 1) (eV 4))) aNil))) (zIf (bO (bV (e2 oGt (eV 2) (eC (.int 999)))) (bV (e2 oLt (eV 3) (eC (.int 0))))) (zRet (eArg oLst (aCons (eV 4) aNil))) zNil)))
theorem sim_wrong_2 : SimS [] m_wrong_2 t_wrong_2 := by unfold m_wrong_2 t_wrong_2; exact (ss_seq (ss_for (si_seq (se_arg ol_lst (sa_cons (se_2 tq_ix se_var se_var) (sa_cons (se_2 tq_ix se_var se_var) sa_nil)))) (sg_n (by decide)) sim_wrong_1) (ss_seq (ss_par (by decide) (sa_cons (se_2 tq_add se_var (se_2 tq_ix se_var se_var)) (sa_cons (se_2 tq_sub (se_2 tq_add se_var (se_2 tq_ix se_var se_var)) (se_2 tq_ix se_var se_var)) sa_nil))) (ss_if (st_or (st_v (se_2 tq_gt se_var se_int)) (st_v (se_2 tq_lt se_var se_int))) (ss_ret (se_arg ol_lst (sa_cons se_var sa_nil))) ss_nil)))
def t_wrong : TSx := (zSeq (zIf (bO (bNt (bTr (e1 (oIsi isaF (.b "tuple")) (eV 0)))) (bO (bNt (bTr (e1 (oIsi isaF (.b "tuple")) (eV 1)))) (bV (e2 oNe (eLen [("Counts", T_Counts_len)] (eV 0)) (eLen [("Counts", T_Counts_len)] (eV 1)))))) (zRet (eArg oLst (aCons (eC .non) aNil))) zNil) (zSeq (zIf (bNt (bV (eCh (eC (.int 0)) [(oLt, (eLen [("Counts", T_Counts_len)] (eV 0))), (oLt, (eC (.int 61)))]))) (zRet (eArg oLst (aCons (eC .non) aNil))) zNil) (zSeq (zAsg (eArg oTup (aCons (eC (.int 0)) (aCons (eC (.int 0)) aNil))) (yTp 2 (ysCons (yN 2) (ysCons (yN 3) ysNil)))) (zSeq (zFor (jA oRg1 (aCons (eLen [("Counts", T_Counts_len)] (eV 0)) aNil)) (yN 4) t_wrong_2) (zRet (eArg oLst aNil))))))
def T_wrong : Ft := fnT 6 [] t_wrong
theorem sim_wrong : SimF [] F_wrong T_wrong := by unfold F_wrong T_wrong m_wrong t_wrong; exact sf_fn (ss_seq (ss_if (st_or (st_not (st_tr (se_isi se_var))) (st_or (st_not (st_tr (se_isi se_var))) (st_v (se_2 tq_ne2 (se_len (ls_cons sim_Counts_len ls_nil) se_var) (se_len (ls_cons sim_Counts_len ls_nil) se_var))))) (ss_ret (se_arg ol_lst (sa_cons se_non sa_nil))) ss_nil) (ss_seq (ss_if (st_not (st_ch se_int (Lk.cons tq_lt (se_len (ls_cons sim_Counts_len ls_nil) se_var) (Lk.cons tq_lt se_int Lk.nil)))) (ss_ret (se_arg ol_lst (sa_cons se_non sa_nil))) ss_nil) (ss_seq (ss_asg (se_arg ol_tup (sa_cons se_int (sa_cons se_int sa_nil))) (sg_tp (sgs_cons (sg_n (by decide)) (sgs_cons (sg_n (by decide)) sgs_nil)))) (ss_seq (ss_for (si_rg1 (sa_cons (se_len (ls_cons sim_Counts_len ls_nil) se_var) sa_nil)) (sg_n (by decide)) sim_wrong_2) (ss_ret (se_arg ol_lst sa_nil))))))
def t_written_1 : TEx := (e2 oAdd (e2 oAdd (eStr [] (e2 oIx (eV 0) (eV 2))) (eC (.str "/"))) (eStr [] (e2 oIx (eV 1) (eV 2))))
theorem sim_written_1 : SimE m_written_1 t_written_1 := by unfold m_written_1 t_written_1; exact (se_2 tq_add (se_2 tq_add (se_strO ls_nil (se_2 tq_ix se_var se_var)) se_str) (se_strO ls_nil (se_2 tq_ix se_var se_var)))
def t_written : TSx := (zRet (eMt "str" oJoin (eC (.str " ")) (aCons (eLc (jA oRg1 (aCons (eLen [("Counts", T_Counts_len)] (eV 0)) aNil)) (yN 2) bYs t_written_1 [2]) aNil)))
def T_written : Ft := fnT 3 [] t_written
theorem sim_written : SimF [] F_written T_written := by unfold F_written T_written m_written t_written; exact sf_fn (ss_ret (se_mt om_join se_str (sa_cons (SimO.e (so_lc (si_rg1 (sa_cons (se_len (ls_cons sim_Counts_len ls_nil) se_var) sa_nil)) (sg_n (by decide)) (only_n (by decide)) st_ys sim_written_1)) sa_nil)))
def t_is_same_size : TSx := (zSeq (zIf (bO (bNt (bTr (e1 (oIsi isaF (.b "tuple")) (eV 0)))) (bNt (bTr (e1 (oIsi isaF (.b "tuple")) (eV 1))))) (zRet (eC (.bl false))) zNil) (zRet (eAn (e2 oEq (eLen [("Counts", T_Counts_len)] (eV 0)) (eLen [("Counts", T_Counts_len)] (eV 1))) (eCh (eC (.int 1)) [(oLe, (eLen [("Counts", T_Counts_len)] (eV 0))), (oLe, (eC (.int 60)))]))))
def T_is_same_size : Ft := fnT 2 [] t_is_same_size
theorem sim_is_same_size : SimF [] F_is_same_size T_is_same_size := by unfold F_is_same_size T_is_same_size m_is_same_size t_is_same_size; exact sf_fn (ss_seq (ss_if (st_or (st_not (st_tr (se_isi se_var))) (st_not (st_tr (se_isi se_var)))) (ss_ret se_bl) ss_nil) (ss_ret (se_and (se_2 tq_eq2 (se_len (ls_cons sim_Counts_len ls_nil) se_var) (se_len (ls_cons sim_Counts_len ls_nil) se_var)) (se_ch se_int (Lk.cons tq_le (se_len (ls_cons sim_Counts_len ls_nil) se_var) (Lk.cons tq_le se_int Lk.nil))))))
def t_is_integer : TSx := (zRet (eAn (e1 (oIsi isaF (.b "int")) (eV 0)) (eAn (eNt (e1 (oIsi isaF (.b "bool")) (eV 0))) (eCh (eV 1) [(oLe, (eV 0)), (oLe, (eV 2))]))))
def T_is_integer : Ft := fnT 3 [] t_is_integer
theorem sim_is_integer : SimF [] F_is_integer T_is_integer := by unfold F_is_integer T_is_integer m_is_integer t_is_integer; exact sf_fn (ss_ret (se_and (se_isi se_var) (se_and (se_not (se_isi se_var)) (se_ch se_var (Lk.cons tq_le se_var (Lk.cons tq_le se_var Lk.nil))))))
def t_wrong_tick_1 : TSx := (zSeq (zIfW (wOr (bNt (bTr (eCall T_is_integer (aCons (eV 5) (aCons (eC (.int 0)) (aCons (eC (.int 999)) aNil)))))) (wNt (wCall T_is_integer 6 (e2 oIx (eV 1) (eV 4)) (aCons (eC (.int 0)) (aCons (eC (.int 999)) aNil))))) (zRet (eV 4)) zNil) (zSeq (zPar [2, 3] (aCons (e2 oAdd (eV 2) (eV 5)) (aCons (e2 oSub (e2 oAdd (eV 3) (eV 5)) (eV 6)) aNil))) (zIf (bO (bV (e2 oGt (eV 2) (eC (.int 999)))) (bV (e2 oLt (eV 3) (eC (.int 0))))) (zRet (eV 4)) zNil)))
theorem sim_wrong_tick_1 : SimS [] m_wrong_tick_1 t_wrong_tick_1 := by unfold m_wrong_tick_1 t_wrong_tick_1; exact (ss_seq (ss_ifW (sw_or (st_not (st_tr (se_call sim_is_integer (sa_cons se_var (sa_cons se_int (sa_cons se_int sa_nil))) (len_cons (len_cons (len_cons len_nil))) rfl rfl))) (sw_not (sw_call sim_is_integer (by decide) (se_2 tq_ix se_var se_var) (sa_cons se_int (sa_cons se_int sa_nil)) (len_cons (len_cons len_nil)) rfl rfl))) (ss_ret se_var) ss_nil) (ss_seq (ss_par (by decide) (sa_cons (se_2 tq_add se_var se_var) (sa_cons (se_2 tq_sub (se_2 tq_add se_var se_var) se_var) sa_nil))) (ss_if (st_or (st_v (se_2 tq_gt se_var se_int)) (st_v (se_2 tq_lt se_var se_int))) (ss_ret se_var) ss_nil)))
def t_wrong_tick : TSx := (zSeq (zAsg2 (eC (.int 0)) (yN 2) (yN 3)) (zSeq (zFor (jA oEn (aCons (eV 0) aNil)) (yTp 2 (ysCons (yN 4) (ysCons (yN 5) ysNil))) t_wrong_tick_1) (zRet (eC .non))))
def T_wrong_tick : Ft := fnT 7 [] t_wrong_tick
theorem sim_wrong_tick : SimF [] F_wrong_tick T_wrong_tick := by unfold F_wrong_tick T_wrong_tick m_wrong_tick t_wrong_tick; exact sf_fn (ss_seq (ss_asg2 se_int (sg_n (by decide)) (sg_n (by decide))) (ss_seq (ss_for (si_en (sa_cons se_var sa_nil)) (sg_tp (sgs_cons (sg_n (by decide)) (sgs_cons (sg_n (by decide)) sgs_nil))) sim_wrong_tick_1) (ss_ret se_non)))
def t_Counts_init : TSx := (zSeq (zIf (bNt (bTr (eCall T_is_same_size (aCons (eV 1) (aCons (eV 2) aNil))))) (zRaise "InvalidCounts" (["tick"] : List Str) (aCons (eC .non) aNil)) zNil) (zSeq (zAsg (eCall T_wrong_tick (aCons (eV 1) (aCons (eV 2) aNil))) (yN 3)) (zSeq (zIf (bV (e2 oNotN (eV 3) (eC .non))) (zRaise "InvalidCounts" (["tick"] : List Str) (aCons (eV 3) aNil)) zNil) (zSeq (zFldS (["Counts"] : List Str) "arrivals" 0 (eV 1)) (zFldS (["Counts"] : List Str) "departures" 0 (eV 2))))))
def T_Counts_init : Ft := fnT 4 [0] t_Counts_init
theorem sim_Counts_init : SimF [0] F_Counts_init T_Counts_init := by unfold F_Counts_init T_Counts_init m_Counts_init t_Counts_init; exact sf_fn (ss_seq (ss_if (st_not (st_tr (se_call sim_is_same_size (sa_cons se_var (sa_cons se_var sa_nil)) (len_cons (len_cons len_nil)) rfl rfl))) (ss_raise (sa_cons se_non sa_nil)) ss_nil) (ss_seq (ss_asg (se_call sim_wrong_tick (sa_cons se_var (sa_cons se_var sa_nil)) (len_cons (len_cons len_nil)) rfl rfl) (sg_n (by decide))) (ss_seq (ss_if (st_v (se_2 tq_notN se_var se_non)) (ss_raise (sa_cons se_var sa_nil)) ss_nil) (ss_seq (ss_fldS se_var) (ss_fldS se_var)))))
def t_error : TSx := (zSeq (zAsg (eArg oLst (aCons (e1 (oIsx isxF (.c "InvalidCounts")) (eV 0)) (aCons (e1 (oIsx isxF (.c "NotCounts")) (eV 0)) (aCons (e1 (oIsx isxF (.c "InvalidTick")) (eV 0)) aNil)))) (yN 1)) (zSeq (zAsg (e2 oAdd (eV 1) (eArg oLst (aCons (e1 (oIsx isxF (.c "InvalidNumber")) (eV 0)) (aCons (e1 (oIsx isxF (.c "InvalidText")) (eV 0)) (aCons (e1 (oIsx isxF (.c "InvalidStay")) (eV 0)) aNil))))) (yN 1)) (zSeq (zAsg (e2 oAdd (eV 1) (eArg oLst (aCons (e1 (oIsx isxF (.c "InvalidHistory")) (eV 0)) (aCons (e1 (oIsx isxF (.c "InvalidName")) (eV 0)) (aCons (e1 (oIsx isxF (.c "InvalidLength")) (eV 0)) aNil))))) (yN 1)) (zSeq (zAsg (e2 oAdd (eV 1) (eArg oLst (aCons (e1 (oIsx isxF (.c "InvalidDoors")) (eV 0)) (aCons (e1 (oIsx isxF (.c "InvalidDeed")) (eV 0)) (aCons (e1 (oIsx isxF (.c "InvalidCommand")) (eV 0)) aNil))))) (yN 1)) (zSeq (zAsg (e2 oAdd (eV 1) (eArg oLst (aCons (e1 (oIsx isxF (.c "Impossible")) (eV 0)) (aCons (e1 (oIsx isxF (.c "NotKnown")) (eV 0)) (aCons (e1 (oIsx isxF (.c "LimitBroken")) (eV 0)) aNil))))) (yN 1)) (zSeq (zAsg (e2 oAdd (eV 1) (eArg oLst (aCons (e1 (oIsx isxF (.c "NothingToUndo")) (eV 0)) (aCons (e1 (oIsx isxF (.c "TooMany")) (eV 0)) aNil)))) (yN 1)) (zSeq (zAsg (eArg oLst (aCons (e1 (oIsx isxF (.c "CountError")) (eV 0)) (aCons (e1 (oIsx isxF (.c "SearchError")) (eV 0)) (aCons (e1 (oIsx isxF (.c "LimitError")) (eV 0)) aNil)))) (yN 2)) (zSeq (zAsg (eArg oLst (aCons (e1 (oIsx isxF (.b "ValueError")) (eV 0)) (aCons (e1 (oIsx isxF (.b "LookupError")) (eV 0)) (aCons (e1 (oIsx isxF (.b "ArithmeticError")) (eV 0)) aNil)))) (yN 3)) (zSeq (zIf (bO (bV (e2 oNe (eMt "list" oCount (eV 1) (aCons (eC (.bl true)) aNil)) (eC (.int 1)))) (bV (e2 oNe (eV 3) (eV 2)))) (zRet (e1 oNeg (eC (.int 1)))) zNil) (zSeq (zAsg (eMt "list" oIndex (eV 1) (aCons (eC (.bl true)) aNil)) (yN 4)) (zRet (eIf (bV (e2 oEq (eV 2) (eArg oLst (aCons (e2 oLt (eV 4) (eC (.int 12))) (aCons (eCh (eC (.int 11)) [(oLt, (eV 4)), (oLt, (eC (.int 16)))]) (aCons (e2 oEq (eV 4) (eC (.int 16))) aNil)))))) (eV 4) (e1 oNeg (eC (.int 1)))))))))))))))
def T_error : Ft := fnT 5 [] t_error
theorem sim_error : SimF [] F_error T_error := by unfold F_error T_error m_error t_error; exact sf_fn (ss_seq (ss_asg (se_arg ol_lst (sa_cons (se_isx se_var) (sa_cons (se_isx se_var) (sa_cons (se_isx se_var) sa_nil)))) (sg_n (by decide))) (ss_seq (ss_asg (se_2 tq_add se_var (se_arg ol_lst (sa_cons (se_isx se_var) (sa_cons (se_isx se_var) (sa_cons (se_isx se_var) sa_nil))))) (sg_n (by decide))) (ss_seq (ss_asg (se_2 tq_add se_var (se_arg ol_lst (sa_cons (se_isx se_var) (sa_cons (se_isx se_var) (sa_cons (se_isx se_var) sa_nil))))) (sg_n (by decide))) (ss_seq (ss_asg (se_2 tq_add se_var (se_arg ol_lst (sa_cons (se_isx se_var) (sa_cons (se_isx se_var) (sa_cons (se_isx se_var) sa_nil))))) (sg_n (by decide))) (ss_seq (ss_asg (se_2 tq_add se_var (se_arg ol_lst (sa_cons (se_isx se_var) (sa_cons (se_isx se_var) (sa_cons (se_isx se_var) sa_nil))))) (sg_n (by decide))) (ss_seq (ss_asg (se_2 tq_add se_var (se_arg ol_lst (sa_cons (se_isx se_var) (sa_cons (se_isx se_var) sa_nil)))) (sg_n (by decide))) (ss_seq (ss_asg (se_arg ol_lst (sa_cons (se_isx se_var) (sa_cons (se_isx se_var) (sa_cons (se_isx se_var) sa_nil)))) (sg_n (by decide))) (ss_seq (ss_asg (se_arg ol_lst (sa_cons (se_isx se_var) (sa_cons (se_isx se_var) (sa_cons (se_isx se_var) sa_nil)))) (sg_n (by decide))) (ss_seq (ss_if (st_or (st_v (se_2 tq_ne2 (se_mt om_count se_var (sa_cons se_bl sa_nil)) se_int)) (st_v (se_2 tq_ne2 se_var se_var))) (ss_ret (se_1 tq_neg se_int)) ss_nil) (ss_seq (ss_asg (se_mt om_index se_var (sa_cons se_bl sa_nil)) (sg_n (by decide))) (ss_ret (se_if (st_v (se_2 tq_eq2 se_var (se_arg ol_lst (sa_cons (se_2 tq_lt se_var se_int) (sa_cons (se_ch se_int (Lk.cons tq_lt se_var (Lk.cons tq_lt se_int Lk.nil))) (sa_cons (se_2 tq_eq2 se_var se_int) sa_nil)))))) se_var (se_1 tq_neg se_int)))))))))))))
def t_Counts_str_1 : TEx := (eJs [(e1 oFmt (eV 1)), (eC (.str "/")), (e1 oFmt (eV 2))])
theorem sim_Counts_str_1 : SimE m_Counts_str_1 t_Counts_str_1 := by unfold m_Counts_str_1 t_Counts_str_1; exact (se_js (SJ.cons (se_1 tq_fmt se_var) (SJ.cons se_str (SJ.cons (se_1 tq_fmt se_var) SJ.nil))))
def t_Counts_str : TSx := (zRet (eMt "str" oJoin (eC (.str " ")) (aCons (eLc (jA oZp2 (aCons (e1 (oFld (["Counts"] : List Str) "arrivals") (eV 0)) (aCons (e1 (oFld (["Counts"] : List Str) "departures") (eV 0)) aNil))) (yTp 2 (ysCons (yN 1) (ysCons (yN 2) ysNil))) bYs t_Counts_str_1 [1, 2]) aNil)))
def T_Counts_str : Ft := fnT 3 [] t_Counts_str
theorem sim_Counts_str : SimF [] F_Counts_str T_Counts_str := by unfold F_Counts_str T_Counts_str m_Counts_str t_Counts_str; exact sf_fn (ss_ret (se_mt om_join se_str (sa_cons (SimO.e (so_lc (si_zp2 (sa_cons (se_1 tq_fld se_var) (sa_cons (se_1 tq_fld se_var) sa_nil))) (sg_tp (sgs_cons (sg_n (by decide)) (sgs_cons (sg_n (by decide)) sgs_nil))) (only_tp (only_cons (only_n (by decide)) (only_cons (only_n (by decide)) only_nil))) st_ys sim_Counts_str_1)) sa_nil)))
def t_told_2 : TSx := (zAsg (eIf (bTr (eV 2)) (eMakeK "Counts" T_Counts_init [1, 0] [] aNil (aCons (eV 1) (aCons (eV 0) aNil))) (eMake "Counts" T_Counts_init (aCons (eV 0) (aCons (eV 1) aNil)))) (yN 3))
theorem sim_told_2 : SimS [] m_told_2 t_told_2 := by unfold m_told_2 t_told_2; exact (ss_asg (se_if (st_tr se_var) (se_makeK sim_Counts_init sa_nil len_nil (sa_cons se_var (sa_cons se_var sa_nil)) (len_cons (len_cons len_nil)) (fun _ => RpL.nil) rfl (by decide) rfl) (se_make sim_Counts_init (sa_cons se_var (sa_cons se_var sa_nil)) (len_cons (len_cons len_nil)) rfl rfl)) (sg_n (by decide)))
def t_told_1 : TSx := (zRet (eArg oLst (aCons (eCall T_error (aCons (eV 4) aNil)) (aCons (eIf (bTr (e1 (oIsx isxF (.c "InvalidCounts")) (eV 4))) (eArg oReprX (aCons (e1 (oXf (["InvalidCounts"] : List Str) "tick") (eV 4)) aNil)) (eC (.str ""))) aNil))))
theorem sim_told_1 : SimS [] m_told_1 t_told_1 := by unfold m_told_1 t_told_1; exact (ss_ret (se_arg ol_lst (sa_cons (se_call sim_error (sa_cons se_var sa_nil) (len_cons len_nil) rfl rfl) (sa_cons (se_if (st_tr (se_isx se_var)) (se_arg ol_reprX (sa_cons (se_1 tq_xf se_var) sa_nil)) se_str) sa_nil))))
def t_told : TSx := (zSeq (zTryAs (["InvalidCounts"] : List Str) 4 t_told_2 t_told_1) (zRet (eArg oLst (aCons (eC (.str "made")) (aCons (eStr [("Counts", T_Counts_str)] (eV 3)) aNil)))))
def T_told : Ft := fnT 5 [] t_told
theorem sim_told : SimF [] F_told T_told := by unfold F_told T_told m_told t_told; exact sf_fn (ss_seq (ss_try (by decide) sim_told_2 sim_told_1) (ss_ret (se_arg ol_lst (sa_cons se_str (sa_cons (se_strO (ls_cons sim_Counts_str ls_nil) se_var) sa_nil)))))
def t_pair_right_1 : TEx := (eCall T_told (aCons (eV 0) (aCons (eV 1) (aCons (eV 6) aNil))))
theorem sim_pair_right_1 : SimE m_pair_right_1 t_pair_right_1 := by unfold m_pair_right_1 t_pair_right_1; exact (se_call sim_told (sa_cons se_var (sa_cons se_var (sa_cons se_var sa_nil))) (len_cons (len_cons (len_cons len_nil))) rfl rfl)
def t_pair_right : TSx := (zSeq (zPar [2, 3] (aCons (eCall T_wrong (aCons (eV 0) (aCons (eV 1) aNil))) (aCons (eArg oReprX (aCons (eArg oLst (aCons (eV 0) (aCons (eV 1) aNil))) aNil)) aNil))) (zSeq (zAsg (eIf (bV (e2 oNe (eV 2) (eArg oLst aNil))) (eArg oLst (aCons (eC (.int 0)) (aCons (eArg oReprX (aCons (e2 oIx (eV 2) (eC (.int 0))) aNil)) aNil))) (eArg oLst (aCons (eC (.str "made")) (aCons (eCall T_written (aCons (eV 0) (aCons (eV 1) aNil))) aNil)))) (yN 4)) (zSeq (zAsg (eLc (jS (eArg oLst (aCons (eC (.bl false)) (aCons (eC (.bl true)) aNil)))) (yN 6) bYs t_pair_right_1 [6]) (yN 5)) (zRet (eAn (e2 oEq (eV 5) (eArg oLst (aCons (eV 4) (aCons (eV 4) aNil)))) (e2 oEq (eArg oReprX (aCons (eArg oLst (aCons (eV 0) (aCons (eV 1) aNil))) aNil)) (eV 3)))))))
def T_pair_right : Ft := fnT 7 [] t_pair_right
theorem sim_pair_right : SimF [] F_pair_right T_pair_right := by unfold F_pair_right T_pair_right m_pair_right t_pair_right; exact sf_fn (ss_seq (ss_par (by decide) (sa_cons (se_call sim_wrong (sa_cons se_var (sa_cons se_var sa_nil)) (len_cons (len_cons len_nil)) rfl rfl) (sa_cons (se_arg ol_reprX (sa_cons (se_arg ol_lst (sa_cons se_var (sa_cons se_var sa_nil))) sa_nil)) sa_nil))) (ss_seq (ss_asg (se_if (st_v (se_2 tq_ne2 se_var (se_arg ol_lst sa_nil))) (se_arg ol_lst (sa_cons se_int (sa_cons (se_arg ol_reprX (sa_cons (se_2 tq_ix se_var se_int) sa_nil)) sa_nil))) (se_arg ol_lst (sa_cons se_str (sa_cons (se_call sim_written (sa_cons se_var (sa_cons se_var sa_nil)) (len_cons (len_cons len_nil)) rfl rfl) sa_nil)))) (sg_n (by decide))) (ss_seq (ss_asg (SimO.e (so_lc (si_seq (se_arg ol_lst (sa_cons se_bl (sa_cons se_bl sa_nil)))) (sg_n (by decide)) (only_n (by decide)) st_ys sim_pair_right_1)) (sg_n (by decide))) (ss_ret (se_and (se_2 tq_eq2 se_var (se_arg ol_lst (sa_cons se_var (sa_cons se_var sa_nil)))) (se_2 tq_eq2 (se_arg ol_reprX (sa_cons (se_arg ol_lst (sa_cons se_var (sa_cons se_var sa_nil))) sa_nil)) se_var))))))
def t_by_hand_1 : TEx := (eCall T_pair_right (aCons (eV 1) (aCons (eV 2) aNil)))
theorem sim_by_hand_1 : SimE m_by_hand_1 t_by_hand_1 := by unfold m_by_hand_1 t_by_hand_1; exact (se_call sim_pair_right (sa_cons se_var (sa_cons se_var sa_nil)) (len_cons (len_cons len_nil)) rfl rfl)
def t_by_hand : TSx := (zSeq (zAsg (eArg oLst (aCons (eArg oTup (aCons (e2 oMul (eArg oTup (aCons (eC (.int 0)) aNil)) (eC (.int 60))) (aCons (e2 oMul (eArg oTup (aCons (eC (.int 0)) aNil)) (eC (.int 60))) aNil))) (aCons (eArg oTup (aCons (e2 oMul (eArg oTup (aCons (eC (.int 0)) aNil)) (eC (.int 61))) (aCons (e2 oMul (eArg oTup (aCons (eC (.int 0)) aNil)) (eC (.int 61))) aNil))) (aCons (eArg oTup (aCons (eArg oTup aNil) (aCons (eArg oTup aNil) aNil))) (aCons (eArg oTup (aCons (eArg oTup (aCons (eC (.int 500)) (aCons (eC (.int 499)) aNil))) (aCons (eArg oTup (aCons (eC (.int 0)) (aCons (eC (.int 0)) aNil))) aNil))) (aCons (eArg oTup (aCons (eArg oTup (aCons (eC (.int 500)) (aCons (eC (.int 500)) aNil))) (aCons (eArg oTup (aCons (eC (.int 500)) (aCons (eC (.int 0)) aNil))) aNil))) aNil)))))) (yN 0)) (zSeq (zAsg (e2 oAdd (eV 0) (eArg oLst (aCons (eArg oTup (aCons (eArg oTup (aCons (eC (.int 999)) (aCons (eC (.int 1)) aNil))) (aCons (eArg oTup (aCons (eC (.int 999)) (aCons (eC (.int 0)) aNil))) aNil))) (aCons (eArg oTup (aCons (eArg oTup (aCons (eC (.int 1)) (aCons (eC (.int 0)) aNil))) (aCons (eArg oTup (aCons (eC (.int 0)) (aCons (eC (.int 2)) aNil))) aNil))) (aCons (eArg oTup (aCons (eArg oTup (aCons (eC (.int 0)) (aCons (eC (.int 5)) aNil))) (aCons (eArg oTup (aCons (eC (.int 1)) (aCons (eC (.int 0)) aNil))) aNil))) (aCons (eArg oTup (aCons (eArg oTup (aCons (eC (.bl true)) (aCons (eC (.int 1)) aNil))) (aCons (eArg oTup (aCons (eC (.int 0)) (aCons (eC (.int 0)) aNil))) aNil))) (aCons (eArg oTup (aCons (eArg oTup (aCons (eC (.int 1)) (aCons (eC (.int 1)) aNil))) (aCons (eArg oTup (aCons (eC (.int 0)) (aCons (eC (.bl false)) aNil))) aNil))) aNil))))))) (yN 0)) (zSeq (zAsg (e2 oAdd (eV 0) (eArg oLst (aCons (eArg oTup (aCons (eArg oTup (aCons (eC (.int 2)) (aCons (e1 oNeg (eC (.int 1))) aNil))) (aCons (eArg oTup (aCons (eC (.int 0)) (aCons (eC (.int 0)) aNil))) aNil))) (aCons (eArg oTup (aCons (eArg oTup (aCons (eC (.int 0)) (aCons (eC (.int 0)) (aCons (eC (.int 1000)) aNil)))) (aCons (eArg oTup (aCons (eC (.int 0)) (aCons (eC (.int 1)) (aCons (eC (.int 0)) aNil)))) aNil))) (aCons (eArg oTup (aCons (eC .non) (aCons (eC .non) aNil))) (aCons (eArg oTup (aCons (eArg oTup (aCons (eC (.int 1)) aNil)) (aCons (eArg oTup (aCons (eC (.int 0)) (aCons (eC (.int 0)) aNil))) aNil))) (aCons (eArg oTup (aCons (eArg oLst (aCons (eC (.int 1)) aNil)) (aCons (eArg oLst (aCons (eC (.int 0)) aNil)) aNil))) aNil))))))) (yN 0)) (zRet (eArg oAll (aCons (eLc (jS (eV 0)) (yTp 2 (ysCons (yN 1) (ysCons (yN 2) ysNil))) bYs t_by_hand_1 [1, 2]) aNil))))))
@[irreducible] def T_by_hand : Ft := fnT 3 [] t_by_hand
theorem sim_by_hand : SimF [] F_by_hand T_by_hand := by unfold F_by_hand T_by_hand m_by_hand t_by_hand; exact sf_fn (ss_seq (ss_asg (se_arg ol_lst (sa_cons (se_arg ol_tup (sa_cons (se_2 tq_mul (se_arg ol_tup (sa_cons se_int sa_nil)) se_int) (sa_cons (se_2 tq_mul (se_arg ol_tup (sa_cons se_int sa_nil)) se_int) sa_nil))) (sa_cons (se_arg ol_tup (sa_cons (se_2 tq_mul (se_arg ol_tup (sa_cons se_int sa_nil)) se_int) (sa_cons (se_2 tq_mul (se_arg ol_tup (sa_cons se_int sa_nil)) se_int) sa_nil))) (sa_cons (se_arg ol_tup (sa_cons (se_arg ol_tup sa_nil) (sa_cons (se_arg ol_tup sa_nil) sa_nil))) (sa_cons (se_arg ol_tup (sa_cons (se_arg ol_tup (sa_cons se_int (sa_cons se_int sa_nil))) (sa_cons (se_arg ol_tup (sa_cons se_int (sa_cons se_int sa_nil))) sa_nil))) (sa_cons (se_arg ol_tup (sa_cons (se_arg ol_tup (sa_cons se_int (sa_cons se_int sa_nil))) (sa_cons (se_arg ol_tup (sa_cons se_int (sa_cons se_int sa_nil))) sa_nil))) sa_nil)))))) (sg_n (by decide))) (ss_seq (ss_asg (se_2 tq_add se_var (se_arg ol_lst (sa_cons (se_arg ol_tup (sa_cons (se_arg ol_tup (sa_cons se_int (sa_cons se_int sa_nil))) (sa_cons (se_arg ol_tup (sa_cons se_int (sa_cons se_int sa_nil))) sa_nil))) (sa_cons (se_arg ol_tup (sa_cons (se_arg ol_tup (sa_cons se_int (sa_cons se_int sa_nil))) (sa_cons (se_arg ol_tup (sa_cons se_int (sa_cons se_int sa_nil))) sa_nil))) (sa_cons (se_arg ol_tup (sa_cons (se_arg ol_tup (sa_cons se_int (sa_cons se_int sa_nil))) (sa_cons (se_arg ol_tup (sa_cons se_int (sa_cons se_int sa_nil))) sa_nil))) (sa_cons (se_arg ol_tup (sa_cons (se_arg ol_tup (sa_cons se_bl (sa_cons se_int sa_nil))) (sa_cons (se_arg ol_tup (sa_cons se_int (sa_cons se_int sa_nil))) sa_nil))) (sa_cons (se_arg ol_tup (sa_cons (se_arg ol_tup (sa_cons se_int (sa_cons se_int sa_nil))) (sa_cons (se_arg ol_tup (sa_cons se_int (sa_cons se_bl sa_nil))) sa_nil))) sa_nil))))))) (sg_n (by decide))) (ss_seq (ss_asg (se_2 tq_add se_var (se_arg ol_lst (sa_cons (se_arg ol_tup (sa_cons (se_arg ol_tup (sa_cons se_int (sa_cons (se_1 tq_neg se_int) sa_nil))) (sa_cons (se_arg ol_tup (sa_cons se_int (sa_cons se_int sa_nil))) sa_nil))) (sa_cons (se_arg ol_tup (sa_cons (se_arg ol_tup (sa_cons se_int (sa_cons se_int (sa_cons se_int sa_nil)))) (sa_cons (se_arg ol_tup (sa_cons se_int (sa_cons se_int (sa_cons se_int sa_nil)))) sa_nil))) (sa_cons (se_arg ol_tup (sa_cons se_non (sa_cons se_non sa_nil))) (sa_cons (se_arg ol_tup (sa_cons (se_arg ol_tup (sa_cons se_int sa_nil)) (sa_cons (se_arg ol_tup (sa_cons se_int (sa_cons se_int sa_nil))) sa_nil))) (sa_cons (se_arg ol_tup (sa_cons (se_arg ol_lst (sa_cons se_int sa_nil)) (sa_cons (se_arg ol_lst (sa_cons se_int sa_nil)) sa_nil))) sa_nil))))))) (sg_n (by decide))) (ss_ret (se_arg ol_all (sa_cons (SimO.e (so_lc (si_seq se_var) (sg_tp (sgs_cons (sg_n (by decide)) (sgs_cons (sg_n (by decide)) sgs_nil))) (only_tp (only_cons (only_n (by decide)) (only_cons (only_n (by decide)) only_nil))) st_ys sim_by_hand_1)) sa_nil))))))
def t_draw : TSx := (zSeq (zAsg (e2 oAdd (eIxO 0 (eC (.int 2))) (eC (.int 1))) (yAt 0 (eC (.int 2)))) (zSeq (zAsg (eIxO 0 (eC (.int 0))) (yN 2)) (zSeq (zAsg (e2 oMod (e2 oAdd (e2 oAdd (e2 oMul (eV 2) (e2 oAdd (e2 oMod (eV 2) (eC (.int 40993))) (eC (.int 30013)))) (e2 oMul (eC (.int 70001)) (eIxO 0 (eC (.int 2))))) (eC (.int 9))) (eC (.int 2147483179))) (yAt 0 (eC (.int 0)))) (zSeq (zIf (bV (e2 oGt (eIxO 0 (eC (.int 1))) (eC (.int 0)))) (zSeq (zAsg (eArg oDivmod (aCons (eIxO 0 (eC (.int 1))) (aCons (eV 1) aNil))) (yTp 2 (ysCons (yAt 0 (eC (.int 1))) (ysCons (yN 3) ysNil)))) (zRet (eV 3))) zNil) (zRet (e2 oMod (e2 oDiv (eIxO 0 (eC (.int 0))) (eC (.int 64))) (eV 1)))))))
def T_draw : Ft := fnT 4 [0] t_draw
theorem sim_draw : SimF [0] F_draw T_draw := by unfold F_draw T_draw m_draw t_draw; exact sf_fn (ss_seq (ss_asg (se_2 tq_add (se_ixO se_int) se_int) (sg_at se_int)) (ss_seq (ss_asg (se_ixO se_int) (sg_n (by decide))) (ss_seq (ss_asg (se_2 tq_mod (se_2 tq_add (se_2 tq_add (se_2 tq_mul se_var (se_2 tq_add (se_2 tq_mod se_var se_int) se_int)) (se_2 tq_mul se_int (se_ixO se_int))) se_int) se_int) (sg_at se_int)) (ss_seq (ss_if (st_v (se_2 tq_gt (se_ixO se_int) se_int)) (ss_seq (ss_asg (se_arg ol_divmod (sa_cons (se_ixO se_int) (sa_cons se_var sa_nil))) (sg_tp (sgs_cons (sg_at se_int) (sgs_cons (sg_n (by decide)) sgs_nil)))) (ss_ret se_var)) ss_nil) (ss_ret (se_2 tq_mod (se_2 tq_div (se_ixO se_int) se_int) se_var))))))
def t_flows_1 : TSx := (zSeq (zAsg (eCallS T_draw 0 (aCons (eC (.int 6)) aNil)) (yN 9)) (zSeq (zAsg (eArg oMin (aCons (eV 7) (aCons (e2 oIx (eArg oLst (aCons (eC (.int 0)) (aCons (eC (.int 0)) (aCons (eC (.int 1)) (aCons (eV 2) (aCons (eCallS T_draw 0 (aCons (e2 oAdd (eV 2) (eC (.int 1))) aNil)) (aCons (eCallS T_draw 0 (aCons (e2 oAdd (eV 2) (eC (.int 1))) aNil)) aNil))))))) (eV 9)) aNil))) (yN 10)) (zSeq (zPar [6, 7] (aCons (e2 oAdd (eV 6) (eV 10)) (aCons (e2 oSub (eV 7) (eV 10)) aNil))) (zSeq (zAsg (eCallS T_draw 0 (aCons (eC (.int 6)) aNil)) (yN 9)) (zSeq (zAsg (e2 oIx (eArg oLst (aCons (eC (.int 0)) (aCons (eV 6) (aCons (eArg oMin (aCons (eC (.int 1)) (aCons (eV 6) aNil))) (aCons (eCallS T_draw 0 (aCons (e2 oAdd (eV 6) (eC (.int 1))) aNil)) (aCons (eCallS T_draw 0 (aCons (e2 oAdd (eV 6) (eC (.int 1))) aNil)) (aCons (eArg oMin (aCons (eV 6) (aCons (eV 10) aNil))) aNil))))))) (eV 9)) (yN 11)) (zSeq (zDrop (eAppO 4 (eV 10))) (zSeq (zDrop (eAppO 5 (eV 11))) (zAsg (e2 oSub (eV 6) (eV 11)) (yN 6)))))))))
theorem sim_flows_1 : SimS [0] m_flows_1 t_flows_1 := by unfold m_flows_1 t_flows_1; exact (ss_seq (ss_asg (se_callS sim_draw (sa_cons se_int sa_nil) (len_cons len_nil) rfl rfl) (sg_n (by decide))) (ss_seq (ss_asg (se_arg ol_min (sa_cons se_var (sa_cons (se_2 tq_ix (se_arg ol_lst (sa_cons se_int (sa_cons se_int (sa_cons se_int (sa_cons se_var (sa_cons (se_callS sim_draw (sa_cons (se_2 tq_add se_var se_int) sa_nil) (len_cons len_nil) rfl rfl) (sa_cons (se_callS sim_draw (sa_cons (se_2 tq_add se_var se_int) sa_nil) (len_cons len_nil) rfl rfl) sa_nil))))))) se_var) sa_nil))) (sg_n (by decide))) (ss_seq (ss_par (by decide) (sa_cons (se_2 tq_add se_var se_var) (sa_cons (se_2 tq_sub se_var se_var) sa_nil))) (ss_seq (ss_asg (se_callS sim_draw (sa_cons se_int sa_nil) (len_cons len_nil) rfl rfl) (sg_n (by decide))) (ss_seq (ss_asg (se_2 tq_ix (se_arg ol_lst (sa_cons se_int (sa_cons se_var (sa_cons (se_arg ol_min (sa_cons se_int (sa_cons se_var sa_nil))) (sa_cons (se_callS sim_draw (sa_cons (se_2 tq_add se_var se_int) sa_nil) (len_cons len_nil) rfl rfl) (sa_cons (se_callS sim_draw (sa_cons (se_2 tq_add se_var se_int) sa_nil) (len_cons len_nil) rfl rfl) (sa_cons (se_arg ol_min (sa_cons se_var (sa_cons se_var sa_nil))) sa_nil))))))) se_var) (sg_n (by decide))) (ss_seq (ss_drop (se_appO se_var)) (ss_seq (ss_drop (se_appO se_var)) (ss_asg (se_2 tq_sub se_var se_var) (sg_n (by decide))))))))))
def t_flows : TSx := (zSeq (zParV [4, 5, 6, 7] [.o (eArg oLst aNil), .o (eArg oLst aNil), .v (eC (.int 0)), .v (eV 3)]) (zSeq (zFor (jA oRg1 (aCons (eV 1) aNil)) (yN 8) t_flows_1) (zRet (eArg oLst (aCons (eTupO 4) (aCons (eTupO 5) aNil))))))
def T_flows : Ft := fnT 12 [0] t_flows
theorem sim_flows : SimF [0] F_flows T_flows := by unfold F_flows T_flows m_flows t_flows; exact sf_fn (ss_seq (ss_parV (is := [4, 5, 6, 7]) rfl rfl rfl (by decide) (by decide) (VM.o (so_arg oo_lst sa_nil) (VM.o (so_arg oo_lst sa_nil) (VM.v se_int (VM.v se_var VM.nil))))) (ss_seq (ss_for (si_rg1 (sa_cons se_var sa_nil)) (sg_n (by decide)) sim_flows_1) (ss_ret (se_arg ol_lst (sa_cons se_tupO (sa_cons se_tupO sa_nil))))))
def t_small_flows : TSx := (zRet (eCallS T_flows 0 (aCons (e2 oAdd (eC (.int 1)) (eCallS T_draw 0 (aCons (eC (.int 5)) aNil))) (aCons (eC (.int 3)) (aCons (eC (.int 6)) aNil)))))
def T_small_flows : Ft := fnT 1 [0] t_small_flows
theorem sim_small_flows : SimF [0] F_small_flows T_small_flows := by unfold F_small_flows T_small_flows m_small_flows t_small_flows; exact sf_fn (ss_ret (se_callS sim_flows (sa_cons (se_2 tq_add se_int (se_callS sim_draw (sa_cons se_int sa_nil) (len_cons len_nil) rfl rfl)) (sa_cons se_int (sa_cons se_int sa_nil))) (len_cons (len_cons (len_cons len_nil))) rfl rfl))
def t_great_flows : TSx := (zSeq (zIf (bV (e2 oEq (eCallS T_draw 0 (aCons (eC (.int 3)) aNil)) (eC (.int 1)))) (zRet (eCallS T_flows 0 (aCons (e2 oAdd (eC (.int 1)) (eCallS T_draw 0 (aCons (eC (.int 60)) aNil))) (aCons (e2 oIx (eArg oLst (aCons (eC (.int 1)) (aCons (eC (.int 40)) (aCons (eC (.int 999)) aNil)))) (eCallS T_draw 0 (aCons (eC (.int 3)) aNil))) (aCons (eC (.int 999)) aNil))))) zNil) (zRet (eCallS T_flows 0 (aCons (e2 oAdd (eC (.int 1)) (eCallS T_draw 0 (aCons (eC (.int 12)) aNil))) (aCons (eC (.int 5)) (aCons (eC (.int 60)) aNil))))))
def T_great_flows : Ft := fnT 1 [0] t_great_flows
theorem sim_great_flows : SimF [0] F_great_flows T_great_flows := by unfold F_great_flows T_great_flows m_great_flows t_great_flows; exact sf_fn (ss_seq (ss_if (st_v (se_2 tq_eq2 (se_callS sim_draw (sa_cons se_int sa_nil) (len_cons len_nil) rfl rfl) se_int)) (ss_ret (se_callS sim_flows (sa_cons (se_2 tq_add se_int (se_callS sim_draw (sa_cons se_int sa_nil) (len_cons len_nil) rfl rfl)) (sa_cons (se_2 tq_ix (se_arg ol_lst (sa_cons se_int (sa_cons se_int (sa_cons se_int sa_nil)))) (se_callS sim_draw (sa_cons se_int sa_nil) (len_cons len_nil) rfl rfl)) (sa_cons se_int sa_nil))) (len_cons (len_cons (len_cons len_nil))) rfl rfl)) ss_nil) (ss_ret (se_callS sim_flows (sa_cons (se_2 tq_add se_int (se_callS sim_draw (sa_cons se_int sa_nil) (len_cons len_nil) rfl rfl)) (sa_cons se_int (sa_cons se_int sa_nil))) (len_cons (len_cons (len_cons len_nil))) rfl rfl)))
def t_any_flows : TSx := (zRet (eIf (bV (e2 oEq (eCallS T_draw 0 (aCons (eC (.int 3)) aNil)) (eC (.int 0)))) (eCallS T_small_flows 0 aNil) (eCallS T_great_flows 0 aNil)))
def T_any_flows : Ft := fnT 1 [0] t_any_flows
theorem sim_any_flows : SimF [0] F_any_flows T_any_flows := by unfold F_any_flows T_any_flows m_any_flows t_any_flows; exact sf_fn (ss_ret (se_if (st_v (se_2 tq_eq2 (se_callS sim_draw (sa_cons se_int sa_nil) (len_cons len_nil) rfl rfl) se_int)) (se_callS sim_small_flows sa_nil len_nil rfl rfl) (se_callS sim_great_flows sa_nil len_nil rfl rfl)))
def t_bent : TSx := (zSeq (zPar [2, 3] (aCons (eArg oLst (aCons (e1 oNeg (eC (.int 1))) (aCons (eC (.int 1000)) (aCons (eC (.bl true)) (aCons (eC (.bl false)) (aCons (eC .non) (aCons (eC (.str "1")) (aCons (e2 oPow (eC (.int 10)) (eC (.int 20))) (aCons (eArg oTup (aCons (eC (.int 1)) aNil)) (aCons (eArg oLst (aCons (eC (.int 1)) aNil)) (aCons (eC (.str "")) (aCons (eC (.int 999)) (aCons (eC (.int 1)) aNil))))))))))))) (aCons (eCallS T_draw 0 (aCons (eLen [("Counts", T_Counts_len)] (eV 1)) aNil)) aNil))) (zSeq (zAsg (eCallS T_draw 0 (aCons (eC (.int 10)) aNil)) (yN 4)) (zSeq (zIf (bV (e2 oLt (eV 4) (eC (.int 6)))) (zRet (e2 oAdd (e2 oAdd (eSl (eV 1) nNone (nSome (eV 3))) (eArg oTup (aCons (e2 oIx (eV 2) (eCallS T_draw 0 (aCons (eC (.int 12)) aNil))) aNil))) (eSl (eV 1) (nSome (e2 oAdd (eV 3) (eC (.int 1)))) nNone))) zNil) (zSeq (zAsg (eArg oLst (aCons (e2 oAdd (e2 oAdd (eSl (eV 1) nNone (nSome (eV 3))) (eArg oTup (aCons (e2 oAdd (e2 oIx (eV 1) (eV 3)) (eC (.int 1))) aNil))) (eSl (eV 1) (nSome (e2 oAdd (eV 3) (eC (.int 1)))) nNone)) (aCons (eSl (eV 1) (nSome (eC (.int 1))) nNone) (aCons (e2 oAdd (eV 1) (eSl (eV 1) (nSome (e1 oNeg (eC (.int 1)))) nNone)) (aCons (eArg oList (aCons (eV 1) aNil)) aNil))))) (yN 5)) (zRet (e2 oIx (eV 5) (e2 oSub (eV 4) (eC (.int 6)))))))))
def T_bent : Ft := fnT 6 [0] t_bent
theorem sim_bent : SimF [0] F_bent T_bent := by unfold F_bent T_bent m_bent t_bent; exact sf_fn (ss_seq (ss_par (by decide) (sa_cons (se_arg ol_lst (sa_cons (se_1 tq_neg se_int) (sa_cons se_int (sa_cons se_bl (sa_cons se_bl (sa_cons se_non (sa_cons se_str (sa_cons (se_2 tq_pow se_int se_int) (sa_cons (se_arg ol_tup (sa_cons se_int sa_nil)) (sa_cons (se_arg ol_lst (sa_cons se_int sa_nil)) (sa_cons se_str (sa_cons se_int (sa_cons se_int sa_nil))))))))))))) (sa_cons (se_callS sim_draw (sa_cons (se_len (ls_cons sim_Counts_len ls_nil) se_var) sa_nil) (len_cons len_nil) rfl rfl) sa_nil))) (ss_seq (ss_asg (se_callS sim_draw (sa_cons se_int sa_nil) (len_cons len_nil) rfl rfl) (sg_n (by decide))) (ss_seq (ss_if (st_v (se_2 tq_lt se_var se_int)) (ss_ret (se_2 tq_add (se_2 tq_add (se_sl se_var so_none (so_some se_var)) (se_arg ol_tup (sa_cons (se_2 tq_ix se_var (se_callS sim_draw (sa_cons se_int sa_nil) (len_cons len_nil) rfl rfl)) sa_nil))) (se_sl se_var (so_some (se_2 tq_add se_var se_int)) so_none))) ss_nil) (ss_seq (ss_asg (se_arg ol_lst (sa_cons (se_2 tq_add (se_2 tq_add (se_sl se_var so_none (so_some se_var)) (se_arg ol_tup (sa_cons (se_2 tq_add (se_2 tq_ix se_var se_var) se_int) sa_nil))) (se_sl se_var (so_some (se_2 tq_add se_var se_int)) so_none)) (sa_cons (se_sl se_var (so_some se_int) so_none) (sa_cons (se_2 tq_add se_var (se_sl se_var (so_some (se_1 tq_neg se_int)) so_none)) (sa_cons (se_arg ol_list (sa_cons se_var sa_nil)) sa_nil))))) (sg_n (by decide))) (ss_ret (se_2 tq_ix se_var (se_2 tq_sub se_var se_int)))))))
def t_right_1 : TSx := (zSeq (zAsg (eCallS T_draw 0 (aCons (eC (.int 8)) aNil)) (yN 4)) (zSeq (zAsgO (eArg oLst (aCons (eIf (bV (e2 oNe (eV 4) (eC (.int 1)))) (eCallS T_bent 0 (aCons (eV 1) aNil)) (eV 1)) (aCons (eIf (bV (e2 oGt (eV 4) (eC (.int 4)))) (eCallS T_bent 0 (aCons (eV 2) aNil)) (eV 2)) aNil))) 5) (zSeq (zIf (bV (e2 oEq (eV 4) (eC (.int 1)))) (zAsg (eCallS T_bent 0 (aCons (eV 2) aNil)) (yAt 5 (eC (.int 1)))) zNil) (zSeq (zIf (bV (e2 oEq (eV 4) (eC (.int 2)))) (zAsg (e2 oIx (eArg oLst (aCons (eC .non) (aCons (eC (.int 0)) (aCons (eC (.str "")) (aCons eDict0 (aCons (eArg oLst aNil) (aCons (eArg oTup aNil) (aCons (eC (.str "1/0")) (aCons (eArg oTup (aCons (eArg oTup (aCons (eC (.int 1)) aNil)) (aCons (eArg oTup (aCons (eC (.int 0)) aNil)) aNil))) (aCons (eC (.bl true)) (aCons (eC (.int 7)) aNil))))))))))) (eCallS T_draw 0 (aCons (eC (.int 10)) aNil))) (yAt 5 (eCallS T_draw 0 (aCons (eC (.int 2)) aNil)))) zNil) (zIf (bO (bNt (bTr (eCall T_pair_right (aCons (eIxO 5 (eC (.int 0))) (aCons (eIxO 5 (eC (.int 1))) aNil))))) (bNt (bTr (eCall T_pair_right (aCons (eV 1) (aCons (eV 2) aNil)))))) (zRet (eC (.bl false))) zNil)))))
theorem sim_right_1 : SimS [0] m_right_1 t_right_1 := by unfold m_right_1 t_right_1; exact (ss_seq (ss_asg (se_callS sim_draw (sa_cons se_int sa_nil) (len_cons len_nil) rfl rfl) (sg_n (by decide))) (ss_seq (ss_asgO (by decide) (so_arg oo_lst (sa_cons (se_if (st_v (se_2 tq_ne2 se_var se_int)) (se_callS sim_bent (sa_cons se_var sa_nil) (len_cons len_nil) rfl rfl) se_var) (sa_cons (se_if (st_v (se_2 tq_gt se_var se_int)) (se_callS sim_bent (sa_cons se_var sa_nil) (len_cons len_nil) rfl rfl) se_var) sa_nil)))) (ss_seq (ss_if (st_v (se_2 tq_eq2 se_var se_int)) (ss_asg (se_callS sim_bent (sa_cons se_var sa_nil) (len_cons len_nil) rfl rfl) (sg_at se_int)) ss_nil) (ss_seq (ss_if (st_v (se_2 tq_eq2 se_var se_int)) (ss_asg (se_2 tq_ix (se_arg ol_lst (sa_cons se_non (sa_cons se_int (sa_cons se_str (sa_cons se_dict0 (sa_cons (se_arg ol_lst sa_nil) (sa_cons (se_arg ol_tup sa_nil) (sa_cons se_str (sa_cons (se_arg ol_tup (sa_cons (se_arg ol_tup (sa_cons se_int sa_nil)) (sa_cons (se_arg ol_tup (sa_cons se_int sa_nil)) sa_nil))) (sa_cons se_bl (sa_cons se_int sa_nil))))))))))) (se_callS sim_draw (sa_cons se_int sa_nil) (len_cons len_nil) rfl rfl)) (sg_at (se_callS sim_draw (sa_cons se_int sa_nil) (len_cons len_nil) rfl rfl))) ss_nil) (ss_if (st_or (st_not (st_tr (se_call sim_pair_right (sa_cons (se_ixO se_int) (sa_cons (se_ixO se_int) sa_nil)) (len_cons (len_cons len_nil)) rfl rfl))) (st_not (st_tr (se_call sim_pair_right (sa_cons se_var (sa_cons se_var sa_nil)) (len_cons (len_cons len_nil)) rfl rfl)))) (ss_ret se_bl) ss_nil)))))
def t_right : TSx := (zSeq (zAsg (eCallS T_any_flows 0 aNil) (yTp 2 (ysCons (yN 1) (ysCons (yN 2) ysNil)))) (zSeq (zFor (jA oRg1 (aCons (eC (.int 12)) aNil)) (yN 3) t_right_1) (zRet (eC (.bl true)))))
def T_right : Ft := fnT 6 [0] t_right
theorem sim_right : SimF [0] F_right T_right := by unfold F_right T_right m_right t_right; exact sf_fn (ss_seq (ss_asg (se_callS sim_any_flows sa_nil len_nil rfl rfl) (sg_tp (sgs_cons (sg_n (by decide)) (sgs_cons (sg_n (by decide)) sgs_nil)))) (ss_seq (ss_for (si_rg1 (sa_cons se_int sa_nil)) (sg_n (by decide)) sim_right_1) (ss_ret se_bl)))
def t_pool : TSx := (zSeq (zAsg (eIf (bO (bV (e2 oLt (eV 0) (eC (.int 0)))) (bV (e2 oGe (eV 0) (e2 oPow (eC (.int 10)) (eC (.int 18)))))) (eArg oAbs (aCons (eV 0) aNil)) (eC (.int 0))) (yN 1)) (zRet (eArg oLst (aCons (e2 oMod (eV 0) (eC (.int 2147483179))) (aCons (eV 1) (aCons (eC (.int 0)) aNil))))))
def T_pool : Ft := fnTo 2 t_pool
theorem xo_pool : SimSo m_pool t_pool := by unfold m_pool t_pool; exact (xo_seq (xo_of (P := []) (ss_asg (se_if (st_or (st_v (se_2 tq_lt se_var se_int)) (st_v (se_2 tq_ge se_var (se_2 tq_pow se_int se_int)))) (se_arg ol_abs (sa_cons se_var sa_nil)) se_int) (sg_n (by decide))) nr_asg) (xo_ret (so_arg oo_lst (sa_cons (se_2 tq_mod se_var se_int) (sa_cons se_var (sa_cons se_int sa_nil))))))
theorem sim_pool : SimF [] F_pool T_pool := fo_sim xo_pool
theorem fo_pool : SimFo F_pool T_pool := fo_body xo_pool
def t_cell_1 : TSx := (zAsg (e2 oMod (e2 oAdd (e2 oMul (eV 2) (eC (.int 42019))) (eV 3)) (eC (.int 2147483179))) (yN 2))
theorem sim_cell_1 : SimS [] m_cell_1 t_cell_1 := by unfold m_cell_1 t_cell_1; exact (ss_asg (se_2 tq_mod (se_2 tq_add (se_2 tq_mul se_var se_int) se_var) se_int) (sg_n (by decide)))
def t_cell : TSx := (zSeq (zIf (bV (e2 oLt (eV 1) (eLen [("Counts", T_Counts_len)] (eV 0)))) (zRet (e2 oIx (eV 0) (eV 1))) zNil) (zSeq (zAsg (e2 oMod (e2 oMul (eC (.int 70009)) (e2 oAdd (e2 oAdd (e2 oMul (eV 1) (eV 1)) (e2 oMul (eC (.int 7)) (eV 1))) (eC (.int 19)))) (eC (.int 2147483179))) (yN 2)) (zSeq (zFor (jS (eSl (eV 0) nNone (nSome (eC (.int 3))))) (yN 3) t_cell_1) (zRet (eV 2)))))
def T_cell : Ft := fnT 4 [] t_cell
theorem sim_cell : SimF [] F_cell T_cell := by unfold F_cell T_cell m_cell t_cell; exact sf_fn (ss_seq (ss_if (st_v (se_2 tq_lt se_var (se_len (ls_cons sim_Counts_len ls_nil) se_var))) (ss_ret (se_2 tq_ix se_var se_var)) ss_nil) (ss_seq (ss_asg (se_2 tq_mod (se_2 tq_mul se_int (se_2 tq_add (se_2 tq_add (se_2 tq_mul se_var se_var) (se_2 tq_mul se_int se_var)) se_int)) se_int) (sg_n (by decide))) (ss_seq (ss_for (si_seq (se_sl se_var so_none (so_some se_int))) (sg_n (by decide)) sim_cell_1) (ss_ret se_var))))
def t_law_1 : TEx := (eCallT T_right (eCall T_pool (aCons (eCall T_cell (aCons (eV 0) (aCons (eV 1) aNil))) aNil)))
theorem sim_law_1 : SimE m_law_1 t_law_1 := by unfold m_law_1 t_law_1; exact (se_callT sim_right (so_call fo_pool (sa_cons (se_call sim_cell (sa_cons se_var (sa_cons se_var sa_nil)) (len_cons (len_cons len_nil)) rfl rfl) sa_nil) (len_cons len_nil) rfl rfl))
def t_law : TSx := (zSeq (zIf (bNt (bTr (eCall T_by_hand aNil))) (zRet (eC (.bl false))) zNil) (zRet (eArg oAll (aCons (eLc (jA oRg1 (aCons (eArg oMax (aCons (eC (.int 2)) (aCons (eArg oMin (aCons (eLen [("Counts", T_Counts_len)] (eV 0)) (aCons (eC (.int 6)) aNil))) aNil))) aNil)) (yN 1) bYs t_law_1 [1]) aNil))))
def T_law : Ft := fnT 2 [] t_law
theorem sim_law : SimF [] F_law T_law := by unfold F_law T_law m_law t_law; exact sf_fn (ss_seq (ss_if (st_not (st_tr (se_call sim_by_hand sa_nil len_nil rfl rfl))) (ss_ret se_bl) ss_nil) (ss_ret (se_arg ol_all (sa_cons (SimO.e (so_lc (si_rg1 (sa_cons (se_arg ol_max (sa_cons se_int (sa_cons (se_arg ol_min (sa_cons (se_len (ls_cons sim_Counts_len ls_nil) se_var) (sa_cons se_int sa_nil))) sa_nil))) sa_nil)) (sg_n (by decide)) (only_n (by decide)) st_ys sim_law_1)) sa_nil))))
end K02

namespace K02
open PySem Mc
local macro_rules
  | `(tactic| array_get_dec) => `(tactic| simp (config := {maxSteps := 2000000, dsimp := false, failIfUnchanged := false, implicitDefEqProofs := false}) only [↓uE_ok, ↓uE_ex, ↓uO_some, ↓uO_none, ↓u_eV, ↓u_eC, ↓u_e1, ↓u_e2, ↓u_aNil, ↓u_aCons, ↓u_eArg, ↓uO_oB, ↓u_bV, ↓u_bTr, ↓u_bNt, ↓k_bAn, ↓k_bO, ↓u_bYs, ↓k_eAn, ↓k_eOr, ↓u_eNt, ↓k_eIf, ↓u_eCh, ↓u_ch1, ↓k_ch2, ↓u_nNone, ↓u_nSome, ↓uO_oI, ↓u_eSl, ↓u_eMt, ↓u_dict0, ↓u_dict1, ↓u_ixO, ↓u_lenO, ↓u_tupO, ↓k_appO, ↓k_ext, ↓xL_lst, ↓u_eCall, ↓u_eCallK, ↓o1_eq, ↓k_eCallS, ↓u_eCallT, ↓mk1_eq, ↓u_eMake, ↓u_eMakeK, ↓u_eMeth, ↓u_eProp, ↓u_eFldO, ↓u_eLen, ↓u_lenL, ↓u_lenF, ↓u_lenT, ↓u_lenK, ↓u_nil, ↓u_brk, ↓u_cnt, ↓u_retN, ↓u_no, ↓u_seq, ↓sq_nx, ↓sq_rt, ↓sq_bk, ↓sq_ct, ↓sq_xc, ↓u_drop, ↓u_ret, ↓k_if, ↓u_asg, ↓u_asg2, ↓k_yN, ↓u_yTp, ↓u_ysNil, ↓u_ysCons, ↓xI_int, ↓k_yAt, ↓k_fz, ↓k_asgO, ↓k_par, ↓k_parV, ↓u_evN, ↓u_evV, ↓u_evO, ↓k_aug, ↓k_fldS, ↓k_augS, ↓k_fnT, ↓k_fnTo, ↓fo_rt, ↓fo_xc, ↓u_retO, ↓k_rt, ↓k_nx, ↓k_xc, ↓k_ifW, ↓u_wOf, ↓u_wNt, ↓k_wOr, ↓xB_bl, ↓k_wCall, ↓st_0, ↓st_s, ↓sa_nl, ↓sa_cs, ↓sv_nl, ↓sv_cs, ↓fk_0, ↓fk_f, ↓fk_s, ↓in_z, ↓in_nl, ↓in_cs, ↓ou_nl, ↓ou_0, ↓l_fz0, ↓l_fzs, ↓l_ow0, ↓l_ows, ↓l_oL0, ↓l_oLs, ↓a_add, ↓a_addL, ↓a_addT, ↓a_addS, ↓a_sub, ↓a_mul, ↓a_div, ↓a_mod, ↓a_pow, ↓a_lt, ↓a_le, ↓a_gt, ↓a_ge, ↓a_eqI, ↓a_eqS, ↓a_neI, ↓a_neS, ↓a_neg, ↓a_isN, ↓a_notN, ↓a_ixL, ↓a_ixF, ↓a_ixT, ↓a_ixK, ↓a_at, ↓a_tup, ↓a_lst, ↓a_abs, ↓a_min, ↓a_max, ↓a_divmod, ↓a_tupL, ↓a_tupT, ↓a_listL, ↓a_listT, ↓a_slL, ↓a_slF, ↓a_slT, ↓a_fld, ↓a_ins, ↓a_truB, ↓a_truI, ↓a_truN, ↓a_truL, ↓a_truT, ↓a_sqL, ↓a_sqF, ↓a_sqT, ↓a_sqK, ↓a_rg1, ↓a_rg2, ↓a_lrg, ↓a_enL, ↓a_enT, ↓a_isiI, ↓a_isiB, ↓a_isiN, ↓a_isiS, ↓a_isiL, ↓a_isiT, ↓a_isiD, ↓a_isiC, ↓u_jS, ↓u_jA, ↓k_for, ↓bd_nx, ↓bd_ct, ↓bd_bk, ↓bd_rt, ↓bd_xc, ↓lp_nil, ↓wi_nil, ↓wi_cons, ↓ba_nil, ↓ba_cons, ↓ob_N, ↓ob_S, ↓ob_0, ↓ob_o, ↓ob_n, ↓ob_s, ↓k_lc, ↓lc_nil, ↓k_lc2, ↓lc2_nil, ↓k_raise, zr_1, zr_2, ↓te_nx, ↓te_rt, ↓te_bk, ↓te_ct, ↓ty_nx, ↓ty_rt, ↓ty_bk, ↓ty_ct, ↓ty_xc, ↓k_try, ↓a_xf, ↓a_isx, ↓a_cnt, ↓a_zp2, ↓a_join, ↓xS_str, ↓a_fmtI, ↓a_fmtS, ↓u_js, ↓js_nil, ↓js_cons, ↓u_eStr, ↓u_strI, ↓u_strS, ↓u_strC, fz_0, fz_s, fz_n, fz_o, Option.map_some, Option.map_none, isa_0, isa_1, isa_2, isa_3, isa_4, isa_5, isa_6, isa_7, isa_8, isa_9, isa_10, isa_11, isa_12, isa_13, isa_14, isa_15, isa_16, isa_17, isa_18, isa_19, isa_20, isa_21, isa_22, isa_23, isx_0, isx_1, isx_2, isx_3, isx_4, isx_5, isx_6, isx_7, isx_8, isx_9, isx_10, isx_11, isx_12, isx_13, isx_14, isx_15, isx_16, isx_17, isx_18, isx_19, isx_20, isx_21, isx_22, sne_0, seq_0, sne_1, seq_1, sne_2, seq_2, sne_3, seq_3, sne_4, seq_4, sne_5, seq_5, ↓ik_t, ↓ik_f, List.lookup_cons, List.lookup_nil, beq_self_eq_true, List.contains_cons, List.contains_nil, Bool.and_true, Bool.true_and, Bool.and_false, Bool.false_and, ↓reduceIte, putT, Bool.true_or, Bool.or_true, Bool.or_false, Bool.false_or, at_0, at_1, at_2, at_3, at_4, at_5, at_6, ix_0, ix_1, ix_2, List.set_cons_zero, List.set_cons_succ, decide_true, decide_false, eq_self, List.map_cons, List.map_nil, Bool.not_true, Bool.not_false, Bool.false_eq_true, List.replicate_succ, List.replicate_zero, true_and, and_true, isNon])
local macro_rules
  | `(tactic| get_elem_tactic_trivial) => `(tactic| first
    | assumption
    | omega
    | exact small_l (small_of (by omega) (by omega))
    | exact small_r (small_of (by omega) (by omega))
    | (show _ ≤ lim; simp only [lim, List.length_cons, List.length_nil, List.length_append]; omega)
    | (show _ < lim; simp only [lim, List.length_cons, List.length_nil, List.length_append]; omega)
    | (refine And.intro ?_ ?_; get_elem_tactic_trivial; get_elem_tactic_trivial)
    | (exact inR_of (by omega) (by omega))
    | (simp only [List.length_cons, List.length_nil, List.length_append, List.length_map]; omega)
    | rfl
    | decide
    | decide +kernel)
local macro_rules
  | `(tactic| decreasing_trivial) => `(tactic| (array_get_dec; (repeat ((first | ((with_reducible apply uO_of); (with_reducible exact rfl)) | ((with_reducible apply And.intro); (get_elem_tactic_trivial))); (array_get_dec)))))
section
variable {Q : T → TSt → Prop} {X : TExn → TSt → Prop} {τ : TSt}
def Pool (t : T) : Prop := ∃ a b c : Int, t = .lst [.int a, .int b, .int c] ∧ 0 ≤ a ∧ a < 2147483179 ∧ 0 ≤ b ∧ 0 ≤ c
theorem draw_ok {t : T} {n : Int} (p : Pool t) (n1 : 0 < n) (n2 : n < 1073741824) (k : ∀ t' d, Pool t' → 0 ≤ d → d < n → Q (.int d) [some (.ow t')]) : uE (T_draw [.ow t, .fz (.int n)]) Q X := by
  obtain ⟨a, b, c, rfl, ha, ha2, hb, hc⟩ := p
  unfold T_draw t_draw
  decreasing_trivial
  have m0 := Int.emod_nonneg (a * (a % 40993 + 30013) + 70001 * (c + 1) + 9) (show (2147483179 : Int) ≠ 0 by decide)
  have m1 := Int.emod_lt_of_pos (a * (a % 40993 + 30013) + 70001 * (c + 1) + 9) (show (0 : Int) < 2147483179 by decide)
  refine ik_split (fun h => ?_) (fun h => ?_)
  · decreasing_trivial
    exact k _ _ ⟨_, _, _, rfl, m0, m1, Int.ediv_nonneg hb (by omega), by omega⟩ (Int.emod_nonneg _ (by omega)) (Int.emod_lt_of_pos _ (by omega))
  · decreasing_trivial
    exact k _ _ ⟨_, _, _, rfl, m0, m1, hb, by omega⟩ (Int.emod_nonneg _ (by omega)) (Int.emod_lt_of_pos _ (by omega))
theorem pool_ok {n : Int} (k : ∀ t, Pool t → Q t []) : uE (T_pool [.fz (.int n)]) Q X := by
  unfold T_pool t_pool
  decreasing_trivial
  have m0 := Int.emod_nonneg n (show (2147483179 : Int) ≠ 0 by decide)
  have m1 := Int.emod_lt_of_pos n (show (0 : Int) < 2147483179 by decide)
  refine ik_split (fun h => ?_) (fun h => ?_)
  · decreasing_trivial
    exact k _ ⟨_, _, _, rfl, m0, m1, by split <;> omega, by omega⟩
  · decreasing_trivial
    refine ik_split (fun h => ?_) (fun h => ?_)
    · decreasing_trivial
      exact k _ ⟨_, _, _, rfl, m0, m1, by split <;> omega, by omega⟩
    · decreasing_trivial
      exact k _ ⟨_, _, _, rfl, m0, m1, by omega, by omega⟩
theorem cell_ok {ns : List Int} {j : Int} (j0 : 0 ≤ j) (j1 : j ≤ 1000) (k : ∀ n, Q (.int n) []) : uE (T_cell [.fz (.frl (ns.map .int)), .fz (.int j)]) Q X := by
  unfold T_cell t_cell
  decreasing_trivial
  refine ik_split (fun h => ?_) (fun h => ?_)
  · have h : j < ((ns.map T.int).length : Int) := by simpa using h
    have hj : j.toNat < ns.length := by simp at h; omega
    decreasing_trivial
    refine uO_of (a := .int ns[j.toNat]) (atI_of (j := j.toNat) (ixN_of j0 (by simpa using h)) (by simp [List.getElem?_eq_getElem hj])) ?_
    exact k _
  · decreasing_trivial
    generalize hc : cutT (ns.map T.int) none (some 3) = cs
    have hcs : ∀ t ∈ cs, ∃ n, t = .int n := by
      intro t ht
      rw [← hc] at ht
      unfold cutT at ht
      have := List.mem_of_mem_drop (List.mem_of_mem_take ht)
      obtain ⟨n, _, rfl⟩ := List.mem_map.mp this
      exact ⟨n, rfl⟩
    refine lp_inv (I := fun _ _ τ => ∃ s w, 0 ≤ s ∧ s < 2147483179 ∧ τ = [some (.fz (.frl (ns.map .int))), some (.fz (.int j)), some (.fz (.int s)), w]) ?_ ?_ ?_
    · exact ⟨_, _, Int.emod_nonneg _ (by decide), Int.emod_lt_of_pos _ (by decide), rfl⟩
    · rintro d t r τ e ⟨s, w, s0, s1, rfl⟩
      obtain ⟨n, rfl⟩ := hcs t (by rw [e]; simp)
      unfold t_cell_1
      decreasing_trivial
      exact ⟨_, _, Int.emod_nonneg _ (by decide), Int.emod_lt_of_pos _ (by decide), rfl⟩
    · rintro τ ⟨s, w, s0, s1, rfl⟩
      decreasing_trivial
      exact k _
/-! ### logs -/
inductive Fw : List Int → List Int → Prop
  | nil : Fw [] []
  | snoc {cs gs : List Int} {n g : Int} : Fw cs gs → 0 ≤ n → 0 ≤ g → cs.sum + n ≤ 999 → g ≤ cs.sum - gs.sum + n → Fw (cs ++ [n]) (gs ++ [g])
theorem Fw.bd {cs gs : List Int} (f : Fw cs gs) : 0 ≤ gs.sum ∧ gs.sum ≤ cs.sum ∧ cs.sum ≤ 999 := by
  induction f with
  | nil => simp
  | snoc f a b c d ih => simp only [List.sum_append, List.sum_cons, List.sum_nil]; omega
theorem Fw.len {cs gs : List Int} (f : Fw cs gs) : cs.length = gs.length := by
  induction f with
  | nil => rfl
  | snoc f a b c d ih => simp [ih]
theorem ix_P {xs : List T} {i : Int} {P : T → Prop} {Q : T → Prop} (i0 : 0 ≤ i) (i1 : i < xs.length) (h : ∀ v ∈ xs, P v) (k : ∀ v, P v → Q v) : uO (L2.atI xs i) Q := by
  have hi : i.toNat < xs.length := by omega
  exact uO_of (a := xs[i.toNat]) (atI_of (ixN_of i0 i1) (List.getElem?_eq_getElem hi)) (k _ (h _ (List.getElem_mem hi)))
theorem flows_ok {t : T} {size mi people : Int} (hp : Pool t) (s0 : 0 ≤ size) (s1 : size ≤ 1000) (m0 : 1 ≤ mi) (m1 : mi ≤ 999) (p0 : 0 ≤ people) (p1 : people ≤ 999)
    (k : ∀ t' cs gs, Pool t' → Fw cs gs → cs.length = size.toNat → cs.sum ≤ people → (∀ c ∈ cs, c ≤ mi) → Q (.lst [.tup (cs.map .int), .tup (gs.map .int)]) [some (.ow t')]) :
    uE (T_flows [.ow t, .fz (.int size), .fz (.int mi), .fz (.int people)]) Q X := by
  unfold T_flows t_flows
  decreasing_trivial
  refine lp_ix (I := fun i τ => ∃ t cs gs H sp v8 v9 v10 v11, τ = [some (.ow t), some (.fz (.int size)), some (.fz (.int mi)), some (.fz (.int people)), some (.ow (.lst (cs.map .int))), some (.ow (.lst (gs.map .int))), some (.fz (.int H)), some (.fz (.int sp)), v8, v9, v10, v11] ∧
    Pool t ∧ cs.length = i ∧ Fw cs gs ∧ H = cs.sum - gs.sum ∧ sp = people - cs.sum ∧ 0 ≤ sp ∧ ∀ c ∈ cs, c ≤ mi) ?_ ?_ ?_
  · exact ⟨t, [], [], 0, people, _, _, _, _, rfl, hp, rfl, .nil, rfl, by simp, p0, by simp⟩
  · rintro i w τ hi ⟨t, cs, gs, H, sp, v8, v9, v10, v11, rfl, hP, l1, hF, hH, hsp, hsp0, hmi⟩
    obtain ⟨hi, rfl⟩ := rgT_get hi
    have bd := hF.bd
    have gl := hF.len
    unfold t_flows_1
    decreasing_trivial
    refine draw_ok hP (by decide) (by decide) fun t1 d1 hp1 d10 d11 => ?_
    decreasing_trivial
    refine draw_ok hp1 (by omega) (by omega) fun t2 d2 hp2 d20 d21 => ?_
    decreasing_trivial
    refine draw_ok hp2 (by omega) (by omega) fun t3 d3 hp3 d30 d31 => ?_
    decreasing_trivial
    refine ix_P (P := fun v => ∃ n : Int, v = .int n ∧ 0 ≤ n ∧ n ≤ mi) d10 d11 ?_ ?_
    · intro v hv
      simp only [List.mem_cons, List.not_mem_nil, or_false] at hv
      rcases hv with rfl | rfl | rfl | rfl | rfl | rfl <;> exact ⟨_, rfl, by omega, by omega⟩
    rintro v ⟨n, rfl, n0, n1⟩
    decreasing_trivial
    generalize hnw : (if n < sp then n else sp) = nw
    have hn0 : 0 ≤ nw ∧ nw ≤ sp ∧ nw ≤ mi := by rw [← hnw]; split <;> omega
    refine draw_ok hp3 (by decide) (by decide) fun t4 d4 hp4 d40 d41 => ?_
    decreasing_trivial
    refine draw_ok hp4 (by omega) (by omega) fun t5 d5 hp5 d50 d51 => ?_
    decreasing_trivial
    refine draw_ok hp5 (by omega) (by omega) fun t6 d6 hp6 d60 d61 => ?_
    decreasing_trivial
    refine ix_P (P := fun v => ∃ n : Int, v = .int n ∧ 0 ≤ n ∧ n ≤ H + nw) d40 d41 ?_ ?_
    · intro v hv
      simp only [List.mem_cons, List.not_mem_nil, or_false] at hv
      rcases hv with rfl | rfl | rfl | rfl | rfl | rfl <;> exact ⟨_, rfl, by first | omega | (split <;> omega), by first | omega | (split <;> omega)⟩
    rintro v ⟨g, rfl, g0, g1⟩
    decreasing_trivial
    refine ⟨by simp only [lim, List.length_map]; omega, ?_⟩
    decreasing_trivial
    refine ⟨by simp only [lim, List.length_map]; omega, ?_⟩
    decreasing_trivial
    refine ⟨t6, cs ++ [nw], gs ++ [g], H + nw - g, sp - nw, _, _, _, _, by simp only [List.map_append, List.map_cons, List.map_nil]; rfl, hp6, by simp [l1], hF.snoc hn0.1 g0 (by omega) (by omega), ?_, ?_, by omega, ?_⟩
    · simp only [List.sum_append, List.sum_cons, List.sum_nil]; omega
    · simp only [List.sum_append, List.sum_cons, List.sum_nil]; omega
    · intro c hc
      rcases List.mem_append.mp hc with z | z
      · exact hmi c z
      · simp at z; omega
  · rintro τ ⟨t, cs, gs, H, sp, v8, v9, v10, v11, rfl, hP, l1, hF, hH, hsp, hsp0, hmi⟩
    decreasing_trivial
    exact k t cs gs hP hF (by simpa [rgT] using l1) (by omega) hmi
/-! ### Counts -/
def cnt (cs gs : List Int) : T := .ins "Counts" [("arrivals", .tup (cs.map .int)), ("departures", .tup (gs.map .int))]
def IsC (c : T) (cs gs : List Int) : Prop := c = cnt cs gs
theorem lenC {c : T} {cs gs : List Int} (hc : IsC c cs gs) (h : cs.length < 1000000000) : uE (lenG [("Counts", T_Counts_len)] c τ) Q X = Q (.int cs.length) τ := by
  cases hc
  have e : T_Counts_len [.fz (cnt cs gs)] = .ok (.int cs.length) [] := by
    have z : uE (T_Counts_len [.fz (cnt cs gs)]) (fun v os => v = .int cs.length ∧ os = []) xF := by
      unfold T_Counts_len t_Counts_len cnt
      decreasing_trivial
      refine uO_of (a := .int cs.length) (by simp [oLen, sqA]) ⟨rfl, rfl⟩
    obtain ⟨a, b, e, rfl, rfl⟩ := uE.get z
    exact e
  have hh : (0 : Int) ≤ cs.length ∧ (cs.length : Int) < 1000000000 := by omega
  unfold cnt at e ⊢
  simp only [lenG, List.lookup_cons, beq_self_eq_true, e, lenI, if_pos hh]
  exact uE_ok
theorem fldA {c : T} {cs gs : List Int} {Q : T → Prop} (hc : IsC c cs gs) : uO (oFld (["Counts"] : List Str) "arrivals" c) Q = Q (.tup (cs.map .int)) := by
  cases hc
  unfold cnt
  array_get_dec
theorem fldD {c : T} {cs gs : List Int} {Q : T → Prop} (hc : IsC c cs gs) : uO (oFld (["Counts"] : List Str) "departures" c) Q = Q (.tup (gs.map .int)) := by
  cases hc
  unfold cnt
  array_get_dec
theorem isint_int {a lo hi : Int} (k : Q (.bl (decide (lo ≤ a) && decide (a ≤ hi))) []) : uE (T_is_integer [.fz (.int a), .fz (.int lo), .fz (.int hi)]) Q X := by
  unfold T_is_integer t_is_integer
  decreasing_trivial
  revert k
  cases decide (lo ≤ a) <;> intro k <;> decreasing_trivial
  · exact k
  · exact k
/-- known kinds -/
def tyOk : T → Bool
  | .non => true
  | .bl _ => true
  | .int _ => true
  | .str _ => true
  | .lst _ => true
  | .tup _ => true
  | .dK _ => true
  | .ins C _ => decide (C = "Counts")
  | _ => false
def isI : T → Option Int
  | .int i => some i
  | _ => none
theorem isint_no {t lo hi : T} (o : tyOk t = true) (h : isI t = none) (k : Q (.bl false) []) : uE (T_is_integer [.fz t, .fz lo, .fz hi]) Q X := by
  unfold T_is_integer t_is_integer
  cases t with
  | int i => cases h
  | ins C fs =>
    have hC : C = "Counts" := of_decide_eq_true o
    subst hC
    decreasing_trivial
    exact k
  | frl _ => cases o
  | ktp _ => cases o
  | ty _ => cases o
  | glo _ => cases o
  | exn _ _ => cases o
  | _ => decreasing_trivial; exact k
theorem isint_any {t : T} {lo hi : Int} (o : tyOk t = true) (k : Q (.bl (match isI t with | some a => decide (lo ≤ a) && decide (a ≤ hi) | none => false)) []) : uE (T_is_integer [.fz t, .fz (.int lo), .fz (.int hi)]) Q X := by
  cases h : isI t with
  | none => rw [h] at k; exact isint_no o h k
  | some a =>
    cases t with
    | int i => cases h; exact isint_int k
    | _ => cases h
theorem same_ok {cs gs : List T} (h : cs.length = gs.length) (h1 : 1 ≤ cs.length) (h2 : cs.length ≤ 60) (k : Q (.bl true) []) : uE (T_is_same_size [.fz (.tup cs), .fz (.tup gs)]) Q X := by
  unfold T_is_same_size t_is_same_size
  decreasing_trivial
  rw [decide_eq_true (show (cs.length : Int) = gs.length by omega)]
  decreasing_trivial
  rw [decide_eq_true (show (1 : Int) ≤ cs.length by omega)]
  decreasing_trivial
  rw [decide_eq_true (show (cs.length : Int) ≤ 60 by omega)]
  exact k
theorem enT_get' {xs : List T} {i : Nat} {t : T} (e : (enT xs)[i]? = some t) : ∃ u, xs[i]? = some u ∧ t = .tup [.int (i : Nat), u] := enT_get e
theorem Fw.at {cs gs : List Int} (f : Fw cs gs) {i : Nat} {n : Int} (e : cs[i]? = some n) : ∃ g, gs[i]? = some g ∧ 0 ≤ n ∧ 0 ≤ g ∧ (cs.take i).sum + n ≤ 999 ∧ g ≤ (cs.take i).sum - (gs.take i).sum + n ∧ 0 ≤ (gs.take i).sum ∧ (gs.take i).sum ≤ (cs.take i).sum := by
  induction f with
  | nil => simp at e
  | snoc f a b c d ih =>
    rename_i cs gs m g
    have hl := f.len
    by_cases hi : i < cs.length
    · rw [List.getElem?_append_left hi] at e
      obtain ⟨g', e', z⟩ := ih e
      refine ⟨g', by rw [List.getElem?_append_left (by omega)]; exact e', ?_⟩
      rw [List.take_append_of_le_length (by omega), List.take_append_of_le_length (by omega)]
      exact z
    · have hlt := (List.getElem?_eq_some_iff.mp e).1
      simp only [List.length_append, List.length_cons, List.length_nil] at hlt
      have ei : i = cs.length := by omega
      subst ei
      rw [List.getElem?_append_right (Nat.le_refl _), Nat.sub_self] at e
      have e : m = n := by simpa using e
      subst e
      have bd := f.bd
      refine ⟨g, by rw [hl, List.getElem?_append_right (Nat.le_refl _), Nat.sub_self] <;> rfl, a, b, ?_⟩
      rw [List.take_append_of_le_length (Nat.le_refl _), List.take_append_of_le_length (by omega), List.take_of_length_le (Nat.le_refl _), hl, List.take_of_length_le (Nat.le_refl _)]
      omega
theorem sum_take {cs : List Int} {i : Nat} {n : Int} (e : cs[i]? = some n) : (cs.take (i + 1)).sum = (cs.take i).sum + n := by
  rw [List.take_succ, e]; simp
theorem at_nat {xs : List T} {i : Nat} {t : T} (e : xs[i]? = some t) : L2.atI xs (i : Int) = some t := atI_of (ixN_of (by omega) (by have := (List.getElem?_eq_some_iff.mp e).1; omega)) (by simpa using e)
theorem wrong_ok {cs gs : List Int} (f : Fw cs gs) (k : Q .non []) : uE (T_wrong_tick [.fz (.tup (cs.map .int)), .fz (.tup (gs.map .int))]) Q X := by
  unfold T_wrong_tick t_wrong_tick
  decreasing_trivial
  refine lp_ix (I := fun i τ => ∃ v4 v5 v6, τ = [some (.fz (.tup (cs.map .int))), some (.fz (.tup (gs.map .int))), some (.fz (.int (cs.take i).sum)), some (.fz (.int ((cs.take i).sum - (gs.take i).sum))), v4, v5, v6]) ⟨_, _, _, rfl⟩ ?_ ?_
  · rintro i t τ hi ⟨v4, v5, v6, rfl⟩
    obtain ⟨u, hu, rfl⟩ := enT_get hi
    rw [List.getElem?_map] at hu
    cases hc : cs[i]? with
    | none => rw [hc] at hu; cases hu
    | some n =>
      rw [hc] at hu; cases hu
      obtain ⟨g, hg, n0, g0, z1, z2, z3, z4⟩ := f.at hc
      unfold t_wrong_tick_1
      decreasing_trivial
      refine isint_int ?_
      rw [decide_eq_true n0, decide_eq_true (show n ≤ 999 by omega)]
      decreasing_trivial
      refine uO_of (at_nat (t := .int g) (by rw [List.getElem?_map, hg] <;> rfl)) ?_
      decreasing_trivial
      refine isint_int ?_
      rw [decide_eq_true g0, decide_eq_true (show g ≤ 999 by omega)]
      decreasing_trivial
      rw [decide_eq_false (show ¬(999 < (cs.take i).sum + n) by omega)]
      decreasing_trivial
      rw [decide_eq_false (show ¬((cs.take i).sum - (gs.take i).sum + n - g < 0) by omega)]
      decreasing_trivial
      rw [sum_take hc, sum_take hg, show (cs.take i).sum + n - ((gs.take i).sum + g) = (cs.take i).sum - (gs.take i).sum + n - g by omega]
      exact ⟨_, _, _, rfl⟩
  · rintro τ ⟨v4, v5, v6, rfl⟩
    decreasing_trivial
    exact k
theorem init_ok {cs gs : List Int} (f : Fw cs gs) (h1 : 1 ≤ cs.length) (h2 : cs.length ≤ 60) (k : ∀ c, IsC c cs gs → Q .non [some (.ow c)]) : uE (T_Counts_init [.ow (.ins "Counts" []), .fz (.tup (cs.map .int)), .fz (.tup (gs.map .int))]) Q X := by
  have hl := f.len
  unfold T_Counts_init t_Counts_init
  decreasing_trivial
  refine same_ok (by simp [hl]) (by simpa using h1) (by simpa using h2) ?_
  decreasing_trivial
  refine wrong_ok f ?_
  decreasing_trivial
  exact k _ rfl
end
end K02

namespace K02
open PySem Mc
local macro_rules
  | `(tactic| array_get_dec) => `(tactic| simp (config := {maxSteps := 2000000, dsimp := false, failIfUnchanged := false, implicitDefEqProofs := false}) only [↓uE_ok, ↓uE_ex, ↓uO_some, ↓uO_none, ↓u_eV, ↓u_eC, ↓u_e1, ↓u_e2, ↓u_aNil, ↓u_aCons, ↓u_eArg, ↓uO_oB, ↓u_bV, ↓u_bTr, ↓u_bNt, ↓k_bAn, ↓k_bO, ↓u_bYs, ↓k_eAn, ↓k_eOr, ↓u_eNt, ↓k_eIf, ↓u_eCh, ↓u_ch1, ↓k_ch2, ↓u_nNone, ↓u_nSome, ↓uO_oI, ↓u_eSl, ↓u_eMt, ↓u_dict0, ↓u_dict1, ↓u_ixO, ↓u_lenO, ↓u_tupO, ↓k_appO, ↓k_ext, ↓xL_lst, ↓u_eCall, ↓u_eCallK, ↓o1_eq, ↓k_eCallS, ↓u_eCallT, ↓mk1_eq, ↓u_eMake, ↓u_eMakeK, ↓u_eMeth, ↓u_eProp, ↓u_eFldO, ↓u_eLen, ↓u_lenL, ↓u_lenF, ↓u_lenT, ↓u_lenK, ↓u_nil, ↓u_brk, ↓u_cnt, ↓u_retN, ↓u_no, ↓u_seq, ↓sq_nx, ↓sq_rt, ↓sq_bk, ↓sq_ct, ↓sq_xc, ↓u_drop, ↓u_ret, ↓k_if, ↓u_asg, ↓u_asg2, ↓k_yN, ↓u_yTp, ↓u_ysNil, ↓u_ysCons, ↓xI_int, ↓k_yAt, ↓k_fz, ↓k_asgO, ↓k_par, ↓k_parV, ↓u_evN, ↓u_evV, ↓u_evO, ↓k_aug, ↓k_fldS, ↓k_augS, ↓k_fnT, ↓k_fnTo, ↓fo_rt, ↓fo_xc, ↓u_retO, ↓k_rt, ↓k_nx, ↓k_xc, ↓k_ifW, ↓u_wOf, ↓u_wNt, ↓k_wOr, ↓xB_bl, ↓k_wCall, ↓st_0, ↓st_s, ↓sa_nl, ↓sa_cs, ↓sv_nl, ↓sv_cs, ↓fk_0, ↓fk_f, ↓fk_s, ↓in_z, ↓in_nl, ↓in_cs, ↓ou_nl, ↓ou_0, ↓l_fz0, ↓l_fzs, ↓l_ow0, ↓l_ows, ↓l_oL0, ↓l_oLs, ↓a_add, ↓a_addL, ↓a_addT, ↓a_addS, ↓a_sub, ↓a_mul, ↓a_div, ↓a_mod, ↓a_pow, ↓a_lt, ↓a_le, ↓a_gt, ↓a_ge, ↓a_eqI, ↓a_eqS, ↓a_neI, ↓a_neS, ↓a_neg, ↓a_isN, ↓a_notN, ↓a_ixL, ↓a_ixF, ↓a_ixT, ↓a_ixK, ↓a_at, ↓a_tup, ↓a_lst, ↓a_abs, ↓a_min, ↓a_max, ↓a_divmod, ↓a_tupL, ↓a_tupT, ↓a_listL, ↓a_listT, ↓a_slL, ↓a_slF, ↓a_slT, ↓a_fld, ↓a_ins, ↓a_truB, ↓a_truI, ↓a_truN, ↓a_truL, ↓a_truT, ↓a_sqL, ↓a_sqF, ↓a_sqT, ↓a_sqK, ↓a_rg1, ↓a_rg2, ↓a_lrg, ↓a_enL, ↓a_enT, ↓a_isiI, ↓a_isiB, ↓a_isiN, ↓a_isiS, ↓a_isiL, ↓a_isiT, ↓a_isiD, ↓a_isiC, ↓u_jS, ↓u_jA, ↓k_for, ↓bd_nx, ↓bd_ct, ↓bd_bk, ↓bd_rt, ↓bd_xc, ↓lp_nil, ↓wi_nil, ↓wi_cons, ↓ba_nil, ↓ba_cons, ↓ob_N, ↓ob_S, ↓ob_0, ↓ob_o, ↓ob_n, ↓ob_s, ↓k_lc, ↓lc_nil, ↓k_lc2, ↓lc2_nil, ↓k_raise, zr_1, zr_2, ↓te_nx, ↓te_rt, ↓te_bk, ↓te_ct, ↓ty_nx, ↓ty_rt, ↓ty_bk, ↓ty_ct, ↓ty_xc, ↓k_try, ↓a_xf, ↓a_isx, ↓a_cnt, ↓a_zp2, ↓a_join, ↓xS_str, ↓a_fmtI, ↓a_fmtS, ↓u_js, ↓js_nil, ↓js_cons, ↓u_eStr, ↓u_strI, ↓u_strS, ↓u_strC, fz_0, fz_s, fz_n, fz_o, Option.map_some, Option.map_none, isa_0, isa_1, isa_2, isa_3, isa_4, isa_5, isa_6, isa_7, isa_8, isa_9, isa_10, isa_11, isa_12, isa_13, isa_14, isa_15, isa_16, isa_17, isa_18, isa_19, isa_20, isa_21, isa_22, isa_23, isx_0, isx_1, isx_2, isx_3, isx_4, isx_5, isx_6, isx_7, isx_8, isx_9, isx_10, isx_11, isx_12, isx_13, isx_14, isx_15, isx_16, isx_17, isx_18, isx_19, isx_20, isx_21, isx_22, sne_0, seq_0, sne_1, seq_1, sne_2, seq_2, sne_3, seq_3, sne_4, seq_4, sne_5, seq_5, ↓ik_t, ↓ik_f, List.lookup_cons, List.lookup_nil, beq_self_eq_true, List.contains_cons, List.contains_nil, Bool.and_true, Bool.true_and, Bool.and_false, Bool.false_and, ↓reduceIte, putT, Bool.true_or, Bool.or_true, Bool.or_false, Bool.false_or, at_0, at_1, at_2, at_3, at_4, at_5, at_6, ix_0, ix_1, ix_2, List.set_cons_zero, List.set_cons_succ, decide_true, decide_false, eq_self, List.map_cons, List.map_nil, Bool.not_true, Bool.not_false, Bool.false_eq_true, List.replicate_succ, List.replicate_zero, true_and, and_true, isNon])
local macro_rules
  | `(tactic| get_elem_tactic_trivial) => `(tactic| first
    | assumption
    | omega
    | exact small_l (small_of (by omega) (by omega))
    | exact small_r (small_of (by omega) (by omega))
    | (show _ ≤ lim; simp only [lim, List.length_cons, List.length_nil, List.length_append]; omega)
    | (show _ < lim; simp only [lim, List.length_cons, List.length_nil, List.length_append]; omega)
    | (refine And.intro ?_ ?_; get_elem_tactic_trivial; get_elem_tactic_trivial)
    | (exact inR_of (by omega) (by omega))
    | (simp only [List.length_cons, List.length_nil, List.length_append, List.length_map]; omega)
    | rfl
    | decide
    | decide +kernel)
local macro_rules
  | `(tactic| decreasing_trivial) => `(tactic| (array_get_dec; (repeat ((first | ((with_reducible apply uO_of); (with_reducible exact rfl)) | ((with_reducible apply And.intro); (get_elem_tactic_trivial))); (array_get_dec)))))
section
variable {Q : T → TSt → Prop} {X : TExn → TSt → Prop} {τ : TSt}
/-- a number of counts -/
def okN (t : T) : Option Int := match t with
  | .int a => if 0 ≤ a ∧ a ≤ 999 then some a else none
  | _ => none
/-- the first wrong tick -/
def fst : List T → List T → Int → Int → Nat → Option Nat
  | c :: cs, g :: gs, p, h, i => match okN c, okN g with
    | some a, some b => if 999 < p + a ∨ h + a - b < 0 then some i else fst cs gs (p + a) (h + a - b) (i + 1)
    | _, _ => some i
  | _, _, _, _, _ => none
theorem fst_lt : ∀ {cs gs : List T} {p h : Int} {i j : Nat}, fst cs gs p h i = some j → j < i + cs.length
  | [], _, _, _, _, _, e => by simp [fst] at e
  | _ :: _, [], _, _, _, _, e => by simp [fst] at e
  | c :: cs, g :: gs, p, h, i, j, e => by
    unfold fst at e
    split at e
    · split at e
      · cases e; simp
      · have := fst_lt e; simp only [List.length_cons]; omega
    · cases e; simp
/-- all numbers are such -/
theorem fst_none : ∀ {cs gs : List T} {p h : Int} {i : Nat}, cs.length = gs.length → fst cs gs p h i = none → ∃ ns ms : List Int, cs = ns.map .int ∧ gs = ms.map .int ∧ (∀ n ∈ ns, 0 ≤ n ∧ n ≤ 999) ∧ (∀ n ∈ ms, 0 ≤ n ∧ n ≤ 999)
  | [], [], _, _, _, _, _ => ⟨[], [], rfl, rfl, by simp, by simp⟩
  | [], _ :: _, _, _, _, l, _ => by simp at l
  | _ :: _, [], _, _, _, l, _ => by simp at l
  | c :: cs, g :: gs, p, h, i, l, e => by
    unfold fst at e
    have ok : ∀ {t : T} {a : Int}, okN t = some a → t = .int a ∧ 0 ≤ a ∧ a ≤ 999 := fun {t a} z => by
      unfold okN at z
      split at z
      · split at z
        · rename_i q; cases z; exact ⟨rfl, q.1, q.2⟩
        · cases z
      · cases z
    split at e
    · rename_i a b ha hb
      split at e
      · cases e
      · obtain ⟨ns, ms, rfl, rfl, h1, h2⟩ := fst_none (by simpa using l) e
        obtain ⟨rfl, a1⟩ := ok ha
        obtain ⟨rfl, b1⟩ := ok hb
        refine ⟨a :: ns, b :: ms, rfl, rfl, ?_, ?_⟩
        · intro n hn
          rcases List.mem_cons.mp hn with z | z
          · rw [z]; exact a1
          · exact h1 n z
        · intro n hn
          rcases List.mem_cons.mp hn with z | z
          · rw [z]; exact b1
          · exact h2 n z
    · cases e
/-- known kinds, no Counts -/
def V0 : T → Bool
  | .non => true
  | .bl _ => true
  | .int _ => true
  | .str _ => true
  | .lst _ => true
  | .tup _ => true
  | .dK _ => true
  | _ => false
theorem V0.ty {t : T} (h : V0 t = true) : tyOk t = true := by cases t <;> first | rfl | cases h
theorem isint_okN {t : T} (h : V0 t = true) (k : Q (.bl (okN t).isSome) []) : uE (T_is_integer [.fz t, .fz (.int 0), .fz (.int 999)]) Q X := by
  refine isint_any (V0.ty h) ?_
  cases t with
  | int a =>
    simp only [isI]
    have e : (okN (.int a)).isSome = (decide (0 ≤ a) && decide (a ≤ 999)) := by
      simp only [okN]
      split
      · rename_i z; simp [z.1, z.2]
      · rename_i z
        simp only [Option.isSome_none]
        symm
        simp only [Bool.and_eq_false_iff, decide_eq_false_iff_not]
        by_cases h0 : 0 ≤ a
        · exact .inr fun h1 => z ⟨h0, h1⟩
        · exact .inl h0
    rw [← e]; exact k
  | _ => exact k
theorem drop_at {α : Type} {xs : List α} {i : Nat} {x : α} (e : xs[i]? = some x) : xs.drop i = x :: xs.drop (i + 1) := by
  obtain ⟨h, rfl⟩ := List.getElem?_eq_some_iff.mp e
  exact List.drop_eq_getElem_cons h
def tickV : Option Nat → T
  | none => .non
  | some i => .int (i : Nat)
theorem wrong_tick_ok {cs gs : List T} (hl : cs.length = gs.length) (h1 : cs.length ≤ 1000) (hc : ∀ x ∈ cs, V0 x = true) (hg : ∀ x ∈ gs, V0 x = true) (k : Q (tickV (fst cs gs 0 0 0)) []) :
    uE (T_wrong_tick [.fz (.tup cs), .fz (.tup gs)]) Q X := by
  unfold T_wrong_tick t_wrong_tick
  decreasing_trivial
  refine lp_ix (I := fun i τ => ∃ p h v4 v5 v6, fst cs gs 0 0 0 = fst (cs.drop i) (gs.drop i) p h i ∧ τ = [some (.fz (.tup cs)), some (.fz (.tup gs)), some (.fz (.int p)), some (.fz (.int h)), v4, v5, v6]) ⟨0, 0, _, _, _, rfl, rfl⟩ ?_ ?_
  · rintro i t τ hi ⟨p, h, v4, v5, v6, hf, rfl⟩
    obtain ⟨c, hu, rfl⟩ := enT_get hi
    have hil : i < gs.length := by have := (List.getElem?_eq_some_iff.mp hu).1; omega
    have hgi : gs[i]? = some gs[i] := List.getElem?_eq_getElem hil
    generalize gs[i] = g at hgi
    have vc := hc c (List.mem_of_getElem? hu)
    have vg := hg g (List.mem_of_getElem? hgi)
    rw [drop_at hu, drop_at hgi] at hf
    unfold t_wrong_tick_1
    decreasing_trivial
    refine isint_okN vc ?_
    cases ha : okN c with
    | none =>
      rw [show (none : Option Int).isSome = false from rfl]
      decreasing_trivial
      have e : fst cs gs 0 0 0 = some i := by rw [hf]; simp only [fst, ha]
      rw [e] at k
      exact k
    | some a =>
      rw [show (some a : Option Int).isSome = true from rfl]
      decreasing_trivial
      refine uO_of (at_nat hgi) ?_
      decreasing_trivial
      refine isint_okN vg ?_
      have ca : c = .int a := by
        unfold okN at ha
        split at ha
        · split at ha
          · cases ha; rfl
          · cases ha
        · cases ha
      cases hb : okN g with
      | none =>
        rw [show (none : Option Int).isSome = false from rfl]
        decreasing_trivial
        have e : fst cs gs 0 0 0 = some i := by rw [hf]; simp only [fst, ha, hb]
        rw [e] at k
        exact k
      | some b =>
        rw [show (some b : Option Int).isSome = true from rfl]
        have cb : g = .int b := by
          unfold okN at hb
          split at hb
          · split at hb
            · cases hb; rfl
            · cases hb
          · cases hb
        subst ca cb
        decreasing_trivial
        by_cases z1 : 999 < p + a
        · rw [decide_eq_true z1]
          decreasing_trivial
          have e : fst cs gs 0 0 0 = some i := by rw [hf]; simp only [fst, ha, hb]; rw [if_pos (.inl z1)]
          rw [e] at k
          exact k
        · rw [decide_eq_false z1]
          decreasing_trivial
          by_cases z2 : h + a - b < 0
          · rw [decide_eq_true z2]
            decreasing_trivial
            have e : fst cs gs 0 0 0 = some i := by rw [hf]; simp only [fst, ha, hb]; rw [if_pos (.inr z2)]
            rw [e] at k
            exact k
          · rw [decide_eq_false z2]
            decreasing_trivial
            refine ⟨p + a, h + a - b, _, _, _, ?_, rfl⟩
            rw [hf]
            simp only [fst, ha, hb]
            rw [if_neg (fun z => z.elim z1 z2)]
  · rintro τ ⟨p, h, v4, v5, v6, hf, rfl⟩
    decreasing_trivial
    have e : fst cs gs 0 0 0 = none := by
      rw [hf]
      have : (enT cs).length = cs.length := by simp [enT]
      rw [this, List.drop_length]
      simp [fst]
    rw [e] at k
    exact k
end
end K02

namespace K02
open PySem Mc
local macro_rules
  | `(tactic| array_get_dec) => `(tactic| simp (config := {maxSteps := 2000000, dsimp := false, failIfUnchanged := false, implicitDefEqProofs := false}) only [↓uE_ok, ↓uE_ex, ↓uO_some, ↓uO_none, ↓u_eV, ↓u_eC, ↓u_e1, ↓u_e2, ↓u_aNil, ↓u_aCons, ↓u_eArg, ↓uO_oB, ↓u_bV, ↓u_bTr, ↓u_bNt, ↓k_bAn, ↓k_bO, ↓u_bYs, ↓k_eAn, ↓k_eOr, ↓u_eNt, ↓k_eIf, ↓u_eCh, ↓u_ch1, ↓k_ch2, ↓u_nNone, ↓u_nSome, ↓uO_oI, ↓u_eSl, ↓u_eMt, ↓u_dict0, ↓u_dict1, ↓u_ixO, ↓u_lenO, ↓u_tupO, ↓k_appO, ↓k_ext, ↓xL_lst, ↓u_eCall, ↓u_eCallK, ↓o1_eq, ↓k_eCallS, ↓u_eCallT, ↓mk1_eq, ↓u_eMake, ↓u_eMakeK, ↓u_eMeth, ↓u_eProp, ↓u_eFldO, ↓u_eLen, ↓u_lenL, ↓u_lenF, ↓u_lenT, ↓u_lenK, ↓u_nil, ↓u_brk, ↓u_cnt, ↓u_retN, ↓u_no, ↓u_seq, ↓sq_nx, ↓sq_rt, ↓sq_bk, ↓sq_ct, ↓sq_xc, ↓u_drop, ↓u_ret, ↓k_if, ↓u_asg, ↓u_asg2, ↓k_yN, ↓u_yTp, ↓u_ysNil, ↓u_ysCons, ↓xI_int, ↓k_yAt, ↓k_fz, ↓k_asgO, ↓k_par, ↓k_parV, ↓u_evN, ↓u_evV, ↓u_evO, ↓k_aug, ↓k_fldS, ↓k_augS, ↓k_fnT, ↓k_fnTo, ↓fo_rt, ↓fo_xc, ↓u_retO, ↓k_rt, ↓k_nx, ↓k_xc, ↓k_ifW, ↓u_wOf, ↓u_wNt, ↓k_wOr, ↓xB_bl, ↓k_wCall, ↓st_0, ↓st_s, ↓sa_nl, ↓sa_cs, ↓sv_nl, ↓sv_cs, ↓fk_0, ↓fk_f, ↓fk_s, ↓in_z, ↓in_nl, ↓in_cs, ↓ou_nl, ↓ou_0, ↓l_fz0, ↓l_fzs, ↓l_ow0, ↓l_ows, ↓l_oL0, ↓l_oLs, ↓a_add, ↓a_addL, ↓a_addT, ↓a_addS, ↓a_sub, ↓a_mul, ↓a_div, ↓a_mod, ↓a_pow, ↓a_lt, ↓a_le, ↓a_gt, ↓a_ge, ↓a_eqI, ↓a_eqS, ↓a_neI, ↓a_neS, ↓a_neg, ↓a_isN, ↓a_notN, ↓a_ixL, ↓a_ixF, ↓a_ixT, ↓a_ixK, ↓a_at, ↓a_tup, ↓a_lst, ↓a_abs, ↓a_min, ↓a_max, ↓a_divmod, ↓a_tupL, ↓a_tupT, ↓a_listL, ↓a_listT, ↓a_slL, ↓a_slF, ↓a_slT, ↓a_fld, ↓a_ins, ↓a_truB, ↓a_truI, ↓a_truN, ↓a_truL, ↓a_truT, ↓a_sqL, ↓a_sqF, ↓a_sqT, ↓a_sqK, ↓a_rg1, ↓a_rg2, ↓a_lrg, ↓a_enL, ↓a_enT, ↓a_isiI, ↓a_isiB, ↓a_isiN, ↓a_isiS, ↓a_isiL, ↓a_isiT, ↓a_isiD, ↓a_isiC, ↓u_jS, ↓u_jA, ↓k_for, ↓bd_nx, ↓bd_ct, ↓bd_bk, ↓bd_rt, ↓bd_xc, ↓lp_nil, ↓wi_nil, ↓wi_cons, ↓ba_nil, ↓ba_cons, ↓ob_N, ↓ob_S, ↓ob_0, ↓ob_o, ↓ob_n, ↓ob_s, ↓k_lc, ↓lc_nil, ↓k_lc2, ↓lc2_nil, ↓k_raise, zr_1, zr_2, ↓te_nx, ↓te_rt, ↓te_bk, ↓te_ct, ↓ty_nx, ↓ty_rt, ↓ty_bk, ↓ty_ct, ↓ty_xc, ↓k_try, ↓a_xf, ↓a_isx, ↓a_cnt, ↓a_zp2, ↓a_join, ↓xS_str, ↓a_fmtI, ↓a_fmtS, ↓u_js, ↓js_nil, ↓js_cons, ↓u_eStr, ↓u_strI, ↓u_strS, ↓u_strC, fz_0, fz_s, fz_n, fz_o, Option.map_some, Option.map_none, isa_0, isa_1, isa_2, isa_3, isa_4, isa_5, isa_6, isa_7, isa_8, isa_9, isa_10, isa_11, isa_12, isa_13, isa_14, isa_15, isa_16, isa_17, isa_18, isa_19, isa_20, isa_21, isa_22, isa_23, isx_0, isx_1, isx_2, isx_3, isx_4, isx_5, isx_6, isx_7, isx_8, isx_9, isx_10, isx_11, isx_12, isx_13, isx_14, isx_15, isx_16, isx_17, isx_18, isx_19, isx_20, isx_21, isx_22, sne_0, seq_0, sne_1, seq_1, sne_2, seq_2, sne_3, seq_3, sne_4, seq_4, sne_5, seq_5, ↓ik_t, ↓ik_f, List.lookup_cons, List.lookup_nil, beq_self_eq_true, List.contains_cons, List.contains_nil, Bool.and_true, Bool.true_and, Bool.and_false, Bool.false_and, ↓reduceIte, putT, Bool.true_or, Bool.or_true, Bool.or_false, Bool.false_or, at_0, at_1, at_2, at_3, at_4, at_5, at_6, ix_0, ix_1, ix_2, List.set_cons_zero, List.set_cons_succ, decide_true, decide_false, eq_self, List.map_cons, List.map_nil, Bool.not_true, Bool.not_false, Bool.false_eq_true, List.replicate_succ, List.replicate_zero, true_and, and_true, isNon])
local macro_rules
  | `(tactic| get_elem_tactic_trivial) => `(tactic| first
    | assumption
    | omega
    | exact small_l (small_of (by omega) (by omega))
    | exact small_r (small_of (by omega) (by omega))
    | (show _ ≤ lim; simp only [lim, List.length_cons, List.length_nil, List.length_append]; omega)
    | (show _ < lim; simp only [lim, List.length_cons, List.length_nil, List.length_append]; omega)
    | (refine And.intro ?_ ?_; get_elem_tactic_trivial; get_elem_tactic_trivial)
    | (exact inR_of (by omega) (by omega))
    | (simp only [List.length_cons, List.length_nil, List.length_append, List.length_map]; omega)
    | rfl
    | decide
    | decide +kernel)
local macro_rules
  | `(tactic| decreasing_trivial) => `(tactic| (array_get_dec; (repeat ((first | ((with_reducible apply uO_of); (with_reducible exact rfl)) | ((with_reducible apply And.intro); (get_elem_tactic_trivial))); (array_get_dec)))))
section
variable {Q : T → TSt → Prop} {X : TExn → TSt → Prop} {τ : TSt}
def sz (c g : T) : Option (List T × List T) := match c, g with
  | .tup cs, .tup gs => if cs.length = gs.length ∧ 1 ≤ cs.length ∧ cs.length ≤ 60 then some (cs, gs) else none
  | _, _ => none
def fault (c g : T) : List T := match sz c g with
  | none => [.non]
  | some (cs, gs) => match fst cs gs 0 0 0 with
    | none => []
    | some i => [.int (i : Nat)]
def Vr (t : T) : Prop := V0 t = true ∧ ∀ xs, t = .tup xs → xs.length ≤ 1000 ∧ ∀ x ∈ xs, V0 x = true
theorem isT {c : T} (h : V0 c = true) : (∃ cs, c = .tup cs) ∨ ((∀ Q, uO (oIsi isaF (.b "tuple") c) Q = Q (.bl false)) ∧ (∀ g, sz c g = none) ∧ ∀ g, sz g c = none) := by
  cases c with
  | tup cs => exact .inl ⟨cs, rfl⟩
  | frl _ => cases h
  | ktp _ => cases h
  | ty _ => cases h
  | glo _ => cases h
  | ins _ _ => cases h
  | exn _ _ => cases h
  | _ =>
    refine .inr ⟨fun Q => ?_, fun g => rfl, fun g => ?_⟩
    · array_get_dec
    · unfold sz; split <;> first | (rename_i e; cases e) | rfl
theorem oTup {cs : List T} {Q : T → Prop} : uO (oIsi isaF (.b "tuple") (.tup cs)) Q = Q (.bl true) := by array_get_dec
theorem size_ok {c g : T} (vc : Vr c) (vg : Vr g) (k : Q (.bl (sz c g).isSome) []) : uE (T_is_same_size [.fz c, .fz g]) Q X := by
  unfold T_is_same_size t_is_same_size
  rcases isT vc.1 with ⟨cs, rfl⟩ | ⟨h1, h2, _⟩
  · rcases isT vg.1 with ⟨gs, rfl⟩ | ⟨h1, _, h2⟩
    · decreasing_trivial
      by_cases z : cs.length = gs.length
      · rw [decide_eq_true (show (cs.length : Int) = gs.length by omega)]
        decreasing_trivial
        by_cases z1 : 1 ≤ cs.length
        · rw [decide_eq_true (show (1 : Int) ≤ cs.length by omega)]
          decreasing_trivial
          by_cases z2 : cs.length ≤ 60
          · rw [decide_eq_true (show (cs.length : Int) ≤ 60 by omega)]
            simp only [sz, if_pos (show cs.length = gs.length ∧ 1 ≤ cs.length ∧ cs.length ≤ 60 from ⟨z, z1, z2⟩), Option.isSome_some] at k
            exact k
          · rw [decide_eq_false (show ¬(cs.length : Int) ≤ 60 by omega)]
            simp only [sz, if_neg (show ¬(cs.length = gs.length ∧ 1 ≤ cs.length ∧ cs.length ≤ 60) from fun h => z2 h.2.2), Option.isSome_none] at k
            exact k
        · rw [decide_eq_false (show ¬(1 : Int) ≤ cs.length by omega)]
          decreasing_trivial
          simp only [sz, if_neg (show ¬(cs.length = gs.length ∧ 1 ≤ cs.length ∧ cs.length ≤ 60) from fun h => z1 h.2.1), Option.isSome_none] at k
          exact k
      · rw [decide_eq_false (show ¬(cs.length : Int) = gs.length by omega)]
        decreasing_trivial
        simp only [sz, if_neg (show ¬(cs.length = gs.length ∧ 1 ≤ cs.length ∧ cs.length ≤ 60) from fun h => z h.1), Option.isSome_none] at k
        exact k
    · decreasing_trivial
      rw [h1]
      decreasing_trivial
      rw [h2] at k
      exact k
  · decreasing_trivial
    rw [h1]
    decreasing_trivial
    rw [h2] at k
    exact k
/-- made, or refused -/
theorem init2_ok {c g : T} (vc : Vr c) (vg : Vr g) (k1 : ∀ ns ms o, c = .tup (ns.map .int) → g = .tup (ms.map .int) → (∀ n ∈ ns, 0 ≤ n ∧ n ≤ 999) → (∀ n ∈ ms, 0 ≤ n ∧ n ≤ 999) → ns.length = ms.length → 1 ≤ ns.length → ns.length ≤ 60 → IsC o ns ms → fault c g = [] → Q .non [some (.ow o)])
    (k2 : ∀ v, fault c g = [v] → X ⟨"InvalidCounts", [("tick", v)]⟩ [some (.ow (.ins "Counts" []))]) : uE (T_Counts_init [.ow (.ins "Counts" []), .fz c, .fz g]) Q X := by
  unfold T_Counts_init t_Counts_init
  decreasing_trivial
  refine size_ok vc vg ?_
  cases hs : sz c g with
  | none =>
    rw [show (none : Option (List T × List T)).isSome = false from rfl]
    decreasing_trivial
    exact k2 _ (by simp only [fault, hs])
  | some p =>
    obtain ⟨cs, gs⟩ := p
    have hh : c = .tup cs ∧ g = .tup gs ∧ cs.length = gs.length ∧ 1 ≤ cs.length ∧ cs.length ≤ 60 := by
      unfold sz at hs
      split at hs
      · split at hs
        · rename_i z; cases hs; exact ⟨rfl, rfl, z⟩
        · cases hs
      · cases hs
    obtain ⟨rfl, rfl, hl, l1, l2⟩ := hh
    rw [show (some (cs, gs) : Option (List T × List T)).isSome = true from rfl]
    decreasing_trivial
    refine wrong_tick_ok hl (by omega) (vc.2 _ rfl).2 (vg.2 _ rfl).2 ?_
    cases hf : fst cs gs 0 0 0 with
    | none =>
      obtain ⟨ns, ms, rfl, rfl, b1, b2⟩ := fst_none hl hf
      rw [show tickV none = .non from rfl]
      decreasing_trivial
      simp only [List.length_map] at hl l1 l2
      exact k1 ns ms _ rfl rfl b1 b2 hl l1 l2 rfl (by simp only [fault, hs, hf])
    | some i =>
      rw [show tickV (some i) = .int (i : Nat) from rfl]
      decreasing_trivial
      exact k2 _ (by simp only [fault, hs, hf])
/-! ### the law's own look -/
theorem part_ok {t : T} {i : Int} {c g v2 v3 : T} {v5 : Option SV} {QS : TFl → TSt → Prop} (vt : V0 t = true)
    (k1 : okN t = none → QS (.rt (.lst [.int i])) [some (.fz c), some (.fz g), some (.fz v2), some (.fz v3), some (.fz (.int i)), some (.fz t)])
    (k2 : ∀ a, okN t = some a → t = .int a → QS .nx [some (.fz c), some (.fz g), some (.fz v2), some (.fz v3), some (.fz (.int i)), some (.fz t)]) :
    uZ (t_wrong_1 [some (.fz c), some (.fz g), some (.fz v2), some (.fz v3), some (.fz (.int i)), some (.fz t)]) QS := by
  unfold t_wrong_1
  cases t with
  | int a =>
    decreasing_trivial
    by_cases z0 : 0 ≤ a
    · rw [decide_eq_true z0]
      decreasing_trivial
      by_cases z1 : a ≤ 999
      · rw [decide_eq_true z1]
        decreasing_trivial
        exact k2 a (by simp only [okN, if_pos (show 0 ≤ a ∧ a ≤ 999 from ⟨z0, z1⟩)]) rfl
      · rw [decide_eq_false z1]
        decreasing_trivial
        exact k1 (by simp only [okN, if_neg (show ¬(0 ≤ a ∧ a ≤ 999) from fun h => z1 h.2)])
    · rw [decide_eq_false z0]
      decreasing_trivial
      exact k1 (by simp only [okN, if_neg (show ¬(0 ≤ a ∧ a ≤ 999) from fun h => z0 h.1)])
  | frl _ => cases vt
  | ktp _ => cases vt
  | ty _ => cases vt
  | glo _ => cases vt
  | ins _ _ => cases vt
  | exn _ _ => cases vt
  | _ => decreasing_trivial; exact k1 rfl
theorem lwrong_ok {c g : T} (vc : Vr c) (vg : Vr g) (k : Q (.lst (fault c g)) []) : uE (T_wrong [.fz c, .fz g]) Q X := by
  unfold T_wrong t_wrong
  rcases isT vc.1 with ⟨cs, rfl⟩ | ⟨h1, h2, _⟩
  · rcases isT vg.1 with ⟨gs, rfl⟩ | ⟨h1, _, h2⟩
    · decreasing_trivial
      by_cases z : cs.length = gs.length
      · rw [decide_eq_true (show (cs.length : Int) = gs.length by omega)]
        decreasing_trivial
        by_cases z1 : 1 ≤ cs.length
        · rw [decide_eq_true (show (0 : Int) < cs.length by omega)]
          decreasing_trivial
          by_cases z2 : cs.length ≤ 60
          · rw [decide_eq_true (show (cs.length : Int) < 61 by omega)]
            decreasing_trivial
            have hs : sz (.tup cs) (.tup gs) = some (cs, gs) := by simp only [sz, if_pos (show cs.length = gs.length ∧ 1 ≤ cs.length ∧ cs.length ≤ 60 from ⟨z, z1, z2⟩)]
            simp only [fault, hs] at k
            have wc := (vc.2 _ rfl).2
            have wg := (vg.2 _ rfl).2
            refine lp_ix (I := fun i τ => ∃ p h v4 v5, fst cs gs 0 0 0 = fst (cs.drop i) (gs.drop i) p h i ∧ τ = [some (.fz (.tup cs)), some (.fz (.tup gs)), some (.fz (.int p)), some (.fz (.int h)), v4, v5]) ⟨0, 0, _, _, rfl, rfl⟩ ?_ ?_
            · rintro i t τ hi ⟨p, h, v4, v5, hf, rfl⟩
              obtain ⟨hi, rfl⟩ := rgT_get hi
              have hi1 : i < cs.length := by omega
              have hi2 : i < gs.length := by omega
              have hu : cs[i]? = some cs[i] := List.getElem?_eq_getElem hi1
              have hw : gs[i]? = some gs[i] := List.getElem?_eq_getElem hi2
              generalize cs[i] = u at hu
              generalize gs[i] = w at hw
              have vu := wc u (List.mem_of_getElem? hu)
              have vw := wg w (List.mem_of_getElem? hw)
              rw [drop_at hu, drop_at hw] at hf
              have e0 : (0 : Int) + (i : Nat) = (i : Nat) := by omega
              rw [e0]
              unfold t_wrong_2
              decreasing_trivial
              refine uO_of (at_nat hu) ?_
              decreasing_trivial
              refine uO_of (at_nat hw) ?_
              decreasing_trivial
              rw [lp_cons]
              decreasing_trivial
              refine part_ok (v5 := none) vu (fun z => ?_) fun a ha ea => ?_
              · decreasing_trivial
                have e : fst cs gs 0 0 0 = some i := by rw [hf]; simp only [fst, z]
                rw [e] at k
                exact k
              decreasing_trivial
              rw [lp_cons]
              decreasing_trivial
              refine part_ok (v5 := none) vw (fun z => ?_) fun b hb eb => ?_
              · decreasing_trivial
                have e : fst cs gs 0 0 0 = some i := by rw [hf]; simp only [fst, ha, z]
                rw [e] at k
                exact k
              decreasing_trivial
              subst ea eb
              refine uO_of (at_nat hu) ?_
              decreasing_trivial
              refine uO_of (at_nat hu) ?_
              decreasing_trivial
              refine uO_of (at_nat hw) ?_
              decreasing_trivial
              by_cases y1 : 999 < p + a
              · rw [decide_eq_true y1]
                decreasing_trivial
                have e : fst cs gs 0 0 0 = some i := by rw [hf]; simp only [fst, ha, hb]; rw [if_pos (.inl y1)]
                rw [e] at k
                exact k
              · rw [decide_eq_false y1]
                decreasing_trivial
                by_cases y2 : h + a - b < 0
                · rw [decide_eq_true y2]
                  decreasing_trivial
                  have e : fst cs gs 0 0 0 = some i := by rw [hf]; simp only [fst, ha, hb]; rw [if_pos (.inr y2)]
                  rw [e] at k
                  exact k
                · rw [decide_eq_false y2]
                  decreasing_trivial
                  refine ⟨p + a, h + a - b, _, _, ?_, rfl⟩
                  rw [hf]
                  simp only [fst, ha, hb]
                  rw [if_neg (fun z => z.elim y1 y2)]
            · rintro τ ⟨p, h, v4, v5, hf, rfl⟩
              decreasing_trivial
              have e : fst cs gs 0 0 0 = none := by
                rw [hf]
                have : (rgT 0 ((cs.length : Int)).toNat).length = cs.length := by simp [rgT]
                rw [this, List.drop_length]
                simp [fst]
              rw [e] at k
              exact k
          · rw [decide_eq_false (show ¬(cs.length : Int) < 61 by omega)]
            decreasing_trivial
            simp only [fault, sz, if_neg (show ¬(cs.length = gs.length ∧ 1 ≤ cs.length ∧ cs.length ≤ 60) from fun h => z2 h.2.2)] at k
            exact k
        · rw [decide_eq_false (show ¬(0 : Int) < cs.length by omega)]
          decreasing_trivial
          simp only [fault, sz, if_neg (show ¬(cs.length = gs.length ∧ 1 ≤ cs.length ∧ cs.length ≤ 60) from fun h => z1 h.2.1)] at k
          exact k
      · rw [decide_eq_false (show ¬(cs.length : Int) = gs.length by omega)]
        decreasing_trivial
        simp only [fault, sz, if_neg (show ¬(cs.length = gs.length ∧ 1 ≤ cs.length ∧ cs.length ≤ 60) from fun h => z h.1)] at k
        exact k
    · decreasing_trivial
      rw [h1]
      decreasing_trivial
      simp only [fault, h2] at k
      exact k
  · decreasing_trivial
    rw [h1]
    decreasing_trivial
    simp only [fault, h2] at k
    exact k
end
end K02

namespace K02
open PySem Mc
local macro_rules
  | `(tactic| array_get_dec) => `(tactic| simp (config := {maxSteps := 2000000, dsimp := false, failIfUnchanged := false, implicitDefEqProofs := false}) only [↓uE_ok, ↓uE_ex, ↓uO_some, ↓uO_none, ↓u_eV, ↓u_eC, ↓u_e1, ↓u_e2, ↓u_aNil, ↓u_aCons, ↓u_eArg, ↓uO_oB, ↓u_bV, ↓u_bTr, ↓u_bNt, ↓k_bAn, ↓k_bO, ↓u_bYs, ↓k_eAn, ↓k_eOr, ↓u_eNt, ↓k_eIf, ↓u_eCh, ↓u_ch1, ↓k_ch2, ↓u_nNone, ↓u_nSome, ↓uO_oI, ↓u_eSl, ↓u_eMt, ↓u_dict0, ↓u_dict1, ↓u_ixO, ↓u_lenO, ↓u_tupO, ↓k_appO, ↓k_ext, ↓xL_lst, ↓u_eCall, ↓u_eCallK, ↓o1_eq, ↓k_eCallS, ↓u_eCallT, ↓mk1_eq, ↓u_eMake, ↓u_eMakeK, ↓u_eMeth, ↓u_eProp, ↓u_eFldO, ↓u_eLen, ↓u_lenL, ↓u_lenF, ↓u_lenT, ↓u_lenK, ↓u_nil, ↓u_brk, ↓u_cnt, ↓u_retN, ↓u_no, ↓u_seq, ↓sq_nx, ↓sq_rt, ↓sq_bk, ↓sq_ct, ↓sq_xc, ↓u_drop, ↓u_ret, ↓k_if, ↓u_asg, ↓u_asg2, ↓k_yN, ↓u_yTp, ↓u_ysNil, ↓u_ysCons, ↓xI_int, ↓k_yAt, ↓k_fz, ↓k_asgO, ↓k_par, ↓k_parV, ↓u_evN, ↓u_evV, ↓u_evO, ↓k_aug, ↓k_fldS, ↓k_augS, ↓k_fnT, ↓k_fnTo, ↓fo_rt, ↓fo_xc, ↓u_retO, ↓k_rt, ↓k_nx, ↓k_xc, ↓k_ifW, ↓u_wOf, ↓u_wNt, ↓k_wOr, ↓xB_bl, ↓k_wCall, ↓st_0, ↓st_s, ↓sa_nl, ↓sa_cs, ↓sv_nl, ↓sv_cs, ↓fk_0, ↓fk_f, ↓fk_s, ↓in_z, ↓in_nl, ↓in_cs, ↓ou_nl, ↓ou_0, ↓l_fz0, ↓l_fzs, ↓l_ow0, ↓l_ows, ↓l_oL0, ↓l_oLs, ↓a_add, ↓a_addL, ↓a_addT, ↓a_addS, ↓a_sub, ↓a_mul, ↓a_div, ↓a_mod, ↓a_pow, ↓a_lt, ↓a_le, ↓a_gt, ↓a_ge, ↓a_eqI, ↓a_eqS, ↓a_neI, ↓a_neS, ↓a_neg, ↓a_isN, ↓a_notN, ↓a_ixL, ↓a_ixF, ↓a_ixT, ↓a_ixK, ↓a_at, ↓a_tup, ↓a_lst, ↓a_abs, ↓a_min, ↓a_max, ↓a_divmod, ↓a_tupL, ↓a_tupT, ↓a_listL, ↓a_listT, ↓a_slL, ↓a_slF, ↓a_slT, ↓a_fld, ↓a_ins, ↓a_truB, ↓a_truI, ↓a_truN, ↓a_truL, ↓a_truT, ↓a_sqL, ↓a_sqF, ↓a_sqT, ↓a_sqK, ↓a_rg1, ↓a_rg2, ↓a_lrg, ↓a_enL, ↓a_enT, ↓a_isiI, ↓a_isiB, ↓a_isiN, ↓a_isiS, ↓a_isiL, ↓a_isiT, ↓a_isiD, ↓a_isiC, ↓u_jS, ↓u_jA, ↓k_for, ↓bd_nx, ↓bd_ct, ↓bd_bk, ↓bd_rt, ↓bd_xc, ↓lp_nil, ↓wi_nil, ↓wi_cons, ↓ba_nil, ↓ba_cons, ↓ob_N, ↓ob_S, ↓ob_0, ↓ob_o, ↓ob_n, ↓ob_s, ↓k_lc, ↓lc_nil, ↓k_lc2, ↓lc2_nil, ↓k_raise, zr_1, zr_2, ↓te_nx, ↓te_rt, ↓te_bk, ↓te_ct, ↓ty_nx, ↓ty_rt, ↓ty_bk, ↓ty_ct, ↓ty_xc, ↓k_try, ↓a_xf, ↓a_isx, ↓a_cnt, ↓a_zp2, ↓a_join, ↓xS_str, ↓a_fmtI, ↓a_fmtS, ↓u_js, ↓js_nil, ↓js_cons, ↓u_eStr, ↓u_strI, ↓u_strS, ↓u_strC, fz_0, fz_s, fz_n, fz_o, Option.map_some, Option.map_none, isa_0, isa_1, isa_2, isa_3, isa_4, isa_5, isa_6, isa_7, isa_8, isa_9, isa_10, isa_11, isa_12, isa_13, isa_14, isa_15, isa_16, isa_17, isa_18, isa_19, isa_20, isa_21, isa_22, isa_23, isx_0, isx_1, isx_2, isx_3, isx_4, isx_5, isx_6, isx_7, isx_8, isx_9, isx_10, isx_11, isx_12, isx_13, isx_14, isx_15, isx_16, isx_17, isx_18, isx_19, isx_20, isx_21, isx_22, sne_0, seq_0, sne_1, seq_1, sne_2, seq_2, sne_3, seq_3, sne_4, seq_4, sne_5, seq_5, ↓ik_t, ↓ik_f, List.lookup_cons, List.lookup_nil, beq_self_eq_true, List.contains_cons, List.contains_nil, Bool.and_true, Bool.true_and, Bool.and_false, Bool.false_and, ↓reduceIte, putT, Bool.true_or, Bool.or_true, Bool.or_false, Bool.false_or, at_0, at_1, at_2, at_3, at_4, at_5, at_6, ix_0, ix_1, ix_2, List.set_cons_zero, List.set_cons_succ, decide_true, decide_false, eq_self, List.map_cons, List.map_nil, Bool.not_true, Bool.not_false, Bool.false_eq_true, List.replicate_succ, List.replicate_zero, true_and, and_true, isNon])
local macro_rules
  | `(tactic| get_elem_tactic_trivial) => `(tactic| first
    | assumption
    | omega
    | exact small_l (small_of (by omega) (by omega))
    | exact small_r (small_of (by omega) (by omega))
    | (show _ ≤ lim; simp only [lim, List.length_cons, List.length_nil, List.length_append]; omega)
    | (show _ < lim; simp only [lim, List.length_cons, List.length_nil, List.length_append]; omega)
    | (refine And.intro ?_ ?_; get_elem_tactic_trivial; get_elem_tactic_trivial)
    | (exact inR_of (by omega) (by omega))
    | (simp only [List.length_cons, List.length_nil, List.length_append, List.length_map]; omega)
    | rfl
    | decide
    | decide +kernel)
local macro_rules
  | `(tactic| decreasing_trivial) => `(tactic| (array_get_dec; (repeat ((first | ((with_reducible apply uO_of); (with_reducible exact rfl)) | ((with_reducible apply And.intro); (get_elem_tactic_trivial))); (array_get_dec)))))
section
variable {Q : T → TSt → Prop} {X : TExn → TSt → Prop} {τ : TSt}
/-! ### texts -/
def piece (a b : Int) : Str := Str.ofString (toString a) ++ "/" ++ Str.ofString (toString b)
def pcs (ns ms : List Int) : List Str := (List.range ns.length).map fun i => piece (ns.getD i 0) (ms.getD i 0)
def txt (ns ms : List Int) : Str := Txt.join " " (pcs ns ms)
theorem strT_map {l : List Nat} {s : Nat → Str} : strT (l.map fun i => T.str (s i)) = some (l.map s) := by
  induction l with
  | nil => rfl
  | cons a l ih => simp only [List.map_cons, strT, ih, Option.map_some]
theorem small_text {a : Int} (h : 0 ≤ a ∧ a ≤ 999) : (Str.ofString (toString a)).length ≤ 5 ∧ a.natAbs.log2 < 1920 :=
  ⟨int_len (m := 4) (by decide) (by omega), log2_lt (by decide) (Nat.lt_of_lt_of_le (show a.natAbs < 1024 by omega) (by decide +kernel))⟩
theorem piece_len {a b : Int} (h : 0 ≤ a ∧ a ≤ 999) (h' : 0 ≤ b ∧ b ≤ 999) : (piece a b).length ≤ 11 := by
  unfold piece
  rw [Str.length_append, Str.length_append]
  have e : (Str.ofString "/").length = 1 := by decide +kernel
  have := (small_text h).1
  have := (small_text h').1
  omega
theorem getD_in {ns : List Int} {i : Nat} (h : ∀ n ∈ ns, 0 ≤ n ∧ n ≤ 999) : 0 ≤ ns.getD i 0 ∧ ns.getD i 0 ≤ 999 := by
  rw [List.getD_eq_getElem?_getD]
  cases q : ns[i]? with
  | none => simp
  | some n => exact h n (List.mem_of_getElem? q)
theorem sum_len_le {L : Nat} : ∀ {l : List Str}, (∀ s ∈ l, s.length ≤ L) → (l.map (·.length)).sum ≤ l.length * L
  | [], _ => by simp
  | s :: l, h => by
    have := h s (List.mem_cons_self ..)
    have z := sum_len_le (l := l) fun y hy => h y (List.mem_cons_of_mem _ hy)
    simp only [List.map_cons, List.sum_cons, List.length_cons, Nat.succ_mul]
    omega
theorem pcs_cost {ns ms : List Int} (b1 : ∀ n ∈ ns, 0 ≤ n ∧ n ≤ 999) (b2 : ∀ n ∈ ms, 0 ≤ n ∧ n ≤ 999) (l : ns.length ≤ 60) : joinC " " (pcs ns ms) ≤ lim := by
  unfold joinC
  have z := sum_len_le (L := 11) (l := pcs ns ms) fun s hs => by
    obtain ⟨i, _, rfl⟩ := List.mem_map.mp hs
    exact piece_len (getD_in b1) (getD_in b2)
  have e : (Str.ofString " ").length = 1 := by decide +kernel
  have e2 : (pcs ns ms).length = ns.length := by simp [pcs]
  rw [e2] at z
  show (List.map (fun x => x.length) (pcs ns ms)).sum + (pcs ns ms).length * (Str.ofString " ").length ≤ lim
  rw [e, e2]
  unfold lim
  omega
theorem get_int {ns : List Int} {i : Nat} (h : i < ns.length) : (ns.map T.int)[i]? = some (.int (ns.getD i 0)) := by
  rw [List.getElem?_map, List.getElem?_eq_getElem h, List.getD_eq_getElem?_getD, List.getElem?_eq_getElem h] <;> rfl
theorem str_ok2 {o : T} {ns ms : List Int} (hC : IsC o ns ms) (b1 : ∀ n ∈ ns, 0 ≤ n ∧ n ≤ 999) (b2 : ∀ n ∈ ms, 0 ≤ n ∧ n ≤ 999) (hl : ns.length = ms.length) (l : ns.length ≤ 60) (k : Q (.str (txt ns ms)) []) : uE (T_Counts_str [.fz o]) Q X := by
  unfold T_Counts_str t_Counts_str
  decreasing_trivial
  rw [fldA hC]
  decreasing_trivial
  rw [fldD hC]
  decreasing_trivial
  have hz : (zipT (ns.map T.int) (ms.map T.int)).length = ns.length := by rw [zipT_len (by simp [hl])]; simp
  refine Mc.lc_map (f := fun i => .str (piece (ns.getD i 0) (ms.getD i 0))) (by rw [hz]; unfold lim; omega) ?_ ?_
  · intro i t ht
    obtain ⟨x, y, hx, hy, rfl⟩ := zipT_get ht
    have hi : i < ns.length := by have := (List.getElem?_eq_some_iff.mp hx).1; simpa using this
    rw [get_int hi] at hx
    rw [get_int (show i < ms.length by omega)] at hy
    cases hx; cases hy
    have w1 := small_text (getD_in (i := i) b1)
    have w2 := small_text (getD_in (i := i) b2)
    have e : (Str.ofString "/").length = 1 := by decide +kernel
    unfold t_Counts_str_1
    decreasing_trivial
    refine ⟨by rw [Str.empty_append]; unfold lim; omega, ?_⟩
    decreasing_trivial
    refine ⟨by rw [Str.length_append, Str.empty_append]; unfold lim; omega, ?_⟩
    decreasing_trivial
    refine ⟨by rw [Str.length_append, Str.length_append, Str.empty_append]; unfold lim; omega, ?_⟩
    decreasing_trivial
    refine ⟨?_, rfl⟩
    show T.str _ = T.str _
    rw [Str.empty_append] <;> rfl
  · decreasing_trivial
    rw [hz]
    refine uO_of strT_map ?_
    refine ⟨pcs_cost b1 b2 l, ?_⟩
    decreasing_trivial
    exact k
theorem written_ok {ns ms : List Int} (b1 : ∀ n ∈ ns, 0 ≤ n ∧ n ≤ 999) (b2 : ∀ n ∈ ms, 0 ≤ n ∧ n ≤ 999) (hl : ns.length = ms.length) (l : ns.length ≤ 60) (k : Q (.str (txt ns ms)) []) : uE (T_written [.fz (.tup (ns.map .int)), .fz (.tup (ms.map .int))]) Q X := by
  unfold T_written t_written
  decreasing_trivial
  have hz : (rgT 0 ((ns.map T.int).length : Int).toNat).length = ns.length := by simp [rgT]
  refine ⟨inR_of (by simp only [List.length_map]; omega) (by simp only [List.length_map]; omega), ?_⟩
  refine Mc.lc_map (f := fun i => .str (piece (ns.getD i 0) (ms.getD i 0))) (by rw [hz]; unfold lim; omega) ?_ ?_
  · intro i t ht
    obtain ⟨hi, rfl⟩ := rgT_get ht
    have hi : i < ns.length := by simpa using hi
    have e0 : (0 : Int) + (i : Nat) = (i : Nat) := by omega
    rw [e0]
    have w1 := small_text (getD_in (i := i) b1)
    have w2 := small_text (getD_in (i := i) b2)
    have e : (Str.ofString "/").length = 1 := by decide +kernel
    unfold t_written_1
    decreasing_trivial
    refine uO_of (at_nat (get_int hi)) ?_
    decreasing_trivial
    refine uO_of (at_nat (get_int (show i < ms.length by omega))) ?_
    decreasing_trivial
    refine ⟨by rw [Str.length_append]; unfold lim; omega, ?_⟩
    first | exact ⟨rfl, rfl⟩ | (decreasing_trivial; exact ⟨rfl, rfl⟩)
  · decreasing_trivial
    rw [hz]
    refine uO_of strT_map ?_
    refine ⟨pcs_cost b1 b2 l, ?_⟩
    decreasing_trivial
    exact k
/-! ### errors -/
theorem error_eq {v : T} : T_error [.fz (.exn "InvalidCounts" [("tick", v)])] = .ok (.int 0) [] := by kernel_rfl
/-- what is shown of a value -/
def rp (v : T) : Str := match oReprX [v] with
  | some (.str s) => s
  | _ => ""
theorem rp_eq {v : T} (h : ∃ s, oReprX [v] = some (.str s)) : oReprX [v] = some (.str (rp v)) := by
  obtain ⟨s, e⟩ := h
  unfold rp
  rw [e]
theorem rp_fault {c g v : T} (h : fault c g = [v]) : oReprX [v] = some (.str (rp v)) := by
  refine rp_eq (repr_of ?_)
  cases hs : sz c g with
  | none =>
    simp only [fault, hs] at h
    cases h
    exact sn_non.mono (by decide) (by decide)
  | some p =>
    obtain ⟨cs, gs⟩ := p
    cases hf : fst cs gs 0 0 0 with
    | none => simp only [fault, hs, hf] at h; cases h
    | some i =>
      simp only [fault, hs, hf] at h
      cases h
      have hi := fst_lt hf
      have h60 : cs.length ≤ 60 := by
        unfold sz at hs
        split at hs
        · split at hs
          · rename_i z; cases hs; exact z.2.2
          · cases hs
        · cases hs
      exact (sn_int (i := (i : Nat)) (Nat.lt_of_lt_of_le (show ((i : Nat) : Int).natAbs < 100 by omega) (by decide))).mono (by decide) (by decide)
def res (c g : T) : T := match fault c g with
  | v :: _ => .lst [.int 0, .str (rp v)]
  | [] => match c, g with
    | .tup cs, .tup gs => .lst [.str "made", .str (txt (cs.filterMap isI) (gs.filterMap isI))]
    | _, _ => .non
theorem ints_back {ns : List Int} : (ns.map T.int).filterMap isI = ns := by
  induction ns with
  | nil => rfl
  | cons a l ih => simp only [List.map_cons, List.filterMap_cons, isI, ih]
theorem told_ok {c g : T} {b : Bool} (vc : Vr c) (vg : Vr g) (k : Q (res c g) []) : uE (T_told [.fz c, .fz g, .fz (.bl b)]) Q X := by
  unfold T_told t_told t_told_2 t_told_1
  have fin1 : ∀ ns ms o, c = .tup (ns.map .int) → g = .tup (ms.map .int) → (∀ n ∈ ns, 0 ≤ n ∧ n ≤ 999) → (∀ n ∈ ms, 0 ≤ n ∧ n ≤ 999) → ns.length = ms.length → 1 ≤ ns.length → ns.length ≤ 60 → IsC o ns ms → fault c g = [] →
      uE (strG [("Counts", T_Counts_str)] o [some (.fz c), some (.fz g), some (.fz (.bl b)), some (.fz o), none]) (fun v τ => v = .str (txt ns ms) ∧ τ = [some (.fz c), some (.fz g), some (.fz (.bl b)), some (.fz o), none]) xF := by
    intro ns ms o ec eg b1 b2 hl l1 l2 hC hf
    have h1 : uE (T_Counts_str [.fz o]) (fun v os => v = .str (txt ns ms)) xF := str_ok2 hC b1 b2 hl l2 rfl
    obtain ⟨v, os, e, rfl⟩ := uE.get h1
    cases hC
    unfold cnt at e ⊢
    rw [u_strC]
    refine uO_of (a := T_Counts_str) (by simp only [List.lookup_cons, beq_self_eq_true]) ?_
    refine uE.of e ?_
    exact ⟨rfl, rfl⟩
  have c1 : ∀ (ns ms : List Int) (o : T), c = .tup (ns.map .int) → g = .tup (ms.map .int) → fault c g = [] → Q (.lst [.str "made", .str (txt ns ms)]) [] := by
    intro ns ms o ec eg hf
    subst ec eg
    simp only [res, hf, ints_back] at k
    exact k
  have c2 : ∀ v, fault c g = [v] → Q (.lst [.int 0, .str (rp v)]) [] := by
    intro v hf
    simp only [res, hf] at k
    exact k
  cases b
  · decreasing_trivial
    refine init2_ok vc vg (fun ns ms o ec eg b1 b2 hl l1 l2 hC hf => ?_) fun v hf => ?_
    · decreasing_trivial
      obtain ⟨w, τ', e, rfl, rfl⟩ := uE.get (fin1 ns ms o ec eg b1 b2 hl l1 l2 hC hf)
      refine uE.of e ?_
      decreasing_trivial
      exact c1 ns ms o ec eg hf
    · decreasing_trivial
      refine uE.of error_eq ?_
      decreasing_trivial
      refine uO_of (rp_fault hf) ?_
      decreasing_trivial
      exact c2 v hf
  · decreasing_trivial
    refine init2_ok vc vg (fun ns ms o ec eg b1 b2 hl l1 l2 hC hf => ?_) fun v hf => ?_
    · decreasing_trivial
      obtain ⟨w, τ', e, rfl, rfl⟩ := uE.get (fin1 ns ms o ec eg b1 b2 hl l1 l2 hC hf)
      refine uE.of e ?_
      decreasing_trivial
      exact c1 ns ms o ec eg hf
    · decreasing_trivial
      refine uE.of error_eq ?_
      decreasing_trivial
      refine uO_of (rp_fault hf) ?_
      decreasing_trivial
      exact c2 v hf
/-! ### a pair -/
theorem ok_of (s : String) : PyData.strOk (Str.ofString s) = true := by
  unfold PyData.strOk
  rw [← Array.all_toList, PyProof.Rows.signs_ofString, List.all_map]
  refine List.all_eq_true.mpr fun c _ => ?_
  have h : c.toNat < 0x110000 := by
    have := c.valid
    simp only [UInt32.isValidChar, Nat.isValidChar] at this
    show c.val.toNat < _
    omega
  exact decide_eq_true h
theorem ok_app {a b : Str} (h1 : PyData.strOk a = true) (h2 : PyData.strOk b = true) : PyData.strOk (a ++ b) = true := by
  unfold PyData.strOk at h1 h2 ⊢
  rw [← Array.all_toList] at h1 h2 ⊢
  rw [PyProof.Rows.cps_toList_append, List.all_append, h1, h2] <;> rfl
theorem ok_join {y : Str} (hy : PyData.strOk y = true) : ∀ {l : List Str}, (∀ s ∈ l, PyData.strOk s = true) → PyData.strOk (Str.join y l) = true
  | [], _ => by rw [PyProof.Rows.join_nil]; decide +kernel
  | [x], h => by rw [PyProof.Rows.join_one]; exact h x (List.mem_cons_self ..)
  | x :: z :: r, h => by
    rw [PyProof.Rows.join_cons_cons]
    exact ok_app (ok_app (h x (List.mem_cons_self ..)) hy) (ok_join hy fun s hs => h s (List.mem_cons_of_mem _ hs))
theorem ok_txt {ns ms : List Int} : PyData.strOk (txt ns ms) = true := by
  unfold txt
  rw [TL.join_eq]
  refine ok_join (ok_of _) fun s hs => ?_
  obtain ⟨i, _, rfl⟩ := List.mem_map.mp hs
  exact ok_app (ok_app (ok_of _) (ok_of _)) (ok_of _)
theorem ok_rp {c g v : T} (h : fault c g = [v]) : PyData.strOk (rp v) = true := by
  have e := rp_fault h
  have hv : v = .non ∨ ∃ i : Int, v = .int i := by
    unfold fault at h
    split at h
    · cases h; exact .inl rfl
    · split at h
      · cases h
      · cases h; exact .inr ⟨_, rfl⟩
  rcases hv with rfl | ⟨i, rfl⟩
  · simp only [oReprX, rxT, Option.bind_some] at e
    split at e
    · rw [← T.str.inj (Option.some.inj e)]; exact ok_of _
    · cases e
  · simp only [oReprX, rxT, Option.bind_some] at e
    split at e
    · rw [← T.str.inj (Option.some.inj e)]; simp only [PyData.shown]; exact ok_of _
    · cases e
theorem eq_made {a b : Str} {Q : T → Prop} (ha : PyData.strOk a = true) (hb : PyData.strOk b = true) (k : Q (.bl true)) : uO (oEq (.lst [.lst [.str a, .str b], .lst [.str a, .str b]]) (.lst [.lst [.str a, .str b], .lst [.str a, .str b]])) Q := by
  refine uO_of (a := .bl true) ?_ k
  simp [oEq, rd2T, rdT, rdTL, SeqAt.shaped, PyData.canLay0, PyData.canLayAll0, PyData.depth, PyData.depthAll, PyData.eqv, PyData.eqvAll, ha, hb]
theorem eq_err {b : Str} {Q : T → Prop} (hb : PyData.strOk b = true) (k : Q (.bl true)) : uO (oEq (.lst [.lst [.int 0, .str b], .lst [.int 0, .str b]]) (.lst [.lst [.int 0, .str b], .lst [.int 0, .str b]])) Q := by
  refine uO_of (a := .bl true) ?_ k
  simp [oEq, rd2T, rdT, rdTL, SeqAt.shaped, PyData.canLay0, PyData.canLayAll0, PyData.depth, PyData.depthAll, PyData.eqv, PyData.eqvAll, hb]
theorem fault_cases {c g : T} : fault c g = [] ∨ ∃ v, fault c g = [v] := by
  unfold fault
  split
  · exact .inr ⟨_, rfl⟩
  · split
    · exact .inl rfl
    · exact .inr ⟨_, rfl⟩
theorem made_of {c g : T} (h : fault c g = []) : ∃ ns ms : List Int, c = .tup (ns.map .int) ∧ g = .tup (ms.map .int) ∧ (∀ n ∈ ns, 0 ≤ n ∧ n ≤ 999) ∧ (∀ n ∈ ms, 0 ≤ n ∧ n ≤ 999) ∧ ns.length = ms.length ∧ ns.length ≤ 60 := by
  cases hs : sz c g with
  | none => simp only [fault, hs] at h; cases h
  | some p =>
    obtain ⟨cs, gs⟩ := p
    cases hf : fst cs gs 0 0 0 with
    | some i => simp only [fault, hs, hf] at h; cases h
    | none =>
      have hh : c = .tup cs ∧ g = .tup gs ∧ cs.length = gs.length ∧ 1 ≤ cs.length ∧ cs.length ≤ 60 := by
        unfold sz at hs
        split at hs
        · split at hs
          · rename_i z; cases hs; exact ⟨rfl, rfl, z⟩
          · cases hs
        · cases hs
      obtain ⟨rfl, rfl, hl, l1, l2⟩ := hh
      obtain ⟨ns, ms, rfl, rfl, b1, b2⟩ := fst_none hl hf
      simp only [List.length_map] at hl l1 l2
      exact ⟨ns, ms, rfl, rfl, b1, b2, hl, l2⟩
theorem ne_nil1 {v : T} {Q : T → Prop} (hv : v = .non ∨ ∃ i : Int, v = .int i) : uO (oNe (.lst [v]) (.lst [])) Q = Q (.bl true) := by
  rcases hv with rfl | ⟨i, rfl⟩
  · with_unfolding_all exact rfl
  · with_unfolding_all exact rfl
theorem ne_nil0 {Q : T → Prop} : uO (oNe (.lst []) (.lst [])) Q = Q (.bl false) := by with_unfolding_all exact rfl
theorem fault_v {c g v : T} (h : fault c g = [v]) : v = .non ∨ ∃ i : Int, v = .int i := by
  unfold fault at h
  split at h
  · cases h; exact .inl rfl
  · split at h
    · cases h
    · cases h; exact .inr ⟨_, rfl⟩
theorem pair_ok {c g : T} (vc : Vr c) (vg : Vr g) (hs : ∃ s, oReprX [.lst [c, g]] = some (.str s)) (k : Q (.bl true) []) : uE (T_pair_right [.fz c, .fz g]) Q X := by
  obtain ⟨s, hs⟩ := hs
  unfold T_pair_right t_pair_right
  decreasing_trivial
  refine lwrong_ok vc vg ?_
  decreasing_trivial
  refine uO_of hs ?_
  rcases fault_cases (c := c) (g := g) with hf | ⟨v, hf⟩
  · obtain ⟨ns, ms, rfl, rfl, b1, b2, hl, l2⟩ := made_of hf
    have er : res (.tup (ns.map .int)) (.tup (ms.map .int)) = .lst [.str "made", .str (txt ns ms)] := by simp only [res, hf, ints_back]
    rw [hf]
    decreasing_trivial
    rw [ne_nil0]
    decreasing_trivial
    refine written_ok b1 b2 hl l2 ?_
    decreasing_trivial
    unfold t_pair_right_1
    rw [lc_cons]
    decreasing_trivial
    refine told_ok vc vg ?_
    rw [er]
    decreasing_trivial
    rw [lc_cons]
    decreasing_trivial
    refine told_ok vc vg ?_
    rw [er]
    decreasing_trivial
    refine eq_made (ok_of _) ok_txt ?_
    decreasing_trivial
    refine uO_of hs ?_
    decreasing_trivial
    exact k
  · have er : res c g = .lst [.int 0, .str (rp v)] := by simp only [res, hf]
    rw [hf]
    decreasing_trivial
    rw [ne_nil1 (fault_v hf)]
    decreasing_trivial
    refine uO_of (rp_fault hf) ?_
    decreasing_trivial
    unfold t_pair_right_1
    rw [lc_cons]
    decreasing_trivial
    refine told_ok vc vg ?_
    rw [er]
    decreasing_trivial
    rw [lc_cons]
    decreasing_trivial
    refine told_ok vc vg ?_
    rw [er]
    decreasing_trivial
    refine eq_err (ok_rp hf) ?_
    decreasing_trivial
    refine uO_of hs ?_
    decreasing_trivial
    exact k
end
end K02

namespace K02
open PySem Mc
local macro_rules
  | `(tactic| array_get_dec) => `(tactic| simp (config := {maxSteps := 2000000, dsimp := false, failIfUnchanged := false, implicitDefEqProofs := false}) only [↓uE_ok, ↓uE_ex, ↓uO_some, ↓uO_none, ↓u_eV, ↓u_eC, ↓u_e1, ↓u_e2, ↓u_aNil, ↓u_aCons, ↓u_eArg, ↓uO_oB, ↓u_bV, ↓u_bTr, ↓u_bNt, ↓k_bAn, ↓k_bO, ↓u_bYs, ↓k_eAn, ↓k_eOr, ↓u_eNt, ↓k_eIf, ↓u_eCh, ↓u_ch1, ↓k_ch2, ↓u_nNone, ↓u_nSome, ↓uO_oI, ↓u_eSl, ↓u_eMt, ↓u_dict0, ↓u_dict1, ↓u_ixO, ↓u_lenO, ↓u_tupO, ↓k_appO, ↓k_ext, ↓xL_lst, ↓u_eCall, ↓u_eCallK, ↓o1_eq, ↓k_eCallS, ↓u_eCallT, ↓mk1_eq, ↓u_eMake, ↓u_eMakeK, ↓u_eMeth, ↓u_eProp, ↓u_eFldO, ↓u_eLen, ↓u_lenL, ↓u_lenF, ↓u_lenT, ↓u_lenK, ↓u_nil, ↓u_brk, ↓u_cnt, ↓u_retN, ↓u_no, ↓u_seq, ↓sq_nx, ↓sq_rt, ↓sq_bk, ↓sq_ct, ↓sq_xc, ↓u_drop, ↓u_ret, ↓k_if, ↓u_asg, ↓u_asg2, ↓k_yN, ↓u_yTp, ↓u_ysNil, ↓u_ysCons, ↓xI_int, ↓k_yAt, ↓k_fz, ↓k_asgO, ↓k_par, ↓k_parV, ↓u_evN, ↓u_evV, ↓u_evO, ↓k_aug, ↓k_fldS, ↓k_augS, ↓k_fnT, ↓k_fnTo, ↓fo_rt, ↓fo_xc, ↓u_retO, ↓k_rt, ↓k_nx, ↓k_xc, ↓k_ifW, ↓u_wOf, ↓u_wNt, ↓k_wOr, ↓xB_bl, ↓k_wCall, ↓st_0, ↓st_s, ↓sa_nl, ↓sa_cs, ↓sv_nl, ↓sv_cs, ↓fk_0, ↓fk_f, ↓fk_s, ↓in_z, ↓in_nl, ↓in_cs, ↓ou_nl, ↓ou_0, ↓l_fz0, ↓l_fzs, ↓l_ow0, ↓l_ows, ↓l_oL0, ↓l_oLs, ↓a_add, ↓a_addL, ↓a_addT, ↓a_addS, ↓a_sub, ↓a_mul, ↓a_div, ↓a_mod, ↓a_pow, ↓a_lt, ↓a_le, ↓a_gt, ↓a_ge, ↓a_eqI, ↓a_eqS, ↓a_neI, ↓a_neS, ↓a_neg, ↓a_isN, ↓a_notN, ↓a_ixL, ↓a_ixF, ↓a_ixT, ↓a_ixK, ↓a_at, ↓a_tup, ↓a_lst, ↓a_abs, ↓a_min, ↓a_max, ↓a_divmod, ↓a_tupL, ↓a_tupT, ↓a_listL, ↓a_listT, ↓a_slL, ↓a_slF, ↓a_slT, ↓a_fld, ↓a_ins, ↓a_truB, ↓a_truI, ↓a_truN, ↓a_truL, ↓a_truT, ↓a_sqL, ↓a_sqF, ↓a_sqT, ↓a_sqK, ↓a_rg1, ↓a_rg2, ↓a_lrg, ↓a_enL, ↓a_enT, ↓a_isiI, ↓a_isiB, ↓a_isiN, ↓a_isiS, ↓a_isiL, ↓a_isiT, ↓a_isiD, ↓a_isiC, ↓u_jS, ↓u_jA, ↓k_for, ↓bd_nx, ↓bd_ct, ↓bd_bk, ↓bd_rt, ↓bd_xc, ↓lp_nil, ↓wi_nil, ↓wi_cons, ↓ba_nil, ↓ba_cons, ↓ob_N, ↓ob_S, ↓ob_0, ↓ob_o, ↓ob_n, ↓ob_s, ↓k_lc, ↓lc_nil, ↓k_lc2, ↓lc2_nil, ↓k_raise, zr_1, zr_2, ↓te_nx, ↓te_rt, ↓te_bk, ↓te_ct, ↓ty_nx, ↓ty_rt, ↓ty_bk, ↓ty_ct, ↓ty_xc, ↓k_try, ↓a_xf, ↓a_isx, ↓a_cnt, ↓a_zp2, ↓a_join, ↓xS_str, ↓a_fmtI, ↓a_fmtS, ↓u_js, ↓js_nil, ↓js_cons, ↓u_eStr, ↓u_strI, ↓u_strS, ↓u_strC, fz_0, fz_s, fz_n, fz_o, Option.map_some, Option.map_none, isa_0, isa_1, isa_2, isa_3, isa_4, isa_5, isa_6, isa_7, isa_8, isa_9, isa_10, isa_11, isa_12, isa_13, isa_14, isa_15, isa_16, isa_17, isa_18, isa_19, isa_20, isa_21, isa_22, isa_23, isx_0, isx_1, isx_2, isx_3, isx_4, isx_5, isx_6, isx_7, isx_8, isx_9, isx_10, isx_11, isx_12, isx_13, isx_14, isx_15, isx_16, isx_17, isx_18, isx_19, isx_20, isx_21, isx_22, sne_0, seq_0, sne_1, seq_1, sne_2, seq_2, sne_3, seq_3, sne_4, seq_4, sne_5, seq_5, ↓ik_t, ↓ik_f, List.lookup_cons, List.lookup_nil, beq_self_eq_true, List.contains_cons, List.contains_nil, Bool.and_true, Bool.true_and, Bool.and_false, Bool.false_and, ↓reduceIte, putT, Bool.true_or, Bool.or_true, Bool.or_false, Bool.false_or, at_0, at_1, at_2, at_3, at_4, at_5, at_6, ix_0, ix_1, ix_2, List.set_cons_zero, List.set_cons_succ, decide_true, decide_false, eq_self, List.map_cons, List.map_nil, Bool.not_true, Bool.not_false, Bool.false_eq_true, List.replicate_succ, List.replicate_zero, true_and, and_true, isNon])
local macro_rules
  | `(tactic| get_elem_tactic_trivial) => `(tactic| first
    | assumption
    | omega
    | exact small_l (small_of (by omega) (by omega))
    | exact small_r (small_of (by omega) (by omega))
    | (show _ ≤ lim; simp only [lim, List.length_cons, List.length_nil, List.length_append]; omega)
    | (show _ < lim; simp only [lim, List.length_cons, List.length_nil, List.length_append]; omega)
    | (refine And.intro ?_ ?_; get_elem_tactic_trivial; get_elem_tactic_trivial)
    | (exact inR_of (by omega) (by omega))
    | (simp only [List.length_cons, List.length_nil, List.length_append, List.length_map]; omega)
    | rfl
    | decide
    | decide +kernel)
local macro_rules
  | `(tactic| decreasing_trivial) => `(tactic| (array_get_dec; (repeat ((first | ((with_reducible apply uO_of); (with_reducible exact rfl)) | ((with_reducible apply And.intro); (get_elem_tactic_trivial))); (array_get_dec)))))
section
variable {Q : T → TSt → Prop} {X : TExn → TSt → Prop} {τ : TSt}
/-! ### values that are put into pairs -/
def Pe (x : T) : Prop := V0 x = true ∧ Sn 38 40 3 x
def Gv (t : T) : Prop := Vr t ∧ Sn 39 6000 8 t
theorem pe_int {i : Int} (h : i.natAbs < 10 ^ 25) : Pe (.int i) := ⟨rfl, (sn_int h).mono (by decide) (by decide)⟩
theorem pe_bl {b : Bool} : Pe (.bl b) := ⟨rfl, sn_bl.mono (by decide) (by decide)⟩
theorem pe_non : Pe .non := ⟨rfl, sn_non.mono (by decide) (by decide)⟩
theorem pe_str {x : Str} (h : (reprText x).length ≤ 40) : Pe (.str x) := ⟨rfl, (sn_str h).mono (by decide) (by decide)⟩
theorem pe_t1 {i : Int} (h : i.natAbs < 10 ^ 25) : Pe (.tup [.int i]) := ⟨rfl, (sn_tup (n := 37) (m := 1) (L := 26) (k := 0) (fun x hx => by rw [List.mem_singleton.mp hx]; exact sn_int h) (by simp)).mono (by decide) (by decide)⟩
theorem pe_l1 {i : Int} (h : i.natAbs < 10 ^ 25) : Pe (.lst [.int i]) := ⟨rfl, (sn_lst (n := 37) (m := 1) (L := 26) (k := 0) (fun x hx => by rw [List.mem_singleton.mp hx]; exact sn_int h) (by simp)).mono (by decide) (by decide)⟩
theorem gv_tup {xs : List T} (h : ∀ x ∈ xs, Pe x) (l : xs.length ≤ 130) : Gv (.tup xs) :=
  ⟨⟨rfl, fun ys e => by cases e; exact ⟨by omega, fun x hx => (h x hx).1⟩⟩, (sn_tup (m := 130) (fun x hx => (h x hx).2) l).mono (by decide) (by decide)⟩
theorem gv_lst {xs : List T} (h : ∀ x ∈ xs, Pe x) (l : xs.length ≤ 130) : Gv (.lst xs) :=
  ⟨⟨rfl, fun ys e => by cases e⟩, (sn_lst (m := 130) (fun x hx => (h x hx).2) l).mono (by decide) (by decide)⟩
theorem gv_ints {ns : List Int} (h : ∀ n ∈ ns, 0 ≤ n ∧ n ≤ 1000) (l : ns.length ≤ 130) : Gv (.tup (ns.map .int)) := gv_tup (fun x hx => by
  obtain ⟨n, hn, rfl⟩ := List.mem_map.mp hx
  have := h n hn
  exact pe_int (Nat.lt_of_lt_of_le (show n.natAbs < 10000 by omega) (by decide))) (by simpa using l)
theorem gv_pair {c g : T} (hc : Gv c) (hg : Gv g) : ∃ s, oReprX [.lst [c, g]] = some (.str s) := repr_of ((sn_lst (n := 39) (m := 2) (L := 6000) (k := 8) (xs := [c, g]) (fun x hx => by
  rcases (show x = c ∨ x = g by simpa using hx) with rfl | rfl
  · exact hc.2
  · exact hg.2) (by simp)).mono (by decide) (by decide))
theorem gv_pe {x : T} (h : Pe x) (n : ∀ xs, x ≠ .tup xs) (s : Sn 39 40 3 x) : Gv x := ⟨⟨h.1, fun xs e => absurd e (n xs)⟩, s.mono (by decide) (by decide)⟩
theorem pair2_ok {c g : T} (hc : Gv c) (hg : Gv g) (k : Q (.bl true) []) : uE (T_pair_right [.fz c, .fz g]) Q X := pair_ok hc.1 hg.1 (gv_pair hc hg) k
theorem mem_cut {xs : List T} {lo hi : Option Int} {x : T} (h : x ∈ cutT xs lo hi) : x ∈ xs := List.mem_of_mem_drop (List.mem_of_mem_take h)
theorem len_cut {xs : List T} {lo hi : Option Int} : (cutT xs lo hi).length ≤ xs.length := by unfold cutT; rw [List.length_take, List.length_drop]; omega
theorem fw_ints {cs gs : List Int} (f : Fw cs gs) : (∀ n ∈ cs, 0 ≤ n ∧ n ≤ 999) ∧ (∀ n ∈ gs, 0 ≤ n ∧ n ≤ 999) := by
  induction f with
  | nil => simp
  | snoc f a b c d ih =>
    have := f.bd
    refine ⟨fun n hn => ?_, fun n hn => ?_⟩
    · rcases List.mem_append.mp hn with z | z
      · exact ih.1 n z
      · rw [List.mem_singleton.mp z]; omega
    · rcases List.mem_append.mp hn with z | z
      · exact ih.2 n z
      · rw [List.mem_singleton.mp z]; omega
theorem atI_ints {ns : List Int} {i : Int} {Q : T → Prop} (i0 : 0 ≤ i) (i1 : i < ns.length) (b : ∀ n ∈ ns, 0 ≤ n ∧ n ≤ 999) (k : ∀ n : Int, 0 ≤ n → n ≤ 999 → Q (.int n)) : uO (L2.atI (ns.map T.int) i) Q := by
  refine ix_P (P := fun v => ∃ n : Int, v = .int n ∧ 0 ≤ n ∧ n ≤ 999) i0 (by simpa using i1) ?_ ?_
  · intro v hv
    obtain ⟨n, hn, rfl⟩ := List.mem_map.mp hv
    exact ⟨n, rfl, b n hn⟩
  · rintro v ⟨n, rfl, h1, h2⟩
    exact k n h1 h2
theorem a_addTT {xs ys : List T} {Q : T → Prop} (h : xs.length + ys.length ≤ 1000) (k : Q (.tup (xs ++ ys))) : uO (oAdd (.tup xs) (.tup ys)) Q := by
  rw [a_addT]; exact ⟨by unfold lim; omega, k⟩
theorem bent_ok {t : T} {ns : List Int} (hp : Pool t) (b : ∀ n ∈ ns, 0 ≤ n ∧ n ≤ 999) (h1 : 1 ≤ ns.length) (h60 : ns.length ≤ 60) (k : ∀ t' v, Pool t' → Gv v → Q v [some (.ow t')]) : uE (T_bent [.ow t, .fz (.tup (ns.map .int))]) Q X := by
  have pin : ∀ x ∈ ns.map T.int, Pe x := fun x hx => by
    obtain ⟨n, hn, rfl⟩ := List.mem_map.mp hx
    have := b n hn
    exact pe_int (Nat.lt_of_lt_of_le (show n.natAbs < 10000 by omega) (by decide))
  have ll : (ns.map T.int).length = ns.length := List.length_map ..
  unfold T_bent t_bent
  decreasing_trivial
  refine draw_ok hp (by rw [ll]; omega) (by rw [ll]; omega) fun t1 d1 hp1 a0 a1 => ?_
  rw [ll] at a1
  decreasing_trivial
  refine draw_ok hp1 (by decide) (by decide) fun t2 d2 hp2 b0 b1 => ?_
  decreasing_trivial
  have c1 := len_cut (xs := ns.map T.int) (lo := none) (hi := some d1)
  have c2 := len_cut (xs := ns.map T.int) (lo := some (d1 + 1)) (hi := none)
  have c3 := len_cut (xs := ns.map T.int) (lo := some 1) (hi := none)
  have c4 := len_cut (xs := ns.map T.int) (lo := some (-1)) (hi := none)
  rw [ll] at c1 c2 c3 c4
  by_cases h6 : d2 < 6
  · rw [decide_eq_true h6]
    decreasing_trivial
    refine draw_ok hp2 (by decide) (by decide) fun t3 d3 hp3 e0 e1 => ?_
    decreasing_trivial
    refine ix_P (P := Pe) e0 e1 ?_ ?_
    · intro v hv
      simp only [List.mem_cons, List.not_mem_nil, or_false] at hv
      rcases hv with rfl | rfl | rfl | rfl | rfl | rfl | rfl | rfl | rfl | rfl | rfl | rfl
      · exact pe_int (by decide)
      · exact pe_int (by decide)
      · exact pe_bl
      · exact pe_bl
      · exact pe_non
      · exact pe_str (by decide +kernel)
      · exact pe_int (by decide +kernel)
      · exact pe_t1 (by decide)
      · exact pe_l1 (by decide)
      · exact pe_str (by decide +kernel)
      · exact pe_int (by decide)
      · exact pe_int (by decide)
    intro v hv
    decreasing_trivial
    refine k _ _ hp3 (gv_tup ?_ (by simp only [List.length_append, List.length_cons, List.length_nil]; omega))
    intro x hx
    rcases List.mem_append.mp hx with z | z
    · rcases List.mem_append.mp z with z | z
      · exact pin x (mem_cut z)
      · rw [List.mem_singleton.mp z]; exact hv
    · exact pin x (mem_cut z)
  · rw [decide_eq_false h6]
    decreasing_trivial
    refine atI_ints a0 a1 b fun n n0 n1 => ?_
    decreasing_trivial
    refine ix_P (P := Gv) (by omega) (by simp only [List.length_cons, List.length_nil]; omega) ?_ ?_
    · intro v hv
      simp only [List.mem_cons, List.not_mem_nil, or_false] at hv
      rcases hv with rfl | rfl | rfl | rfl
      · refine gv_tup ?_ (by simp only [List.length_append, List.length_cons, List.length_nil]; omega)
        intro x hx
        rcases List.mem_append.mp hx with z | z
        · rcases List.mem_append.mp z with z | z
          · exact pin x (mem_cut z)
          · rw [List.mem_singleton.mp z]; exact pe_int (Nat.lt_of_lt_of_le (show (n + 1).natAbs < 10000 by omega) (by decide))
        · exact pin x (mem_cut z)
      · exact gv_tup (fun x hx => pin x (mem_cut hx)) (by omega)
      · refine gv_tup ?_ (by simp only [List.length_append, ll]; omega)
        intro x hx
        rcases List.mem_append.mp hx with z | z
        · exact pin x z
        · exact pin x (mem_cut z)
      · exact gv_lst pin (by omega)
    · intro v hv
      decreasing_trivial
      exact k _ _ hp2 hv
/-! ### logs -/
theorem great_ok {t : T} (hp : Pool t) (k : ∀ t' cs gs, Pool t' → Fw cs gs → 1 ≤ cs.length → cs.length ≤ 60 → Q (.lst [.tup (cs.map .int), .tup (gs.map .int)]) [some (.ow t')]) : uE (T_great_flows [.ow t]) Q X := by
  unfold T_great_flows t_great_flows
  decreasing_trivial
  refine draw_ok hp (by decide) (by decide) fun t1 d1 hp1 a0 a1 => ?_
  decreasing_trivial
  refine ik_split (fun h => ?_) (fun h => ?_)
  · decreasing_trivial
    refine draw_ok hp1 (by decide) (by decide) fun t2 d2 hp2 b0 b1 => ?_
    decreasing_trivial
    refine draw_ok hp2 (by decide) (by decide) fun t3 d3 hp3 c0 c1 => ?_
    decreasing_trivial
    refine ix_P (P := fun v => ∃ n : Int, v = .int n ∧ 1 ≤ n ∧ n ≤ 999) c0 c1 ?_ ?_
    · intro v hv
      simp only [List.mem_cons, List.not_mem_nil, or_false] at hv
      rcases hv with rfl | rfl | rfl <;> exact ⟨_, rfl, by decide, by decide⟩
    rintro v ⟨n, rfl, n0, n1⟩
    decreasing_trivial
    refine flows_ok hp3 (by omega) (by omega) n0 n1 (by decide) (by decide) fun t4 cs gs hp4 hf hl _ _ => ?_
    decreasing_trivial
    exact k _ _ _ hp4 hf (by omega) (by omega)
  · decreasing_trivial
    refine draw_ok hp1 (by decide) (by decide) fun t2 d2 hp2 b0 b1 => ?_
    decreasing_trivial
    refine flows_ok hp2 (by omega) (by omega) (by decide) (by decide) (by decide) (by decide) fun t4 cs gs hp4 hf hl _ _ => ?_
    decreasing_trivial
    exact k _ _ _ hp4 hf (by omega) (by omega)
theorem small_flows_ok {t : T} (hp : Pool t) (k : ∀ t' cs gs, Pool t' → Fw cs gs → 1 ≤ cs.length → cs.length ≤ 60 → Q (.lst [.tup (cs.map .int), .tup (gs.map .int)]) [some (.ow t')]) : uE (T_small_flows [.ow t]) Q X := by
  unfold T_small_flows t_small_flows
  decreasing_trivial
  refine draw_ok hp (by decide) (by decide) fun t1 d hp1 b0 b1 => ?_
  decreasing_trivial
  refine flows_ok hp1 (by omega) (by omega) (by decide) (by decide) (by decide) (by decide) fun t' cs gs hp' hf hl _ _ => ?_
  decreasing_trivial
  exact k _ _ _ hp' hf (by omega) (by omega)
theorem any_flows_ok {t : T} (hp : Pool t) (k : ∀ t' cs gs, Pool t' → Fw cs gs → 1 ≤ cs.length → cs.length ≤ 60 → Q (.lst [.tup (cs.map .int), .tup (gs.map .int)]) [some (.ow t')]) : uE (T_any_flows [.ow t]) Q X := by
  unfold T_any_flows t_any_flows
  decreasing_trivial
  refine draw_ok hp (by decide) (by decide) fun t1 d hp1 b0 b1 => ?_
  decreasing_trivial
  refine ik_split (fun h => ?_) (fun h => ?_)
  · decreasing_trivial
    refine small_flows_ok hp1 fun t' cs gs hp' hf h1 h2 => ?_
    decreasing_trivial
    exact k _ _ _ hp' hf h1 h2
  · decreasing_trivial
    refine great_ok hp1 fun t' cs gs hp' hf h1 h2 => ?_
    decreasing_trivial
    exact k _ _ _ hp' hf h1 h2
theorem right_ok {t : T} (hp : Pool t) (k : ∀ t', Pool t' → Q (.bl true) [some (.ow t')]) : uE (T_right [.ow t]) Q X := by
  unfold T_right t_right
  decreasing_trivial
  refine any_flows_ok hp fun t0 cs gs hp0 hf h1 h60 => ?_
  have hl := hf.len
  obtain ⟨b1, b2⟩ := fw_ints hf
  have gc : Gv (.tup (cs.map .int)) := gv_ints (fun n hn => by have := b1 n hn; omega) (by omega)
  have gg : Gv (.tup (gs.map .int)) := gv_ints (fun n hn => by have := b2 n hn; omega) (by omega)
  decreasing_trivial
  refine lp_ix (I := fun i τ => ∃ t v3 v4 v5, Pool t ∧ τ = [some (.ow t), some (.fz (.tup (cs.map .int))), some (.fz (.tup (gs.map .int))), v3, v4, v5]) ⟨_, _, _, _, hp0, rfl⟩ ?_ ?_
  · rintro i w τ hi ⟨t, v3, v4, v5, hp, rfl⟩
    obtain ⟨hi, rfl⟩ := rgT_get hi
    unfold t_right_1
    decreasing_trivial
    refine draw_ok hp (by decide) (by decide) fun t1 d hp1 d0 d8 => ?_
    by_cases e1 : d = 1
    · have q1 := decide_eq_true e1
      have q2 := decide_eq_false (show ¬d = 2 by omega)
      have q4 := decide_eq_false (show ¬4 < d by omega)
      decreasing_trivial
      rw [q1]
      decreasing_trivial
      rw [q4]
      decreasing_trivial
      rw [q1]
      decreasing_trivial
      refine bent_ok hp1 b2 (by omega) (by omega) fun t2 v hp2 gv => ?_
      decreasing_trivial
      rw [q2]
      decreasing_trivial
      refine pair2_ok gc gv ?_
      decreasing_trivial
      refine pair2_ok gc gg ?_
      decreasing_trivial
      exact ⟨_, _, _, _, hp2, rfl⟩
    · have q1 := decide_eq_false e1
      by_cases e2 : d = 2
      · have q2 := decide_eq_true e2
        have q4 := decide_eq_false (show ¬4 < d by omega)
        decreasing_trivial
        rw [q1]
        decreasing_trivial
        refine bent_ok hp1 b1 (by omega) (by omega) fun t2 v hp2 gv => ?_
        decreasing_trivial
        rw [q4]
        decreasing_trivial
        rw [q1]
        decreasing_trivial
        rw [q2]
        decreasing_trivial
        refine draw_ok hp2 (by decide) (by decide) fun t3 d3 hp3 c0 c1 => ?_
        decreasing_trivial
        refine ix_P (P := Gv) c0 c1 ?_ ?_
        · intro u hu
          simp only [List.mem_cons, List.not_mem_nil, or_false] at hu
          rcases hu with rfl | rfl | rfl | rfl | rfl | rfl | rfl | rfl | rfl | rfl
          · exact gv_pe pe_non (fun _ e => by cases e) (sn_non.mono (by decide) (by decide))
          · exact gv_pe (pe_int (by decide)) (fun _ e => by cases e) ((sn_int (by decide)).mono (by decide) (by decide))
          · exact gv_pe (pe_str (by decide +kernel)) (fun _ e => by cases e) ((sn_str (L := 40) (by decide +kernel)).mono (by decide) (by decide))
          · exact ⟨⟨rfl, fun _ e => by cases e⟩, sn_dk0.mono (by decide) (by decide)⟩
          · exact gv_lst (fun x hx => by cases hx) (by decide)
          · exact gv_tup (fun x hx => by cases hx) (by decide)
          · exact gv_pe (pe_str (by decide +kernel)) (fun _ e => by cases e) ((sn_str (L := 40) (by decide +kernel)).mono (by decide) (by decide))
          · refine gv_tup (fun x hx => ?_) (by decide)
            rcases (show x = .tup [.int 1] ∨ x = .tup [.int 0] by simpa using hx) with rfl | rfl
            · exact pe_t1 (by decide)
            · exact pe_t1 (by decide)
          · exact gv_pe pe_bl (fun _ e => by cases e) (sn_bl.mono (by decide) (by decide))
          · exact gv_pe (pe_int (by decide)) (fun _ e => by cases e) ((sn_int (by decide)).mono (by decide) (by decide))
        intro u gu
        decreasing_trivial
        refine draw_ok hp3 (by decide) (by decide) fun t4 d4 hp4 f0 f1 => ?_
        have hd : d4 = 0 ∨ d4 = 1 := by omega
        rcases hd with rfl | rfl
        · decreasing_trivial
          refine pair2_ok gu gg ?_
          decreasing_trivial
          refine pair2_ok gc gg ?_
          decreasing_trivial
          exact ⟨_, _, _, _, hp4, rfl⟩
        · decreasing_trivial
          refine pair2_ok gv gu ?_
          decreasing_trivial
          refine pair2_ok gc gg ?_
          decreasing_trivial
          exact ⟨_, _, _, _, hp4, rfl⟩
      · have q2 := decide_eq_false e2
        by_cases e4 : 4 < d
        · have q4 := decide_eq_true e4
          decreasing_trivial
          rw [q1]
          decreasing_trivial
          refine bent_ok hp1 b1 (by omega) (by omega) fun t2 v hp2 gv => ?_
          decreasing_trivial
          rw [q4]
          decreasing_trivial
          refine bent_ok hp2 b2 (by omega) (by omega) fun t3 u hp3 gu => ?_
          decreasing_trivial
          rw [q1]
          decreasing_trivial
          rw [q2]
          decreasing_trivial
          refine pair2_ok gv gu ?_
          decreasing_trivial
          refine pair2_ok gc gg ?_
          decreasing_trivial
          exact ⟨_, _, _, _, hp3, rfl⟩
        · have q4 := decide_eq_false e4
          decreasing_trivial
          rw [q1]
          decreasing_trivial
          refine bent_ok hp1 b1 (by omega) (by omega) fun t2 v hp2 gv => ?_
          decreasing_trivial
          rw [q4]
          decreasing_trivial
          rw [q1]
          decreasing_trivial
          rw [q2]
          decreasing_trivial
          refine pair2_ok gv gg ?_
          decreasing_trivial
          refine pair2_ok gc gg ?_
          decreasing_trivial
          exact ⟨_, _, _, _, hp2, rfl⟩
  · rintro τ ⟨t, v3, v4, v5, hp, rfl⟩
    decreasing_trivial
    exact k _ hp
end
end K02

namespace K02
open PySem Mc
local macro_rules
  | `(tactic| array_get_dec) => `(tactic| simp (config := {maxSteps := 2000000, dsimp := false, failIfUnchanged := false, implicitDefEqProofs := false}) only [↓uE_ok, ↓uE_ex, ↓uO_some, ↓uO_none, ↓u_eV, ↓u_eC, ↓u_e1, ↓u_e2, ↓u_aNil, ↓u_aCons, ↓u_eArg, ↓uO_oB, ↓u_bV, ↓u_bTr, ↓u_bNt, ↓k_bAn, ↓k_bO, ↓u_bYs, ↓k_eAn, ↓k_eOr, ↓u_eNt, ↓k_eIf, ↓u_eCh, ↓u_ch1, ↓k_ch2, ↓u_nNone, ↓u_nSome, ↓uO_oI, ↓u_eSl, ↓u_eMt, ↓u_dict0, ↓u_dict1, ↓u_ixO, ↓u_lenO, ↓u_tupO, ↓k_appO, ↓k_ext, ↓xL_lst, ↓u_eCall, ↓u_eCallK, ↓o1_eq, ↓k_eCallS, ↓u_eCallT, ↓mk1_eq, ↓u_eMake, ↓u_eMakeK, ↓u_eMeth, ↓u_eProp, ↓u_eFldO, ↓u_eLen, ↓u_lenL, ↓u_lenF, ↓u_lenT, ↓u_lenK, ↓u_nil, ↓u_brk, ↓u_cnt, ↓u_retN, ↓u_no, ↓u_seq, ↓sq_nx, ↓sq_rt, ↓sq_bk, ↓sq_ct, ↓sq_xc, ↓u_drop, ↓u_ret, ↓k_if, ↓u_asg, ↓u_asg2, ↓k_yN, ↓u_yTp, ↓u_ysNil, ↓u_ysCons, ↓xI_int, ↓k_yAt, ↓k_fz, ↓k_asgO, ↓k_par, ↓k_parV, ↓u_evN, ↓u_evV, ↓u_evO, ↓k_aug, ↓k_fldS, ↓k_augS, ↓k_fnT, ↓k_fnTo, ↓fo_rt, ↓fo_xc, ↓u_retO, ↓k_rt, ↓k_nx, ↓k_xc, ↓k_ifW, ↓u_wOf, ↓u_wNt, ↓k_wOr, ↓xB_bl, ↓k_wCall, ↓st_0, ↓st_s, ↓sa_nl, ↓sa_cs, ↓sv_nl, ↓sv_cs, ↓fk_0, ↓fk_f, ↓fk_s, ↓in_z, ↓in_nl, ↓in_cs, ↓ou_nl, ↓ou_0, ↓l_fz0, ↓l_fzs, ↓l_ow0, ↓l_ows, ↓l_oL0, ↓l_oLs, ↓a_add, ↓a_addL, ↓a_addT, ↓a_addS, ↓a_sub, ↓a_mul, ↓a_div, ↓a_mod, ↓a_pow, ↓a_lt, ↓a_le, ↓a_gt, ↓a_ge, ↓a_eqI, ↓a_eqS, ↓a_neI, ↓a_neS, ↓a_neg, ↓a_isN, ↓a_notN, ↓a_ixL, ↓a_ixF, ↓a_ixT, ↓a_ixK, ↓a_at, ↓a_tup, ↓a_lst, ↓a_abs, ↓a_min, ↓a_max, ↓a_divmod, ↓a_tupL, ↓a_tupT, ↓a_listL, ↓a_listT, ↓a_slL, ↓a_slF, ↓a_slT, ↓a_fld, ↓a_ins, ↓a_truB, ↓a_truI, ↓a_truN, ↓a_truL, ↓a_truT, ↓a_sqL, ↓a_sqF, ↓a_sqT, ↓a_sqK, ↓a_rg1, ↓a_rg2, ↓a_lrg, ↓a_enL, ↓a_enT, ↓a_isiI, ↓a_isiB, ↓a_isiN, ↓a_isiS, ↓a_isiL, ↓a_isiT, ↓a_isiD, ↓a_isiC, ↓u_jS, ↓u_jA, ↓k_for, ↓bd_nx, ↓bd_ct, ↓bd_bk, ↓bd_rt, ↓bd_xc, ↓lp_nil, ↓wi_nil, ↓wi_cons, ↓ba_nil, ↓ba_cons, ↓ob_N, ↓ob_S, ↓ob_0, ↓ob_o, ↓ob_n, ↓ob_s, ↓k_lc, ↓lc_nil, ↓k_lc2, ↓lc2_nil, ↓k_raise, zr_1, zr_2, ↓te_nx, ↓te_rt, ↓te_bk, ↓te_ct, ↓ty_nx, ↓ty_rt, ↓ty_bk, ↓ty_ct, ↓ty_xc, ↓k_try, ↓a_xf, ↓a_isx, ↓a_cnt, ↓a_zp2, ↓a_join, ↓xS_str, ↓a_fmtI, ↓a_fmtS, ↓u_js, ↓js_nil, ↓js_cons, ↓u_eStr, ↓u_strI, ↓u_strS, ↓u_strC, fz_0, fz_s, fz_n, fz_o, Option.map_some, Option.map_none, isa_0, isa_1, isa_2, isa_3, isa_4, isa_5, isa_6, isa_7, isa_8, isa_9, isa_10, isa_11, isa_12, isa_13, isa_14, isa_15, isa_16, isa_17, isa_18, isa_19, isa_20, isa_21, isa_22, isa_23, isx_0, isx_1, isx_2, isx_3, isx_4, isx_5, isx_6, isx_7, isx_8, isx_9, isx_10, isx_11, isx_12, isx_13, isx_14, isx_15, isx_16, isx_17, isx_18, isx_19, isx_20, isx_21, isx_22, sne_0, seq_0, sne_1, seq_1, sne_2, seq_2, sne_3, seq_3, sne_4, seq_4, sne_5, seq_5, ↓ik_t, ↓ik_f, List.lookup_cons, List.lookup_nil, beq_self_eq_true, List.contains_cons, List.contains_nil, Bool.and_true, Bool.true_and, Bool.and_false, Bool.false_and, ↓reduceIte, putT, Bool.true_or, Bool.or_true, Bool.or_false, Bool.false_or, at_0, at_1, at_2, at_3, at_4, at_5, at_6, ix_0, ix_1, ix_2, List.set_cons_zero, List.set_cons_succ, decide_true, decide_false, eq_self, List.map_cons, List.map_nil, Bool.not_true, Bool.not_false, Bool.false_eq_true, List.replicate_succ, List.replicate_zero, true_and, and_true, isNon])
local macro_rules
  | `(tactic| get_elem_tactic_trivial) => `(tactic| first
    | assumption
    | omega
    | exact small_l (small_of (by omega) (by omega))
    | exact small_r (small_of (by omega) (by omega))
    | (show _ ≤ lim; simp only [lim, List.length_cons, List.length_nil, List.length_append]; omega)
    | (show _ < lim; simp only [lim, List.length_cons, List.length_nil, List.length_append]; omega)
    | (refine And.intro ?_ ?_; get_elem_tactic_trivial; get_elem_tactic_trivial)
    | (exact inR_of (by omega) (by omega))
    | (simp only [List.length_cons, List.length_nil, List.length_append, List.length_map]; omega)
    | rfl
    | decide
    | decide +kernel)
local macro_rules
  | `(tactic| decreasing_trivial) => `(tactic| (array_get_dec; (repeat ((first | ((with_reducible apply uO_of); (with_reducible exact rfl)) | ((with_reducible apply And.intro); (get_elem_tactic_trivial))); (array_get_dec)))))
section
variable {Q : T → TSt → Prop} {X : TExn → TSt → Prop} {τ : TSt}
theorem a_mulT {v : Int} {n : Int} {Q : T → Prop} (a : 2 ≤ n) (b : n ≤ 1000) : uO (oMul (.tup [.int v]) (.int n)) Q = Q (.tup ((List.replicate n.toNat v).map .int)) := by
  have e : oMul (.tup [.int v]) (.int n) = some (.tup ((List.replicate n.toNat v).map .int)) := by
    have e2 : (List.replicate n.toNat [T.int v]).flatten = (List.replicate n.toNat v).map .int := by
      rw [List.map_replicate]
      generalize n.toNat = k
      induction k with
      | zero => rfl
      | succ k ih => rw [List.replicate_succ, List.flatten_cons, ih, List.replicate_succ]; rfl
    simp only [oMul]
    rw [if_pos ⟨by simp, a, b, by simp⟩, e2]
  rw [e, uO_some]
def Pp (t : T) : Prop := ∃ c g, t = .tup [c, g] ∧ Gv c ∧ Gv g
theorem pi2 {a b : Int} (h : a.natAbs < 10 ^ 25) (h' : b.natAbs < 10 ^ 25) : Gv (.tup [.int a, .int b]) := gv_tup (fun x hx => by
  rcases (show x = .int a ∨ x = .int b by simpa using hx) with rfl | rfl
  · exact pe_int h
  · exact pe_int h') (by simp)
theorem rep_gv {n : Nat} (h : n ≤ 100) : Gv (.tup ((List.replicate n (0 : Int)).map .int)) := gv_ints (fun m hm => by rw [List.eq_of_mem_replicate hm]; decide) (by simp; omega)
theorem hand_ok (k : Q (.bl true) []) : uE (T_by_hand []) Q X := by
  unfold T_by_hand t_by_hand
  decreasing_trivial
  rw [a_mulT (by decide) (by decide)]
  decreasing_trivial
  rw [a_mulT (by decide) (by decide)]
  decreasing_trivial
  rw [a_mulT (by decide) (by decide)]
  decreasing_trivial
  rw [a_mulT (by decide) (by decide)]
  decreasing_trivial
  refine Mc.lc_map (f := fun _ => .bl true) (by decide) ?_ ?_
  · intro i t ht
    have hm := List.mem_of_getElem? ht
    have hp : Pp t := by
      simp only [List.mem_append, List.mem_cons, List.not_mem_nil, or_false] at hm
      rcases hm with ((z | z | z | z | z) | z | z | z | z | z) | z | z | z | z | z
      · exact ⟨_, _, z, rep_gv (by decide), rep_gv (by decide)⟩
      · exact ⟨_, _, z, rep_gv (by decide), rep_gv (by decide)⟩
      · exact ⟨_, _, z, gv_tup (fun x hx => by cases hx) (by decide), gv_tup (fun x hx => by cases hx) (by decide)⟩
      · exact ⟨_, _, z, pi2 (by decide) (by decide), pi2 (by decide) (by decide)⟩
      · exact ⟨_, _, z, pi2 (by decide) (by decide), pi2 (by decide) (by decide)⟩
      · exact ⟨_, _, z, pi2 (by decide) (by decide), pi2 (by decide) (by decide)⟩
      · exact ⟨_, _, z, pi2 (by decide) (by decide), pi2 (by decide) (by decide)⟩
      · exact ⟨_, _, z, pi2 (by decide) (by decide), pi2 (by decide) (by decide)⟩
      · refine ⟨_, _, z, gv_tup (fun x hx => ?_) (by decide), pi2 (by decide) (by decide)⟩
        rcases (show x = .bl true ∨ x = .int 1 by simpa using hx) with rfl | rfl
        · exact pe_bl
        · exact pe_int (by decide)
      · refine ⟨_, _, z, pi2 (by decide) (by decide), gv_tup (fun x hx => ?_) (by decide)⟩
        rcases (show x = .int 0 ∨ x = .bl false by simpa using hx) with rfl | rfl
        · exact pe_int (by decide)
        · exact pe_bl
      · exact ⟨_, _, z, pi2 (by decide) (by decide), pi2 (by decide) (by decide)⟩
      · refine ⟨_, _, z, gv_tup (fun x hx => ?_) (by decide), gv_tup (fun x hx => ?_) (by decide)⟩
        · rcases (show x = .int 0 ∨ x = .int 0 ∨ x = .int 1000 by simpa using hx) with rfl | rfl | rfl <;> exact pe_int (by decide)
        · rcases (show x = .int 0 ∨ x = .int 1 ∨ x = .int 0 by simpa using hx) with rfl | rfl | rfl <;> exact pe_int (by decide)
      · exact ⟨_, _, z, gv_pe pe_non (fun _ e => by cases e) (sn_non.mono (by decide) (by decide)), gv_pe pe_non (fun _ e => by cases e) (sn_non.mono (by decide) (by decide))⟩
      · refine ⟨_, _, z, gv_tup (fun x hx => ?_) (by decide), pi2 (by decide) (by decide)⟩
        rw [List.mem_singleton.mp hx]; exact pe_int (by decide)
      · refine ⟨_, _, z, gv_lst (fun x hx => ?_) (by decide), gv_lst (fun x hx => ?_) (by decide)⟩
        · rw [List.mem_singleton.mp hx]; exact pe_int (by decide)
        · rw [List.mem_singleton.mp hx]; exact pe_int (by decide)
    clear hm ht
    obtain ⟨c, g, rfl, gc, gg⟩ := hp
    unfold t_by_hand_1
    decreasing_trivial
    refine pair2_ok gc gg ?_
    decreasing_trivial
  · decreasing_trivial
    generalize List.length _ = L
    have e : (List.range L).map (fun _ => T.bl true) = (List.replicate L true).map .bl := by
      rw [List.map_replicate]; exact List.eq_replicate_iff.mpr ⟨by simp, by simp⟩
    rw [e, a_all]
    have e : (List.replicate L true).all id = true := by simp
    rw [e]
    decreasing_trivial
    exact k
theorem law_ok {ns : List Int} (h : ns.length ≤ 63) : uE (T_law [.fz (.frl (ns.map .int))]) (fun v _ => v = .bl true) xF := by
  unfold T_law t_law
  decreasing_trivial
  refine hand_ok ?_
  decreasing_trivial
  have hb : ∃ m : Int, (if (if (6 : Int) < ((ns.map T.int).length : Int) then 6 else ((ns.map T.int).length : Int)) > 2 then (if (6 : Int) < ((ns.map T.int).length : Int) then 6 else ((ns.map T.int).length : Int)) else 2) = m ∧ 0 ≤ m ∧ m ≤ 6 := by
    refine ⟨_, rfl, ?_, ?_⟩ <;> (split <;> (try split) <;> omega)
  obtain ⟨m, hm, m0, m6⟩ := hb
  rw [hm]
  decreasing_trivial
  refine Mc.lc_map (f := fun _ => .bl true) (by simp only [rgT, List.length_map, List.length_range, lim]; omega) ?_ ?_
  · intro i u hu
    obtain ⟨hlt, rfl⟩ := rgT_get hu
    unfold t_law_1
    decreasing_trivial
    refine cell_ok (by omega) (by omega) fun n => ?_
    decreasing_trivial
    refine pool_ok fun t hp => ?_
    decreasing_trivial
    refine right_ok hp fun t' _ => ?_
    decreasing_trivial
  · decreasing_trivial
    have e : (List.range (rgT 0 m.toNat).length).map (fun _ => T.bl true) = (List.replicate (rgT 0 m.toNat).length true).map .bl := by
      rw [List.map_replicate]; exact List.eq_replicate_iff.mpr ⟨by simp, by simp⟩
    rw [e, a_all]
    have e : (List.replicate (rgT 0 m.toNat).length true).all id = true := by simp
    rw [e]
    decreasing_trivial
theorem plain (ns : List Int) (h : ns.length ≤ 63) : ∃ h', F_law [.ref 0] [.frl (ns.map W.int)] = .ok (.bl true) h' := by
  obtain ⟨v, τ, e, rfl⟩ := uE.get (law_ok h)
  exact law_tree sim_law ⟨τ, e⟩
end
end K02

theorem PySem.Challenge.cw_staycounts_k02_counts_refused_holds : PySem.Challenge.rw_staycounts_k02_counts_refused.Holds := by
  exact K02.holds_of K02.plain
