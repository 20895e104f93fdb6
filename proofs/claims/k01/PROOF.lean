import PyProof.Rows.All
import Wide.All
import OpenK.AllK
import Wide.FinOn
import HandS.ForMost
import HandS.DictComp
import HandS.Property
import HandS.Conv
import HandS.Sort
import HandS.Deep
import HandS.ExcInit
import HandS.ExcField
import HandS.HeadHook1
import PyProof.ReprRoads
import HandS.DeepEq
import HandS.SortInts
import HandS.SortRule
import HandS.RaiseMore
import HandS.Style
import HandS.IsInst
import PyProof.DictUpdate
import PyProof.StrOps2
import HandS.Small
import KE.KExcIs
import KE.KIsAll
import HandS.Walk
import KE.GoesEnum
import KE.GoesMore
import HandS.NoneIn
import HandS.HeadHook2
import HandS.Head0
import HandS.Head1
import HandS.Head2
import HandS.HeadEnd
import HandS.MakeKwOnly
import HandS.OwnEq
import PyProof.InstNe
import HandS.Ends
import HandS.MakeKw
import HandS.Nested
import KE.KExcSuper
import HandS.ExcOwn
import HandS.ExcValue
import KE.KStateDown
import Lean
import HandS.Words
import HandS.WordsExc
import PySem.Challenge.RW_fittrees_k01_errors_made
import PyProof.ReprLen
import PyProof.Rows.StrIntSpec
set_option Elab.async false
set_option linter.all false
set_option maxRecDepth 100000
set_option autoImplicit false
namespace FT
open PySem PySem.Spec PyProof.Rows L2

/-- plain data -/
inductive D where
  | non | bl (b : Bool) | int (i : Int) | str (s : Str)
  | lst (xs : List D) | tup (xs : List D) | dic (kvs : List (Key × D)) | ins (c : Nat) (fs : List (Str × D)) | scr (ns : List Int) | any | exc (c : Nat) (d : D)

/-- what stands fixed: the written part, the classes' addresses -/
structure G where
  K : PySem.W.Frag
  cl : Nat → Addr
  cn : Nat → Option Str
  xc : Nat → Option Str
/-- an own exception class's place -/
def exA (g : G) (c : Nat) : Addr := He.ga g.K ((g.xc c).getD Str.empty)

mutual
def Rep (g : G) (F : Hp) : D → V → Prop
  | .non, v => v = .non
  | .bl b, v => v = .bl b
  | .int i, v => v = .int i
  | .str s, v => v = .str s ∧ s.length ≤ sizeLine ∧ s.cps.all (· < 0x110000) = true
  | .lst ds, v => ∃ a vs, v = .ref a ∧ F a = some (.lst vs) ∧ ds.length ≤ sizeLine ∧ RepL g F ds vs
  | .tup ds, v => ∃ a vs, v = .ref a ∧ F a = some (.tup vs) ∧ ds.length ≤ sizeLine ∧ RepL g F ds vs
  | .dic kds, v => ∃ a kvs, v = .ref a ∧ F a = some (.dK kvs) ∧ kds.length ≤ sizeLine ∧ RepK g F kds kvs
  | .ins c fs, v => ∃ a dx vs, v = .ref a ∧ F a = some (.ins (g.cl c) dx vs) ∧ (g.cn c).isSome = true ∧ RepF g F fs vs
  | .scr ns, v => ∃ a, v = .ref a ∧ SqL g.K F a (ns.map V.int) ∧ ns.length ≤ sizeLine
  | .any, v => ∃ a, v = .ref a
  | .exc c d, v => ∃ a dx u, v = .ref a ∧ F a = some (exo a (exA g c) (some dx)) ∧ F dx = some (exd dx [("value", u)]) ∧ (g.xc c).isSome = true ∧ Rep g F d u
def RepL (g : G) (F : Hp) : List D → List V → Prop
  | [], vs => vs = []
  | d :: ds, vs => ∃ v vr, vs = v :: vr ∧ Rep g F d v ∧ RepL g F ds vr
def RepK (g : G) (F : Hp) : List (Key × D) → List (Key × V) → Prop
  | [], vs => vs = []
  | (k, d) :: ds, vs => ∃ v vr, vs = (k, v) :: vr ∧ Rep g F d v ∧ RepK g F ds vr
def RepF (g : G) (F : Hp) : List (Str × D) → List (Str × V) → Prop
  | [], vs => vs = []
  | (k, d) :: ds, vs => ∃ v vr, vs = (k, v) :: vr ∧ Rep g F d v ∧ RepF g F ds vr
end

mutual
theorem Rep.mono {g : G} {F F' : Hp} (h : Same F F') : ∀ {d : D} {v : V}, Rep g F d v → Rep g F' d v
  | .non, _, r => r
  | .bl _, _, r => r
  | .int _, _, r => r
  | .str _, _, r => r
  | .lst ds, _, ⟨a, vs, e, q, l, r⟩ => ⟨a, vs, e, h _ _ q, l, RepL.mono h r⟩
  | .tup ds, _, ⟨a, vs, e, q, l, r⟩ => ⟨a, vs, e, h _ _ q, l, RepL.mono h r⟩
  | .dic ds, _, ⟨a, vs, e, q, l, r⟩ => ⟨a, vs, e, h _ _ q, l, RepK.mono h r⟩
  | .ins c fs, _, ⟨a, dx, vs, e, q, n, r⟩ => ⟨a, dx, vs, e, h _ _ q, n, RepF.mono h r⟩
  | .scr ns, _, ⟨a, e, q, l⟩ => ⟨a, e, h.seq q, l⟩
  | .any, _, r => r
  | .exc c d, _, ⟨a, dx, u, e, q, q2, n, r⟩ => ⟨a, dx, u, e, h _ _ q, h _ _ q2, n, Rep.mono h r⟩
theorem RepL.mono {g : G} {F F' : Hp} (h : Same F F') : ∀ {d : List D} {v : List V}, RepL g F d v → RepL g F' d v
  | [], _, r => r
  | _ :: _, _, ⟨v, vr, e, q, r⟩ => ⟨v, vr, e, Rep.mono h q, RepL.mono h r⟩
theorem RepK.mono {g : G} {F F' : Hp} (h : Same F F') : ∀ {d : List (Key × D)} {v : List (Key × V)}, RepK g F d v → RepK g F' d v
  | [], _, r => r
  | (_, _) :: _, _, ⟨v, vr, e, q, r⟩ => ⟨v, vr, e, Rep.mono h q, RepK.mono h r⟩
theorem RepF.mono {g : G} {F F' : Hp} (h : Same F F') : ∀ {d : List (Str × D)} {v : List (Str × V)}, RepF g F d v → RepF g F' d v
  | [], _, r => r
  | (_, _) :: _, _, ⟨v, vr, e, q, r⟩ => ⟨v, vr, e, Rep.mono h q, RepF.mono h r⟩
end

def D.flat : D → Bool
  | .non => true | .bl _ => true | .int _ => true | .str _ => true | _ => false
theorem Rep.flat {g : G} {F F' : Hp} {d : D} {v : V} (h : d.flat = true) (r : Rep g F d v) : Rep g F' d v := by
  cases d <;> first | exact r | cases h
/-- a slot: nothing, a shared value, one that stands alone -/
inductive Sl where
  | un | sh (d : D) | ow (d : D)
def Sl.d : Sl → D
  | .un => .non | .sh d => d | .ow d => d
def RepO (g : G) (F : Hp) : D → HO → Prop
  | .lst ds, o => ∃ vs, o = .lst vs ∧ ds.length ≤ sizeLine ∧ RepL g F ds vs
  | .dic kds, o => ∃ kvs, o = .dK kvs ∧ kds.length ≤ sizeLine ∧ RepK g F kds kvs
  | _, _ => False
theorem RepO.mono {g : G} {F F' : Hp} {d : D} {o : HO} (h : Same F F') (r : RepO g F d o) : RepO g F' d o := by
  cases d with
  | lst ds => obtain ⟨vs, e, l, r⟩ := r; exact ⟨vs, e, l, r.mono h⟩
  | dic ds => obtain ⟨vs, e, l, r⟩ := r; exact ⟨vs, e, l, r.mono h⟩
  | _ => exact r
theorem RepO.rep {g : G} {F : Hp} {d : D} {o : HO} {a : Addr} (h : F a = some o) (r : RepO g F d o) : Rep g F d (.ref a) := by
  cases d with
  | lst ds => obtain ⟨vs, rfl, l, r⟩ := r; exact ⟨a, vs, rfl, h, l, r⟩
  | dic ds => obtain ⟨vs, rfl, l, r⟩ := r; exact ⟨a, vs, rfl, h, l, r⟩
  | _ => exact r.elim
structure SR (g : G) (F : Hp) (ρ : List Sl) (σ : L2.St) (H : Hp) : Prop where
  sub : Same F H
  len : ρ.length = σ.length
  sh : ∀ (i : Nat) (d : D), ρ[i]? = some (Sl.sh d) → ∃ v, σ[i]? = some (some v) ∧ Rep g F d v
  ow : ∀ (i : Nat) (d : D), ρ[i]? = some (Sl.ow d) → ∃ a o, σ[i]? = some (some (V.ref a)) ∧ F a = none ∧ H a = some o ∧ RepO g F d o
  inj : ∀ (i j : Nat) (d d' : D) (a : Addr), ρ[i]? = some (Sl.ow d) → ρ[j]? = some (Sl.ow d') → σ[i]? = some (some (V.ref a)) → σ[j]? = some (some (V.ref a)) → i = j
def OwnA (ρ : List Sl) (σ : L2.St) (a : Addr) : Prop := ∃ (i : Nat) (d : D), ρ[i]? = some (Sl.ow d) ∧ σ[i]? = some (some (V.ref a))
structure Stp (ρ : List Sl) (σ : L2.St) (F H : Hp) (ρ' : List Sl) (σ' : L2.St) (F' H' : Hp) : Prop where
  sub : Same F F'
  keep : ∀ (a : Addr) (o : HO), H a = some o → ¬ OwnA ρ σ a → H' a = some o
  newF : ∀ (a : Addr), F' a ≠ none → F a ≠ none ∨ H a = none ∨ OwnA ρ σ a
  own : ∀ (a : Addr), OwnA ρ' σ' a → OwnA ρ σ a ∨ H a = none
  grow : ∀ (a : Addr), H' a = none → H a = none
section
variable {g : G} {ρ ρ' ρ1 ρ2 : List Sl} {σ σ' σ1 σ2 : L2.St} {F F' F1 F2 H H' H1 H2 : Hp}
theorem Stp.refl : Stp ρ σ F H ρ σ F H := ⟨Same.refl _, fun _ _ h _ => h, fun _ h => .inl h, fun _ h => .inl h, fun _ h => h⟩
theorem Stp.trans (A : Stp ρ σ F H ρ1 σ1 F1 H1) (B : Stp ρ1 σ1 F1 H1 ρ2 σ2 F2 H2) : Stp ρ σ F H ρ2 σ2 F2 H2 where
  sub := A.sub.trans B.sub
  keep := fun a o h n => B.keep a o (A.keep a o h n) fun z => by
    rcases A.own a z with z | z
    · exact n z
    · rw [h] at z; cases z
  newF := fun a h => by
    rcases B.newF a h with z | z | z
    · exact A.newF a z
    · exact .inr (.inl (A.grow a z))
    · rcases A.own a z with z | z
      · exact .inr (.inr z)
      · exact .inr (.inl z)
  own := fun a h => by
    rcases B.own a h with z | z
    · exact A.own a z
    · exact .inr (A.grow a z)
  grow := fun a h => A.grow a (B.grow a h)
theorem same_upd {H : Hp} {p : Addr} {o : HO} (h : H p = none) : Same H (upd H p o) := fun b x e => by
  rw [upd_ne (ne_of_none e h)]; exact e
theorem same_upd2 {F H : Hp} {p : Addr} {o : HO} (h : Same F H) : Same (upd F p o) (upd H p o) := fun b x e => by
  by_cases z : b = p
  · subst z; rw [upd_same] at e ⊢; exact e
  · rw [upd_ne z] at e ⊢; exact h _ _ e
/-- a new frozen object -/
theorem SR.newF (S : SR g F ρ σ H) {p : Addr} {o : HO} (hp : H p = none) : SR g (upd F p o) ρ σ (upd H p o) ∧ Stp ρ σ F H ρ σ (upd F p o) (upd H p o) := by
  have fp : F p = none := S.sub.free hp
  refine ⟨⟨same_upd2 S.sub, S.len, fun i d e => ?_, fun i d e => ?_, S.inj⟩, ⟨same_upd fp, fun a o h _ => ?_, fun a h => ?_, fun a h => .inl h, fun a h => ?_⟩⟩
  · obtain ⟨v, e1, r⟩ := S.sh i d e; exact ⟨v, e1, r.mono (same_upd fp)⟩
  · obtain ⟨a, x, e1, e2, e3, r⟩ := S.ow i d e
    have ne : a ≠ p := ne_of_none e3 hp
    exact ⟨a, x, e1, by rw [upd_ne ne]; exact e2, by rw [upd_ne ne]; exact e3, r.mono (same_upd fp)⟩
  · rw [upd_ne (ne_of_none h hp)]; exact h
  · by_cases z : a = p
    · subst z; exact .inr (.inl hp)
    · rw [upd_ne z] at h; exact .inl h
  · by_cases z : a = p
    · subst z; exact hp
    · rw [upd_ne z] at h; exact h
/-- a new object that is tracked alone -/
theorem SR.newH (S : SR g F ρ σ H) {p : Addr} {o : HO} (hp : H p = none) : SR g F ρ σ (upd H p o) ∧ Stp ρ σ F H ρ σ F (upd H p o) := by
  refine ⟨⟨S.sub.trans (same_upd hp), S.len, S.sh, fun i d e => ?_, S.inj⟩, ⟨Same.refl _, fun a o h _ => ?_, fun a h => .inl h, fun a h => .inl h, fun a h => ?_⟩⟩
  · obtain ⟨a, x, e1, e2, e3, r⟩ := S.ow i d e
    exact ⟨a, x, e1, e2, by rw [upd_ne (ne_of_none e3 hp)]; exact e3, r⟩
  · rw [upd_ne (ne_of_none h hp)]; exact h
  · by_cases z : a = p
    · subst z; exact hp
    · rw [upd_ne z] at h; exact h
/-- an object that is tracked, of nobody's, is frozen -/
theorem SR.fix (S : SR g F ρ σ H) {p : Addr} {o : HO} (hp : H p = some o) (fp : F p = none) (no : ¬ OwnA ρ σ p) : SR g (upd F p o) ρ σ H := by
  refine ⟨fun b x e => ?_, S.len, fun i d e => ?_, fun i d e => ?_, S.inj⟩
  · by_cases z : b = p
    · subst z; rw [upd_same] at e; cases e; exact hp
    · rw [upd_ne z] at e; exact S.sub _ _ e
  · obtain ⟨v, e1, r⟩ := S.sh i d e; exact ⟨v, e1, r.mono (same_upd fp)⟩
  · obtain ⟨a, x, e1, e2, e3, r⟩ := S.ow i d e
    have ne : a ≠ p := fun z => no ⟨i, d, e, by rw [← z]; exact e1⟩
    exact ⟨a, x, e1, by rw [upd_ne ne]; exact e2, e3, r.mono (same_upd fp)⟩
/-- a slot that stands alone is given out -/
theorem SR.freeze (S : SR g F ρ σ H) {i : Nat} {d : D} (e : ρ[i]? = some (Sl.ow d)) : ∃ F' v, SR g F' (ρ.set i (Sl.sh d)) σ H ∧ Stp ρ σ F H (ρ.set i (Sl.sh d)) σ F' H ∧ σ[i]? = some (some v) ∧ Rep g F' d v := by
  obtain ⟨a, o, e1, e2, e3, r⟩ := S.ow i d e
  have hi : i < ρ.length := (List.getElem?_eq_some_iff.mp e).1
  have rr : Rep g (upd F a o) d (.ref a) := RepO.rep upd_same (r.mono (same_upd e2))
  refine ⟨upd F a o, .ref a, ⟨fun b x e => ?_, by rw [List.length_set]; exact S.len, fun j d' ej => ?_, fun j d' ej => ?_, fun j k d1 d2 b ej ek => ?_⟩, ⟨same_upd e2, fun b x h _ => h, fun b h => ?_, fun b h => ?_, fun b h => h⟩, e1, rr⟩
  · by_cases z : b = a
    · subst z; rw [upd_same] at e; cases e; exact e3
    · rw [upd_ne z] at e; exact S.sub _ _ e
  · by_cases z : i = j
    · subst z
      rw [List.getElem?_set_self hi] at ej; cases ej
      exact ⟨_, e1, rr⟩
    · rw [List.getElem?_set_ne z] at ej
      obtain ⟨v, q1, q2⟩ := S.sh j d' ej; exact ⟨v, q1, q2.mono (same_upd e2)⟩
  · by_cases z : i = j
    · subst z
      rw [List.getElem?_set_self hi] at ej; cases ej
    · rw [List.getElem?_set_ne z] at ej
      obtain ⟨b, x, q1, q2, q3, q4⟩ := S.ow j d' ej
      have ne : b ≠ a := fun y => z (S.inj i j d d' a e ej e1 (by rw [← y]; exact q1))
      exact ⟨b, x, q1, by rw [upd_ne ne]; exact q2, q3, q4.mono (same_upd e2)⟩
  · by_cases z : i = j
    · subst z; rw [List.getElem?_set_self hi] at ej; cases ej
    · by_cases y : i = k
      · subst y; rw [List.getElem?_set_self hi] at ek; cases ek
      · rw [List.getElem?_set_ne z] at ej; rw [List.getElem?_set_ne y] at ek
        exact S.inj j k d1 d2 b ej ek
  · by_cases z : b = a
    · subst z; exact .inr (.inr ⟨i, d, e, e1⟩)
    · rw [upd_ne z] at h; exact .inl h
  · obtain ⟨j, d', ej, es⟩ := h
    by_cases z : i = j
    · subst z; rw [List.getElem?_set_self hi] at ej; cases ej
    · rw [List.getElem?_set_ne z] at ej; exact .inl ⟨j, d', ej, es⟩
/-- the object of a slot that stands alone is changed -/
theorem SR.write (S : SR g F ρ σ H) {i : Nat} {d d' : D} {a : Addr} {o' : HO} (e : ρ[i]? = some (Sl.ow d)) (ea : σ[i]? = some (some (V.ref a))) (r : RepO g F d' o') :
    SR g F (ρ.set i (Sl.ow d')) σ (upd H a o') ∧ Stp ρ σ F H (ρ.set i (Sl.ow d')) σ F (upd H a o') := by
  obtain ⟨a', o, e1, e2, e3, _⟩ := S.ow i d e
  obtain rfl : a' = a := by rw [ea] at e1; injection e1 with e1; injection e1 with e1; injection e1 with e1; exact e1.symm
  have hi : i < ρ.length := (List.getElem?_eq_some_iff.mp e).1
  refine ⟨⟨fun b x eb => ?_, by rw [List.length_set]; exact S.len, fun j d' ej => ?_, fun j d' ej => ?_, fun j k d1 d2 b ej ek => ?_⟩, ⟨Same.refl _, fun b x h n => ?_, fun b h => .inl h, fun b h => .inl ?_, fun b h => ?_⟩⟩
  · have ne : b ≠ a' := fun z => by subst z; rw [e2] at eb; cases eb
    rw [upd_ne ne]; exact S.sub _ _ eb
  · by_cases z : i = j
    · subst z; rw [List.getElem?_set_self hi] at ej; cases ej
    · rw [List.getElem?_set_ne z] at ej; exact S.sh j d' ej
  · by_cases z : i = j
    · subst z
      rw [List.getElem?_set_self hi] at ej; cases ej
      exact ⟨a', o', ea, e2, upd_same, r⟩
    · rw [List.getElem?_set_ne z] at ej
      obtain ⟨b, x, q1, q2, q3, q4⟩ := S.ow j d' ej
      have ne : b ≠ a' := fun y => z (S.inj i j d d' a' e ej e1 (by rw [← y]; exact q1))
      exact ⟨b, x, q1, q2, by rw [upd_ne ne]; exact q3, q4⟩
  · have key : ∀ (m : Nat) (dm : D), (ρ.set i (Sl.ow d'))[m]? = some (Sl.ow dm) → ∃ dm', ρ[m]? = some (Sl.ow dm') := fun m dm em => by
      by_cases z : i = m
      · subst z; exact ⟨d, e⟩
      · rw [List.getElem?_set_ne z] at em; exact ⟨_, em⟩
    obtain ⟨_, ej'⟩ := key j _ ej
    obtain ⟨_, ek'⟩ := key k _ ek
    exact S.inj j k _ _ b ej' ek'
  · have ne : b ≠ a' := fun z => n ⟨i, d, e, by rw [z]; exact ea⟩
    rw [upd_ne ne]; exact h
  · obtain ⟨j, dj, ej, es⟩ := h
    by_cases z : i = j
    · subst z; exact ⟨i, d, e, es⟩
    · rw [List.getElem?_set_ne z] at ej; exact ⟨j, dj, ej, es⟩
  · by_cases z : b = a'
    · subst z; rw [upd_same] at h; cases h
    · rw [upd_ne z] at h; exact h
/-- a slot takes a shared value -/
theorem SR.setSh (S : SR g F ρ σ H) {i : Nat} {d : D} {v : V} (r : Rep g F d v) : SR g F (ρ.set i (Sl.sh d)) (σ.set i (some v)) H ∧ Stp ρ σ F H (ρ.set i (Sl.sh d)) (σ.set i (some v)) F H := by
  have key : ∀ (m : Nat) (dm : D), (ρ.set i (Sl.sh d))[m]? = some (Sl.ow dm) → ρ[m]? = some (Sl.ow dm) ∧ (σ.set i (some v))[m]? = σ[m]? := fun m dm em => by
    by_cases z : i = m
    · subst z
      by_cases hi : i < ρ.length
      · rw [List.getElem?_set_self hi] at em; cases em
      · rw [List.getElem?_eq_none (by rw [List.length_set]; omega)] at em; cases em
    · rw [List.getElem?_set_ne z] at em; exact ⟨em, by rw [List.getElem?_set_ne z]⟩
  refine ⟨⟨S.sub, by rw [List.length_set, List.length_set]; exact S.len, fun j d' ej => ?_, fun j d' ej => ?_, fun j k d1 d2 b ej ek es et => ?_⟩, ⟨Same.refl _, fun b x h n => h, fun b h => .inl h, fun b h => .inl ?_, fun b h => h⟩⟩
  · by_cases z : i = j
    · subst z
      have hi : i < ρ.length := by
        have := (List.getElem?_eq_some_iff.mp ej).1
        rwa [List.length_set] at this
      rw [List.getElem?_set_self hi] at ej; cases ej
      exact ⟨v, by rw [List.getElem?_set_self (by rw [← S.len]; exact hi)], r⟩
    · rw [List.getElem?_set_ne z] at ej
      obtain ⟨u, q1, q2⟩ := S.sh j d' ej
      exact ⟨u, by rw [List.getElem?_set_ne z]; exact q1, q2⟩
  · obtain ⟨e1, e2⟩ := key j d' ej
    rw [e2]; exact S.ow j d' e1
  · obtain ⟨e1, e2⟩ := key j _ ej
    obtain ⟨e3, e4⟩ := key k _ ek
    rw [e2] at es; rw [e4] at et
    exact S.inj j k _ _ b e1 e3 es et
  · obtain ⟨j, dj, ej, es⟩ := h
    obtain ⟨e1, e2⟩ := key j _ ej
    rw [e2] at es
    exact ⟨j, dj, e1, es⟩
/-- a slot takes a new object -/
theorem SR.setOw (S : SR g F ρ σ H) {i : Nat} {d : D} {a : Addr} {o : HO} (r : RepO g F d o) (fa : F a = none) (ha : H a = some o) (no : ¬ OwnA ρ σ a) :
    SR g F (ρ.set i (Sl.ow d)) (σ.set i (some (V.ref a))) H := by
  have key : ∀ (m : Nat) (dm : D), i ≠ m → (ρ.set i (Sl.ow d))[m]? = some (Sl.ow dm) → ρ[m]? = some (Sl.ow dm) ∧ (σ.set i (some (V.ref a)))[m]? = σ[m]? := fun m dm z em => by
    rw [List.getElem?_set_ne z] at em; exact ⟨em, by rw [List.getElem?_set_ne z]⟩
  have self : ∀ (dm : D), (ρ.set i (Sl.ow d))[i]? = some (Sl.ow dm) → dm = d ∧ (σ.set i (some (V.ref a)))[i]? = some (some (V.ref a)) := fun dm em => by
    have hi : i < ρ.length := by
      have := (List.getElem?_eq_some_iff.mp em).1
      rwa [List.length_set] at this
    rw [List.getElem?_set_self hi] at em
    cases em
    exact ⟨rfl, by rw [List.getElem?_set_self (by rw [← S.len]; exact hi)]⟩
  refine ⟨S.sub, by rw [List.length_set, List.length_set]; exact S.len, fun j d' ej => ?_, fun j d' ej => ?_, fun j k d1 d2 b ej ek es et => ?_⟩
  · by_cases z : i = j
    · subst z
      have hi : i < ρ.length := by
        have := (List.getElem?_eq_some_iff.mp ej).1
        rwa [List.length_set] at this
      rw [List.getElem?_set_self hi] at ej; cases ej
    · rw [List.getElem?_set_ne z] at ej
      obtain ⟨u, q1, q2⟩ := S.sh j d' ej
      exact ⟨u, by rw [List.getElem?_set_ne z]; exact q1, q2⟩
  · by_cases z : i = j
    · subst z
      obtain ⟨rfl, e2⟩ := self _ ej
      exact ⟨a, o, e2, fa, ha, r⟩
    · obtain ⟨e1, e2⟩ := key j d' z ej
      rw [e2]; exact S.ow j d' e1
  · by_cases z : i = j
    · by_cases y : i = k
      · exact z.symm.trans y
      · subst z
        obtain ⟨_, e2⟩ := self _ ej
        rw [e2] at es; cases es
        obtain ⟨e3, e4⟩ := key k _ y ek
        rw [e4] at et
        exact absurd ⟨k, _, e3, et⟩ no
    · obtain ⟨e1, e2⟩ := key j _ z ej
      rw [e2] at es
      by_cases y : i = k
      · subst y
        obtain ⟨_, e4⟩ := self _ ek
        rw [e4] at et; cases et
        exact absurd ⟨j, _, e1, es⟩ no
      · obtain ⟨e3, e4⟩ := key k _ y ek
        rw [e4] at et
        exact S.inj j k _ _ b e1 e3 es et
theorem OwnA.setOw {i : Nat} {d : D} {a b : Addr} (h : OwnA (ρ.set i (Sl.ow d)) (σ.set i (some (V.ref a))) b) : OwnA ρ σ b ∨ b = a := by
  obtain ⟨j, dj, ej, es⟩ := h
  by_cases z : i = j
  · subst z
    have hi : i < (σ.set i (some (V.ref a))).length := (List.getElem?_eq_some_iff.mp es).1
    rw [List.length_set] at hi
    rw [List.getElem?_set_self hi] at es
    cases es
    exact .inr rfl
  · rw [List.getElem?_set_ne z] at ej es
    exact .inl ⟨j, dj, ej, es⟩
end
/-! ### raw values: shared, or a slot's own -/
def cur (s : Option Nat) (d : D) (ρ : List Sl) : Option D := match s with
  | none => some d
  | some i => match ρ[i]? with
    | some (Sl.sh d) => some d
    | some (Sl.ow d) => some d
    | _ => none
def frz (s : Option Nat) (ρ : List Sl) : List Sl := match s with
  | none => ρ
  | some i => match ρ[i]? with
    | some (Sl.ow d) => ρ.set i (Sl.sh d)
    | _ => ρ
/-- lists and dicts alone can be a slot's own -/
def D.coll : D → Bool
  | .lst _ => true | .dic _ => true | _ => false
theorem RepO.coll {g : G} {F : Hp} {d : D} {o : HO} (r : RepO g F d o) : d.coll = true := by
  cases d <;> first | rfl | exact r.elim
def VR (g : G) (F : Hp) (σ : L2.St) (s : Option Nat) (d : D) (v : V) : Prop := match s with
  | none => Rep g F d v
  | some i => σ[i]? = some (some v) ∧ d.coll = true
theorem VR.rep {g : G} {F : Hp} {σ : L2.St} {s : Option Nat} {d : D} {v : V} (r : VR g F σ s d v) (h : d.coll = false) : Rep g F d v := by
  cases s with
  | none => exact r
  | some i => rw [r.2] at h; cases h
theorem VR.mono {g : G} {F F' : Hp} {σ : L2.St} {s : Option Nat} {d : D} {v : V} (h : Same F F') (r : VR g F σ s d v) : VR g F' σ s d v := by
  cases s with
  | none => exact Rep.mono h r
  | some i => exact r
/-- what is read there now -/
def RdV (g : G) (F H : Hp) (d : D) (v : V) : Prop := match d with
  | .lst ds => ∃ a vs, v = .ref a ∧ H a = some (.lst vs) ∧ ds.length ≤ sizeLine ∧ RepL g F ds vs
  | .dic ds => ∃ a vs, v = .ref a ∧ H a = some (.dK vs) ∧ ds.length ≤ sizeLine ∧ RepK g F ds vs
  | d => Rep g F d v
section
variable {g : G} {ρ ρ' : List Sl} {σ : L2.St} {F F' H : Hp} {s : Option Nat} {d d' : D} {v : V}
theorem Rep.rd (sub : Same F H) (r : Rep g F d v) : RdV g F H d v := by
  cases d with
  | lst ds => obtain ⟨a, vs, e, q, l, r⟩ := r; exact ⟨a, vs, e, sub _ _ q, l, r⟩
  | dic ds => obtain ⟨a, vs, e, q, l, r⟩ := r; exact ⟨a, vs, e, sub _ _ q, l, r⟩
  | _ => exact r
theorem SR.rd (S : SR g F ρ σ H) (r : VR g F σ s d v) (c : cur s d ρ = some d') : RdV g F H d' v := by
  cases s with
  | none => cases c; exact Rep.rd S.sub r
  | some i =>
    unfold cur at c
    dsimp only at c
    have r : σ[i]? = some (some v) := r.1
    split at c
    · rename_i d e
      cases c
      obtain ⟨u, e1, q⟩ := S.sh i _ e
      rw [r] at e1; cases e1
      exact Rep.rd S.sub q
    · rename_i d e
      cases c
      obtain ⟨a, o, e1, e2, e3, q⟩ := S.ow i _ e
      rw [r] at e1; cases e1
      cases d' with
      | lst ds => obtain ⟨vs, rfl, l, q⟩ := q; exact ⟨a, vs, rfl, e3, l, q⟩
      | dic ds => obtain ⟨vs, rfl, l, q⟩ := q; exact ⟨a, vs, rfl, e3, l, q⟩
      | _ => exact q.elim
    · cases c
theorem SR.frz (S : SR g F ρ σ H) (r : VR g F σ s d v) (c : cur s d ρ = some d') : ∃ F', SR g F' (frz s ρ) σ H ∧ Stp ρ σ F H (FT.frz s ρ) σ F' H ∧ Rep g F' d' v := by
  cases s with
  | none => cases c; exact ⟨F, S, .refl, r⟩
  | some i =>
    unfold cur at c
    unfold FT.frz
    dsimp only at c ⊢
    have r : σ[i]? = some (some v) := r.1
    split at c
    · rename_i d e
      cases c
      obtain ⟨u, e1, q⟩ := S.sh i _ e
      rw [r] at e1; cases e1
      rw [e]
      exact ⟨F, S, .refl, q⟩
    · rename_i d e
      cases c
      obtain ⟨F', u, S', T, e1, q⟩ := S.freeze e
      rw [r] at e1; cases e1
      rw [e]
      exact ⟨F', S', T, q⟩
    · cases c
end
end FT

set_option Elab.async false
set_option linter.all false
set_option maxRecDepth 100000
set_option autoImplicit false
namespace FT
open PySem PySem.Spec PyProof.Rows L2
/-! ### what operators do on data -/
def b2i (b : Bool) : Int := if b then 1 else 0
mutual
def eqB : D → D → Bool
  | .non, .non => true
  | .bl a, .bl b => a == b
  | .bl a, .int j => decide (b2i a = j)
  | .int i, .bl b => decide (i = b2i b)
  | .int i, .int j => decide (i = j)
  | .str a, .str b => decide (a = b)
  | .lst a, .lst b => eqL a b
  | .tup a, .tup b => eqL a b
  | _, _ => false
def eqL : List D → List D → Bool
  | [], [] => true
  | a :: as, b :: bs => eqB a b && eqL as bs
  | _, _ => false
end
def okN : Nat → D → Bool
  | _, .non => true
  | _, .bl _ => true
  | _, .int _ => true
  | _, .str _ => true
  | n + 1, .lst ds => ds.all (okN n)
  | n + 1, .tup ds => ds.all (okN n)
  | _, _ => false
abbrev okD : D → Bool := okN 8
def isNon : D → Bool
  | .non => true | _ => false
def keyD : D → Option Key
  | .int i => some (.inl i) | .str s => some (.inr s) | _ => none
def kD : Key → D
  | .inl i => .int i | .inr s => .str s
def valD (kvs : List (Key × D)) (k : Key) : Option D := (kvs.find? fun kv => decide (kv.1 = k)).map (·.2)
def putD (kvs : List (Key × D)) (k : Key) (v : D) : List (Key × D) :=
  bif kvs.any (fun kv => decide (kv.1 = k)) then kvs.map (fun kv => if kv.1 = k then (kv.1, v) else kv) else kvs ++ [(k, v)]
def mergeD (kvs more : List (Key × D)) : List (Key × D) := more.foldl (fun acc kv => putD acc kv.1 kv.2) kvs
def ltS (a b : Str) : Bool := decide (a.cps.toList < b.cps.toList)
def dicFlat (a : List (Key × D)) : Bool := a.all fun e => e.2.flat
/-- == of dicts of flat values -/
def eqD1 (a b : List (Key × D)) : Bool := decide (a.length = b.length) && a.all fun e => match valD b e.1 with
  | some w => eqB e.2 w
  | none => false
def dic1 : D → Bool
  | .dic a => dicFlat a && decide ((a.map fun e => e.1).Nodup)
  | _ => false
def eqDv : D → D → Bool
  | .dic a, .dic b => eqD1 a b
  | _, _ => false
/-- == of dicts of dicts -/
def eqD2 (a b : List (Key × D)) : Bool := decide (a.length = b.length) && a.all fun e => match valD b e.1 with
  | some w => eqDv e.2 w
  | none => false
def dicEq : D → D → Option Bool
  | .dic a, .dic b => bif dicFlat a && dicFlat b then some (eqD1 a b) else bif (a.all fun e => dic1 e.2) && (b.all fun e => dic1 e.2) then some (eqD2 a b) else none
  | _, _ => none
def cmpD : CmpOp → D → D → Option Bool
  | .Eq, a, b => bif okD a && okD b then some (eqB a b) else dicEq a b
  | .NotEq, a, b => bif okD a && okD b then some (!eqB a b) else none
  | .Lt, .int i, .int j => some (decide (i < j))
  | .LtE, .int i, .int j => some (decide (i ≤ j))
  | .Gt, .int i, .int j => some (decide (j < i))
  | .GtE, .int i, .int j => some (decide (j ≤ i))
  | .LtE, .str a, .str b => some (!ltS b a)
  | .Is, a, .non => some (isNon a)
  | .IsNot, a, .non => some (!isNon a)
  | .In, x, .lst ds => bif okD x && ds.all okD then some (ds.any fun z => eqB z x) else none
  | .NotIn, x, .lst ds => bif okD x && ds.all okD then some (!ds.any fun z => eqB z x) else none
  | .In, x, .tup ds => bif x.flat && ds.all D.flat then some (ds.any fun z => eqB z x) else none
  | .NotIn, x, .tup ds => bif x.flat && ds.all D.flat then some (!ds.any fun z => eqB z x) else none
  | .In, .str a, .str z => match a.cps.toList with | [c] => some (decide (c ∈ z.cps.toList)) | _ => none
  | .NotIn, .str a, .str z => match a.cps.toList with | [c] => some (!decide (c ∈ z.cps.toList)) | _ => none
  | .In, k, .dic kvs => (keyD k).map fun k => (valD kvs k).isSome
  | .NotIn, k, .dic kvs => (keyD k).map fun k => !(valD kvs k).isSome
  | _, _, _ => none
def fits (n : Nat) : Bool := decide (n ≤ sizeLine)
/-- what an operator has made: a list stands alone -/
def fresh : D → Sl
  | .lst l => .ow (.lst l)
  | d => .sh d
def binD : Operator → D → D → Option D
  | .Add, .int i, .int j => some (.int (i + j))
  | .Add, .str a, .str b => bif fits (a.length + b.length) then some (.str (a ++ b)) else none
  | .Add, .lst a, .lst b => bif fits (a.length + b.length) then some (.lst (a ++ b)) else none
  | .Add, .tup a, .tup b => bif fits (a.length + b.length) && !a.isEmpty && !b.isEmpty then some (.tup (a ++ b)) else none
  | .Sub, .int i, .int j => some (.int (i - j))
  | .Mult, .int i, .int j => bif decide (-(2 ^ 64) < i) && decide (i < 2 ^ 64) then some (.int (i * j)) else none
  | .Mult, .lst xs, .int k => bif decide (0 ≤ k) && decide (k < 2 ^ 62) && fits (xs.length * k.toNat) then some (.lst (List.replicate k.toNat xs).flatten) else none
  | .Mult, .str x, .int k => bif decide (0 ≤ k) && decide (k < 2 ^ 62) && fits (x.length * k.toNat) then some (.str ⟨((List.replicate k.toNat x.cps.toList).flatten).toArray⟩) else none
  | .FloorDiv, .int i, .int j => bif decide (j ≠ 0) && decide (j.natAbs < 1073741824) then some (.int (i.fdiv j)) else none
  | .Mod, .int i, .int j => bif decide (j ≠ 0) then some (.int (i.fmod j)) else none
  | .Pow, .int i, .int j => bif decide (0 ≤ j) && decide (j ≤ 1000) && decide (i.natAbs < 2 ^ 200) then some (.int (i ^ j.toNat)) else none
  | _, _, _ => none
def ixD : D → D → Option D
  | .lst xs, .int i => atI xs i
  | .tup xs, .int i => atI xs i
  | .str s, .int i => (atI s.cps.toList i).map fun c => .str ⟨#[c]⟩
  | .dic kvs, k => (keyD k).bind (valD kvs)
  | .scr ns, .int i => (atI ns i).map .int
  | _, _ => none
def cutL {α : Type} (xs : List α) (lo hi : Option Int) : List α :=
  let a := HT.sIx xs.length 0 lo
  (xs.drop a).take (HT.sIx xs.length xs.length hi - a)
/-- a slice: of a list a new list, of a text a text -/
def slD : D → Option Int → Option Int → Option D
  | .lst xs, lo, hi => some (.lst (cutL xs lo hi))
  | .str s, lo, hi => some (.str ⟨(cutL s.cps.toList lo hi).toArray⟩)
  | .tup xs, lo, hi => bif decide ((cutL xs lo hi).length < xs.length) then some (.tup (cutL xs lo hi)) else none
  | _, _, _ => none
def partD : Option D → Option (Option Int)
  | none => some none
  | some (.int i) => some (some i)
  | _ => none
def signs (s : Str) : List D := s.cps.toList.map fun c => .str ⟨#[c]⟩
def iterD : D → Option (List D)
  | .lst ds => some ds
  | .tup ds => some ds
  | .str s => some (signs s)
  | _ => none
/-- what enumerate and zip draw from -/
def iterS : D → Option (List D)
  | .lst ds => some ds
  | .str s => some (signs s)
  | _ => none
def lenD : D → Option Nat
  | .lst ds => some ds.length
  | .tup ds => some ds.length
  | .str s => some s.length
  | .dic kvs => some kvs.length
  | .scr ns => some ns.length
  | _ => none
def strsD : List D → Option (List Str)
  | [] => some []
  | .str s :: r => (strsD r).map (s :: ·)
  | _ => none
def intsD : List D → Option (List Int)
  | [] => some []
  | .int s :: r => (intsD r).map (s :: ·)
  | _ => none
def pairsD : List D → Option (List (Int × Int))
  | [] => some []
  | .tup [.int a, .int b] :: r => (pairsD r).map ((a, b) :: ·)
  | _ => none
def leS (a b : Str) : Bool := !ltS b a
def leP (a b : Int × Int) : Bool := decide (a.1 < b.1) || (decide (a.1 = b.1) && decide (a.2 ≤ b.2))
def insB {α : Type} (le : α → α → Bool) (x : α) : List α → List α
  | [] => [x]
  | y :: ys => bif le x y then x :: y :: ys else y :: insB le x ys
def isort {α : Type} (le : α → α → Bool) : List α → List α
  | [] => []
  | x :: xs => insB le x (isort le xs)
theorem insB_perm {α : Type} (le : α → α → Bool) (x : α) : ∀ l : List α, (insB le x l).Perm (x :: l)
  | [] => .refl _
  | y :: ys => by
    unfold insB
    cases le x y with
    | true => exact .refl _
    | false => exact ((insB_perm le x ys).cons y).trans (.swap x y ys)
theorem isort_perm {α : Type} (le : α → α → Bool) : ∀ l : List α, (isort le l).Perm l
  | [] => .refl _
  | x :: xs => (insB_perm le x _).trans ((isort_perm le xs).cons x)
theorem insB_pw {α : Type} {le : α → α → Bool} (tr : ∀ a b c, le a b = true → le b c = true → le a c = true) (tot : ∀ a b, (le a b || le b a) = true) (x : α) : ∀ {l : List α}, l.Pairwise (fun a b => le a b = true) → (insB le x l).Pairwise fun a b => le a b = true
  | [], _ => List.pairwise_singleton _ _
  | y :: ys, h => by
    unfold insB
    rw [List.pairwise_cons] at h
    cases e : le x y with
    | true =>
      refine List.pairwise_cons.mpr ⟨fun z hz => ?_, List.pairwise_cons.mpr h⟩
      rcases List.mem_cons.mp hz with q | q
      · rw [q]; exact e
      · exact tr x y z e (h.1 z q)
    | false =>
      have e2 : le y x = true := by have := tot x y; rw [e] at this; simpa using this
      refine List.pairwise_cons.mpr ⟨fun z hz => ?_, insB_pw tr tot x h.2⟩
      rcases List.mem_cons.mp ((insB_perm le x ys).mem_iff.mp hz) with q | q
      · rw [q]; exact e2
      · exact h.1 z q
theorem isort_pw {α : Type} {le : α → α → Bool} (tr : ∀ a b c, le a b = true → le b c = true → le a c = true) (tot : ∀ a b, (le a b || le b a) = true) : ∀ l : List α, (isort le l).Pairwise fun a b => le a b = true
  | [] => List.Pairwise.nil
  | x :: xs => insB_pw tr tot x (isort_pw tr tot xs)
def sortS (l : List Str) : List Str := isort leS l
def sortI (l : List Int) : List Int := isort (fun a b => decide (a ≤ b)) l
def sortP (l : List (Int × Int)) : List (Int × Int) := isort leP l
def pD (p : Int × Int) : D := .tup [.int p.1, .int p.2]
def sortD (l : List D) : Option (List D) := match strsD l with
  | some xs => bif decide (xs.length < 64) then some ((sortS xs).map .str) else none
  | none => match intsD l with
    | some xs => some ((sortI xs).map .int)
    | none => match pairsD l with
      | some ps => some ((sortP ps).map pD)
      | none => none
def joinS (a : Str) (l : List Str) : Str := Txt.join a l
inductive TyN where
  | str | list | tuple | dict | own (c : Nat) | exc (c : Nat) | fte | ve
def isiD : D → TyN → Option Bool
  | .str _, .str => some true
  | .lst _, .list => some true
  | .tup _, .tuple => some true
  | .dic _, .dict => some true
  | .ins c _, .own c' => some (decide (c = c'))
  | .scr _, _ => none
  | .any, _ => none
  | .exc c _, .exc c' => some (decide (c = c'))
  | .exc _ _, .fte => some true
  | .exc _ _, .ve => some true
  | .exc _ _, _ => none
  | _, .exc _ => none
  | _, .fte => none
  | _, .ve => none
  | .ins _ _, _ => some false
  | _, _ => some false
/-! ### data as the machine's own -/
def toP : D → PyData
  | .non => .none | .bl b => .bool b | .int i => .int i | .str s => .str s
  | .lst ds => .list (toPs ds) | .tup ds => .tuple (toPs ds)
  | _ => .none
where toPs : List D → List PyData
  | [] => [] | d :: ds => toP d :: toPs ds
def isSeq : D → Bool
  | .lst _ => true | .tup _ => true | _ => false
def keyP : Key → PyData
  | .inl i => .int i | .inr s => .str s
def flatDic : D → Bool
  | .dic kds => kds.all fun e => e.2.flat
  | _ => false
def dicP : D → PyData
  | .dic kds => .dict (kds.map fun e => (keyP e.1, toP e.2))
  | _ => .none
/-- what repr shows: lists of dicts of flat values, too -/
def toR (d : D) : PyData := match d with
  | .lst ds => bif okN 8 d then toP d else .list (ds.map dicP)
  | _ => toP d
def okR (d : D) : Bool := okN 8 d || (match d with
  | .lst ds => ds.all flatDic
  | _ => false)
def showB (d : D) : Bool := isSeq d && okR d && (toR d).showable && fits (toR d).shown.length && (toR d).shown.cps.all (· < 0x110000)
/-! ### built-in functions and methods -/
inductive BI where
  | len | int | max | min | sorted | list | tuple | str | dict | repr | lrng1 | lrng2 | reprD
/-- the value, and whether it is a new object -/
def biD : BI → List D → Option Sl
  | .len, [d] => (lenD d).map fun (n : Nat) => Sl.sh (.int (n : Int))
  | .int, [.int i] => some (.sh (.int i))
  | .int, [.bl b] => some (.sh (.int (b2i b)))
  | .max, [.int i, .int j] => some (.sh (.int (if j > i then j else i)))
  | .sorted, [.lst l] => (sortD l).map fun l => .ow (.lst l)
  | .list, [.lst l] => some (.ow (.lst l))
  | .list, [.tup l] => some (.ow (.lst l))
  | .tuple, [.lst l] => some (.sh (.tup l))
  | .str, [.str s] => some (.sh (.str s))
  | .str, [.int i] => bif decide (0 ≤ i) && decide (i < 1000) then some (.sh (.str (Str.ofString (toString i)))) else none
  | .dict, [.dic kvs] => some (.ow (.dic kvs))
  | .min, [.lst l] => (intsD l).bind fun ns => (ns.min?).map fun m => .sh (.int m)
  | .lrng1, [.int j] => bif decide (0 ≤ j) && decide (j ≤ 1000000) then some (.ow (.lst ((List.range j.toNat).map fun i => .int (i : Nat)))) else none
  | .reprD, [d] => bif showB d then some (.sh (.str (toR d).shown)) else none
  | .repr, [.bl b] => some (.sh (.str (if b then "True" else "False")))
  | .repr, [.int i] => bif decide (0 ≤ i) && decide (i < 1000) then some (.sh (.str (Str.ofString (toString i)))) else none
  | _, _ => none
inductive ME where
  | index | join | get | count
def idxD (l : List D) (x : D) : Option Nat := l.findIdx? fun z => eqB z x
/-- methods that only read -/
def meD : ME → D → List D → Option D
  | .index, .lst l, [x] => bif x.flat && l.all D.flat then (idxD l x).map fun (n : Nat) => D.int (n : Int) else none
  | .join, .str a, [.lst l] => (strsD l).bind fun xs => bif fits ((xs.map (·.length)).sum + xs.length * a.length) then some (.str (joinS a xs)) else none
  | .get, .dic kvs, [k] => (keyD k).map fun k => (valD kvs k).getD .non
  | _, _, _ => none
def meTy : ME → D → Bool
  | .index, .lst _ => true
  | .join, .str _ => true
  | .get, .dic _ => true
  | _, _ => false
inductive MT where
  | append | pop | update | reverse
def mtTy : MT → D → Bool
  | .append, .lst _ => true
  | .pop, .lst _ => true
  | .update, .dic _ => true
  | _, _ => false
/-- methods that change: what they give, the new content -/
def mtD : MT → D → List D → Option (D × D)
  | .append, .lst l, [x] => bif decide (l.length < sizeLine) then some (.non, .lst (l ++ [x])) else none
  | .pop, .lst l, [] => (l.getLast?).map fun x => (x, .lst l.dropLast)
  | .update, .dic a, [.dic b] => bif fits (a.length + b.length) then some (.non, .dic (mergeD a b)) else none
  | _, _, _ => none
/-- name[k] = e: the new content -/
def stD : D → D → D → Option D
  | .lst l, .int k, x => (ixN l.length k).map fun j => .lst (l.set j x)
  | .dic kvs, k, x => (keyD k).bind fun k => bif decide (kvs.length < sizeLine) then some (.dic (putD kvs k x)) else none
  | _, _, _ => none
/-! ### contracts -/
inductive RK where
  | nor | fre | flt
structure Con where
  ι : Type
  args : ι → List D
  pre : ι → Prop
  post : ι → D → D → Prop
  io : Bool
  ret : RK
/-! ### the syntax -/
inductive Tg where
  | nm (i : Nat) | tp (l : List Nat)
mutual
inductive E where
  | kInt (i : Int) | kStr (s : Str) | kBl (b : Bool) | kNon | loc (i : Nat)
  | bin (o : Operator) (a b : E) | neg (a : E)
  | cmp (o : CmpOp) (a b : E) | cmp2 (o p : CmpOp) (a b c : E)
  | and (a b : E) | or (a b : E) | not (a : E) | ife (c a b : E)
  | sub (a i : E) | slc (a : E) (lo hi : O) | rev (a : E)
  | tup (es : Es) | lst (es : Es) | dic0 | dic1 (k v : E)
  | call (f : Nat) (es : Es) | bi (b : BI) (es : Es) | me (m : ME) (a : E) (es : Es) | mt (m : MT) (i : Nat) (es : Es)
  | fld (a : E) (f : Str) | prp (a : E) (f : Nat) | eqT (n : Bool) (f : Nat) (a b : E) | isi (a : E) (t : TyN)
  | lc (own : List Nat) (t : Tg) (it : It) (c : O) (e : E)
  | lc2 (own own2 : List Nat) (t : Tg) (it : It) (c : O) (t2 : Tg) (it2 : It) (c2 : O) (e : E)
  | dc (own : List Nat) (t : Tg) (it : It) (k v : E)
inductive O where
  | no | so (e : E)
inductive Es where
  | nil | cons (e : E) (es : Es)
inductive It where
  | val (e : E) | keys (e : E) | rng1 (a : E) | rng2 (a b : E) | enum (e : E) | zip (a b : E)
end
mutual
inductive S where
  | set (i : Nat) (e : E) | setT (l : List Nat) (e : E)
  | par2 (i j : Nat) (a b : E) | par3 (i j k : Nat) (a b c : E)
  | put (i : Nat) (k e : E) | swap (i : Nat) (a b : E) | ex (e : E) | ret (e : E) | retN | pass | never
  | ifs (c : E) (a b : Ss) | for_ (t : Tg) (it : It) (b : Ss) | forK (i : Nat) (t : Tg) (b : Ss) | whl (c : E) (b : Ss)
inductive Ss where
  | nil | cons (s : S) (ss : Ss)
  | cut (i f j : Nat) (kp : List Nat) (pre : Ss) (neg : Bool) (t : E) (oth mid : Ss) (k : Nat) (x : Str) (post fin : Ss)
end
def Ss.plain : Ss → Bool
  | .nil => true | .cons _ ss => ss.plain | .cut .. => false
def Ss.len : Ss → Nat
  | .nil => 0 | .cons _ ss => ss.len + 1 | .cut .. => 0
mutual
/-- no list within -/
def noLst : D → Bool
  | .non => true | .bl _ => true | .int _ => true | .str _ => true | .lst _ => false | .tup ds => noLstL ds | .dic kds => noLstK kds | .ins _ fs => noLstF fs | .scr _ => false | .any => true | .exc _ d => noLst d
def noLstL : List D → Bool
  | [] => true | d :: ds => noLst d && noLstL ds
def noLstK : List (Key × D) → Bool
  | [] => true | (_, d) :: ds => noLst d && noLstK ds
def noLstF : List (Str × D) → Bool
  | [] => true | (_, d) :: ds => noLst d && noLstF ds
end
/-- what is still known of a tuple when one list of it was changed: other lists may be the same object -/
def blur (d : D) : D := bif d.flat then d else .any
def cutT : List D → Nat → D → List D
  | [], _, _ => []
  | _ :: ds, 0, n => n :: ds.map blur
  | d :: ds, k + 1, n => blur d :: cutT ds k n
def flatC : D → Bool
  | .lst ds => ds.all D.flat | _ => false
def cutX (k : Bool) (a b : Sl) : Sl := match b with
  | .ow d => bif flatC d then .ow d else .un
  | .sh d => bif d.flat then .sh d else bif k then (match a with | .sh e => .sh e | _ => .un) else .un
  | .un => .un
/-- the slots then: those that are kept as they were before, and what is flat -/
def keepL (kp : List Nat) : Nat → List Sl → List Sl → List Sl
  | p, a :: ρ0, b :: ρ3 => cutX (kp.contains p) a b :: keepL kp (p + 1) ρ0 ρ3
  | _, _, _ => []
/-! ### the data-level reading -/
def bnd {α : Type} (o : Option α) (f : α → Prop) : Prop := match o with
  | some x => f x
  | none => False
abbrev Raw : Type := D × Option Nat
def curs (rs : List Raw) (ρ : List Sl) : Option (List D) := match rs with
  | [] => some []
  | (d, s) :: r => match cur s d ρ with
    | some d => (curs r ρ).map (d :: ·)
    | none => none
def frzs (rs : List Raw) (ρ : List Sl) : List Sl := match rs with
  | [] => ρ
  | (_, s) :: r => frzs r (frz s ρ)
def setL (ρ : List Sl) : List Nat → List D → List Sl
  | [], _ => ρ
  | _, [] => ρ
  | i :: is, d :: ds => setL (ρ.set i (.sh d)) is ds
/-- a target takes a value -/
def wTg (t : Tg) (d : D) (ρ : List Sl) (Q : List Sl → Prop) : Prop := match t with
  | .nm i => Q (ρ.set i (.sh d))
  | .tp l => match d with
    | .tup ds => bif decide (ds.length = l.length) then Q (setL ρ l ds) else False
    | .lst ds => bif decide (ds.length = l.length) then Q (setL ρ l ds) else False
    | _ => False
def wipeS (ρ : List Sl) : List Nat → List Sl
  | [] => ρ
  | v :: vs => (wipeS ρ vs).set v .un
/-- behind a block: its own places as they were -/
def back (own : List Nat) (ρ0 ρ : List Sl) : List Sl := match own with
  | [] => ρ
  | v :: vs => match ρ0[v]? with
    | some x => (back vs ρ0 ρ).set v x
    | none => back vs ρ0 ρ
def still (s : Option Nat) (ρ ρ' : List Sl) : Prop := match s with
  | none => True
  | some i => ρ'[i]? = ρ[i]?
def RK.sl (r : RK) (d : D) : Sl := match r with
  | .fre => bif d.flat then .sh d else .ow d
  | _ => .sh d
/-- a contract at arguments of data -/
def Con.wp (c : Con) (ds : List D) (Q : D → D → Prop) : Prop := ∃ i, c.args i = ds ∧ c.pre i ∧ ∀ d o, c.post i d o → Q d o
def wCon (c : Con) (rs : List Raw) (ρ : List Sl) (Q : Sl → List Sl → Prop) : Prop := match c.io with
  | true => match rs with
    | (_, some i) :: r => match (frzs r ρ)[i]? with
      | some (.ow d) => bnd (curs r ρ) fun ds => c.wp (d :: ds) fun x o => Q (c.ret.sl x) ((frzs r ρ).set i (.ow o))
      | _ => False
    | _ => False
  | false => bnd (curs rs ρ) fun ds => c.wp ds fun x _ => match c.ret with
    | .flt => Q (.sh x) ρ
    | _ => Q (c.ret.sl x) (frzs rs ρ)
def Sl.val (Q : D → Option Nat → List Sl → Prop) (s : Sl) (ρ : List Sl) : Prop := Q s.d none ρ
section
variable (Γ : Nat → Option Con)
mutual
def wE : E → List Sl → (D → Option Nat → List Sl → Prop) → Prop
  | .kInt i, ρ, Q => Q (.int i) none ρ
  | .kStr s, ρ, Q => Q (.str s) none ρ
  | .kBl b, ρ, Q => Q (.bl b) none ρ
  | .kNon, ρ, Q => Q .non none ρ
  | .loc i, ρ, Q => match ρ[i]? with
    | some (.sh d) => Q d none ρ
    | some (.ow d) => Q d (some i) ρ
    | _ => False
  | .bin o a b, ρ, Q => wE a ρ fun d1 s1 ρ1 => wE b ρ1 fun d2 s2 ρ2 => bnd (cur s1 d1 ρ2) fun d1 => bnd (cur s2 d2 ρ2) fun d2 => bnd (binD o d1 d2) fun d => Q d none ρ2
  | .neg a, ρ, Q => wE a ρ fun d1 s1 ρ1 => match d1 with
    | .int i => Q (.int (-i)) none ρ1
    | _ => False
  | .cmp o a b, ρ, Q => wE a ρ fun d1 s1 ρ1 => wE b ρ1 fun d2 s2 ρ2 => bnd (cur s1 d1 ρ2) fun d1 => bnd (cur s2 d2 ρ2) fun d2 => bnd (cmpD o d1 d2) fun c => Q (.bl c) none ρ2
  | .cmp2 o p a b c, ρ, Q => wE a ρ fun d1 s1 ρ1 => wE b ρ1 fun d2 s2 ρ2 => bnd (cur s1 d1 ρ2) fun d1 => bnd (cur s2 d2 ρ2) fun d2 => bnd (cmpD o d1 d2) fun k =>
      bif k then wE c ρ2 fun d3 s3 ρ3 => bnd (cur s2 d2 ρ3) fun d2 => bnd (cur s3 d3 ρ3) fun d3 => bnd (cmpD p d2 d3) fun k => Q (.bl k) none ρ3 else Q (.bl false) none ρ2
  | .and a b, ρ, Q => wE a ρ fun d _ ρ1 => match d with
    | .bl c => bif c then wE b ρ1 Q else Q (.bl false) none ρ1
    | _ => False
  | .or a b, ρ, Q => wE a ρ fun d _ ρ1 => match d with
    | .bl c => bif c then Q (.bl true) none ρ1 else wE b ρ1 Q
    | _ => False
  | .not a, ρ, Q => wE a ρ fun d _ ρ1 => match d with
    | .bl c => Q (.bl (!c)) none ρ1
    | _ => False
  | .ife c a b, ρ, Q => wE c ρ fun d _ ρ1 => match d with
    | .bl c => bif c then wE a ρ1 Q else wE b ρ1 Q
    | _ => False
  | .sub a i, ρ, Q => wE a ρ fun d1 s1 ρ1 => wE i ρ1 fun d2 s2 ρ2 => bnd (cur s1 d1 ρ2) fun d1 => bnd (cur s2 d2 ρ2) fun d2 => bnd (ixD d1 d2) fun d => Q d none ρ2
  | .slc a lo hi, ρ, Q => wE a ρ fun d1 s1 ρ1 => wO lo ρ1 fun l ρ2 => bnd (partD l) fun l => wO hi ρ2 fun h ρ3 => bnd (partD h) fun h => bnd (cur s1 d1 ρ3) fun d1 => bnd (slD d1 l h) fun d => Q d none ρ3
  | .rev a, ρ, Q => wE a ρ fun d1 s1 ρ1 => bnd (cur s1 d1 ρ1) fun d1 => match d1 with
    | .lst l => Q (.lst l.reverse) none ρ1
    | _ => False
  | .tup es, ρ, Q => wA es ρ fun rs ρ1 => bnd (curs rs ρ1) fun ds => Q (.tup ds) none (frzs rs ρ1)
  | .lst es, ρ, Q => wA es ρ fun rs ρ1 => bnd (curs rs ρ1) fun ds => Q (.lst ds) none (frzs rs ρ1)
  | .dic0, ρ, Q => Q (.dic []) none ρ
  | .dic1 k v, ρ, Q => wE k ρ fun d1 _ ρ1 => wE v ρ1 fun d2 s2 ρ2 => bnd (keyD d1) fun k => bnd (cur s2 d2 ρ2) fun d2 => Q (.dic [(k, d2)]) none (frz s2 ρ2)
  | .call f es, ρ, Q => match Γ f with
    | some c => wA es ρ fun rs ρ1 => wCon c rs ρ1 fun s ρ2 => Q s.d none ρ2
    | none => False
  | .bi b es, ρ, Q => wA es ρ fun rs ρ1 => bnd (curs rs ρ1) fun ds => bnd (biD b ds) fun s => Q s.d none ρ1
  | .me m a es, ρ, Q => wE a ρ fun d1 s1 ρ1 => bnd (cur s1 d1 ρ1) fun d0 => bif meTy m d0 then wA es ρ1 fun rs ρ2 => bnd (cur s1 d1 ρ2) fun d1 => bnd (curs rs ρ2) fun ds => bnd (meD m d1 ds) fun d => Q d none ρ2 else False
  | .mt m i es, ρ, Q => match ρ[i]? with
    | some (.ow d0) => bif mtTy m d0 then wA es ρ fun rs ρ1 => bnd (curs rs ρ1) fun ds => match (frzs rs ρ1)[i]? with
      | some (.ow d) => bnd (mtD m d ds) fun r => Q r.1 none ((frzs rs ρ1).set i (.ow r.2))
      | _ => False
      else False
    | _ => False
  | .fld a f, ρ, Q => wE a ρ fun d _ ρ1 => match d with
    | .ins _ fs => bnd (fs.lookup f) fun d => Q d none ρ1
    | .exc _ d => bif decide (f = "value") then Q d none ρ1 else False
    | _ => False
  | .prp a f, ρ, Q => match Γ f with
    | some c => wE a ρ fun d s ρ1 => wCon c [(d, s)] ρ1 fun s ρ2 => Q s.d none ρ2
    | none => False
  | .eqT n f a b, ρ, Q => match Γ f with
    | some c => wE a ρ fun d1 s1 ρ1 => wE b ρ1 fun d2 s2 ρ2 => wCon c [(d1, s1), (d2, s2)] ρ2 fun s ρ3 => match s.d with
      | .bl k => Q (.bl (n != k)) none ρ3
      | _ => False
    | none => False
  | .isi a t, ρ, Q => wE a ρ fun d s ρ1 => bnd (cur s d ρ1) fun d => bnd (isiD d t) fun k => Q (.bl k) none ρ1
  | .lc own t it c e, ρ, Q => wI it ρ fun items s ρ1 => ∃ I : Nat → List D → List Sl → Prop, I 0 [] ρ1 ∧
      (∀ k x acc ρ2, items[k]? = some x → I k acc ρ2 → still s ρ1 ρ2 ∧ wTg t x (wipeS ρ2 own) fun ρ3 => wC c ρ3 fun b ρ4 =>
        bif b then wE e ρ4 fun d s ρ5 => bnd (cur s d ρ5) fun d => I (k + 1) (acc ++ [d]) (back own ρ2 (frz s ρ5)) else I (k + 1) acc (back own ρ2 ρ4)) ∧
      ∀ acc ρ2, I items.length acc ρ2 → still s ρ1 ρ2 ∧ Q (.lst acc) none ρ2
  | .lc2 own own2 t it c t2 it2 c2 e, ρ, Q => wI it ρ fun items s ρ1 => ∃ I : Nat → List D → List Sl → Prop, I 0 [] ρ1 ∧
      (∀ k x acc ρ2, items[k]? = some x → I k acc ρ2 → still s ρ1 ρ2 ∧ wTg t x (wipeS ρ2 own) fun ρ3 => wC c ρ3 fun b ρ4 =>
        bif b then wI it2 ρ4 fun items2 s2 ρ5 => ∃ J : Nat → List D → List Sl → Prop, J 0 acc ρ5 ∧
          (∀ j y acc ρ6, items2[j]? = some y → J j acc ρ6 → still s2 ρ5 ρ6 ∧ wTg t2 y (wipeS ρ6 own2) fun ρ7 => wC c2 ρ7 fun b ρ8 =>
            bif b then wE e ρ8 fun d s ρ9 => acc.length < 1000000 ∧ bnd (cur s d ρ9) fun d => J (j + 1) (acc ++ [d]) (back own2 ρ6 (frz s ρ9)) else J (j + 1) acc (back own2 ρ6 ρ8)) ∧
          ∀ acc ρ6, J items2.length acc ρ6 → still s2 ρ5 ρ6 ∧ I (k + 1) acc (back own ρ2 ρ6)
        else I (k + 1) acc (back own ρ2 ρ4)) ∧
      ∀ acc ρ2, I items.length acc ρ2 → still s ρ1 ρ2 ∧ Q (.lst acc) none ρ2
  | .dc own t it k v, ρ, Q => wI it ρ fun items s ρ1 => ∃ I : Nat → List (Key × D) → List Sl → Prop, I 0 [] ρ1 ∧
      (∀ n x acc ρ2, items[n]? = some x → I n acc ρ2 → still s ρ1 ρ2 ∧ wTg t x (wipeS ρ2 own) fun ρ3 =>
        wE k ρ3 fun d1 _ ρ4 => wE v ρ4 fun d2 s2 ρ5 => bnd (keyD d1) fun kk => bnd (cur s2 d2 ρ5) fun d2 => I (n + 1) (putD acc kk d2) (back own ρ2 (frz s2 ρ5))) ∧
      ∀ acc ρ2, I items.length acc ρ2 → still s ρ1 ρ2 ∧ Q (.dic acc) none ρ2
def wO : O → List Sl → (Option D → List Sl → Prop) → Prop
  | .no, ρ, Q => Q none ρ
  | .so e, ρ, Q => wE e ρ fun d s ρ1 => Q (some d) ρ1
/-- a clause's test -/
def wC : O → List Sl → (Bool → List Sl → Prop) → Prop
  | .no, ρ, Q => Q true ρ
  | .so e, ρ, Q => wE e ρ fun d _ ρ1 => match d with
    | .bl b => Q b ρ1
    | _ => False
def wA : Es → List Sl → (List Raw → List Sl → Prop) → Prop
  | .nil, ρ, Q => Q [] ρ
  | .cons e es, ρ, Q => wE e ρ fun d s ρ1 => wA es ρ1 fun rs ρ2 => Q ((d, s) :: rs) ρ2
/-- what is walked: its items; where they stand, if that is a slot's own -/
def wI : It → List Sl → (List D → Option Nat → List Sl → Prop) → Prop
  | .val e, ρ, Q => wE e ρ fun d s ρ1 => bnd (cur s d ρ1) fun d => bnd (iterD d) fun l => Q l s ρ1
  | .keys e, ρ, Q => wE e ρ fun d s ρ1 => bnd (cur s d ρ1) fun d => match d with
    | .dic kvs => Q (kvs.map fun kv => kD kv.1) s ρ1
    | _ => False
  | .rng1 a, ρ, Q => wE a ρ fun d _ ρ1 => match d with
    | .int j => bif decide (0 ≤ j) && decide (j ≤ 1000000) then Q ((List.range j.toNat).map fun i => .int (i : Nat)) none ρ1 else False
    | _ => False
  | .rng2 a b, ρ, Q => wE a ρ fun d _ ρ1 => wE b ρ1 fun d2 _ ρ2 => match d, d2 with
    | .int i, .int j => bif decide (0 ≤ i) && decide (i ≤ 1000000) && decide (0 ≤ j) && decide (j ≤ 1000000) then Q ((List.range (j - i).toNat).map fun n => .int (i + (n : Nat))) none ρ2 else False
    | _, _ => False
  | .enum e, ρ, Q => wE e ρ fun d s ρ1 => bnd (cur s d ρ1) fun d => bnd (iterS d) fun l => Q (l.zipIdx.map fun p => .tup [.int (p.2 : Nat), p.1]) none (frz s ρ1)
  | .zip a b, ρ, Q => wE a ρ fun d1 s1 ρ1 => wE b ρ1 fun d2 s2 ρ2 => bnd (cur s1 d1 ρ2) fun d1 => bnd (cur s2 d2 ρ2) fun d2 => bnd (iterS d1) fun l1 => bnd (iterS d2) fun l2 =>
      Q ((l1.zip l2).map fun p => .tup [p.1, p.2]) none (frz s2 (frz s1 ρ2))
end
/-- an expression that a name takes: a new object stands alone -/
def wF (e : E) (ρ : List Sl) (Q : Sl → List Sl → Prop) : Prop := match e with
  | .lst es => wA Γ es ρ fun rs ρ1 => bnd (curs rs ρ1) fun ds => Q (.ow (.lst ds)) (frzs rs ρ1)
  | .dic0 => Q (.ow (.dic [])) ρ
  | .dic1 k v => wE Γ (.dic1 k v) ρ fun d _ ρ1 => Q (.ow d) ρ1
  | .lc own t it c e => wE Γ (.lc own t it c e) ρ fun d _ ρ1 => Q (.ow d) ρ1
  | .lc2 own own2 t it c t2 it2 c2 e => wE Γ (.lc2 own own2 t it c t2 it2 c2 e) ρ fun d _ ρ1 => Q (.ow d) ρ1
  | .dc own t it k v => wE Γ (.dc own t it k v) ρ fun d _ ρ1 => Q (.ow d) ρ1
  | .call f es => match Γ f with
    | some c => wA Γ es ρ fun rs ρ1 => wCon c rs ρ1 Q
    | none => False
  | .bi b es => wA Γ es ρ fun rs ρ1 => bnd (curs rs ρ1) fun ds => bnd (biD b ds) fun s => Q s ρ1
  | .bin o a b => wE Γ (.bin o a b) ρ fun d _ ρ1 => Q (fresh d) ρ1
  | e => wE Γ e ρ fun d s ρ1 => bnd (cur s d ρ1) fun d => Q (.sh d) (frz s ρ1)
/-- a result that is handed back: a slot's own object is given away -/
def wR (e : E) (ρ : List Sl) (Q : Sl → List Sl → Prop) : Prop := match e with
  | .loc i => match ρ[i]? with
    | some (.sh d) => Q (.sh d) ρ
    | some (.ow d) => Q (.ow d) (ρ.set i .un)
    | _ => False
  | e => wF Γ e ρ Q
structure Fin where
  nx : List Sl → Prop
  rt : Sl → List Sl → Prop
mutual
def wS : S → List Sl → Fin → Prop
  | .set i e, ρ, Q => wF Γ e ρ fun s ρ1 => Q.nx (ρ1.set i s)
  | .setT l e, ρ, Q => wE Γ e ρ fun d s ρ1 => bnd (cur s d ρ1) fun d => match d with
    | .tup ds => bif decide (ds.length = l.length) then Q.nx (setL (frz s ρ1) l ds) else False
    | .lst ds => bif decide (ds.length = l.length) then Q.nx (setL (frz s ρ1) l ds) else False
    | _ => False
  | .par2 i j a b, ρ, Q => wF Γ a ρ fun s1 ρ1 => wF Γ b ρ1 fun s2 ρ2 => Q.nx ((ρ2.set i s1).set j s2)
  | .par3 i j k a b c, ρ, Q => wF Γ a ρ fun s1 ρ1 => wF Γ b ρ1 fun s2 ρ2 => wF Γ c ρ2 fun s3 ρ3 => Q.nx (((ρ3.set i s1).set j s2).set k s3)
  | .put i k e, ρ, Q => wE Γ e ρ fun d s ρ1 => match ρ1[i]? with
    | some (.ow _) => wE Γ k ρ1 fun dk _ ρ2 => bnd (cur s d ρ2) fun d => match (frz s ρ2)[i]? with
      | some (.ow c) => bnd (stD c dk d) fun c => Q.nx ((frz s ρ2).set i (.ow c))
      | _ => False
    | _ => False
  | .swap i a b, ρ, Q => wE Γ a ρ fun da sa ρ1 => wE Γ b ρ1 fun db sb ρ2 => ρ2 = ρ ∧ sa = none ∧ sb = none ∧ match ρ[i]? with
    | some (.ow (.lst c)) => bnd (ixD (.lst c) db) fun x => bnd (ixD (.lst c) da) fun y => bnd (stD (.lst c) da x) fun c1 => bnd (stD c1 db y) fun c2 => Q.nx (ρ.set i (.ow c2))
    | _ => False
  | .ex e, ρ, Q => wE Γ e ρ fun _ _ ρ1 => Q.nx ρ1
  | .ret e, ρ, Q => wR Γ e ρ Q.rt
  | .retN, ρ, Q => Q.rt (.sh .non) ρ
  | .pass, ρ, Q => Q.nx ρ
  | .never, _, _ => False
  | .ifs c a b, ρ, Q => wE Γ c ρ fun d _ ρ1 => match d with
    | .bl k => bif k then wB a ρ1 Q else wB b ρ1 Q
    | _ => False
  | .for_ t it b, ρ, Q => wI Γ it ρ fun items s ρ1 => ∃ I : Nat → List Sl → Prop, I 0 (frz s ρ1) ∧
      (∀ k x ρ2, items[k]? = some x → I k ρ2 → wTg t x ρ2 fun ρ3 => wB b ρ3 { Q with nx := I (k + 1) }) ∧
      ∀ ρ2, I items.length ρ2 → Q.nx ρ2
  | .forK i t b, ρ, Q => match ρ[i]? with
    | some (.ow (.lst items)) => ∃ I : Nat → List Sl → Prop, I 0 (ρ.set i .un) ∧
      (∀ k x ρ2, items[k]? = some x → I k ρ2 → wTg t x ρ2 fun ρ3 => wB b ρ3 { Q with nx := I (k + 1) }) ∧
      ∀ ρ2, I items.length ρ2 → Q.nx (ρ2.set i (.ow (.lst items)))
    | _ => False
  | .whl c b, ρ, Q => ∃ I : Nat → List Sl → Prop, (∃ m, I m ρ) ∧ ∀ m ρ1, I m ρ1 → wE Γ c ρ1 fun d _ ρ2 => match d with
    | .bl k => bif k then wB b ρ2 { Q with nx := fun ρ3 => ∃ m', m' < m ∧ I m' ρ3 } else Q.nx ρ2
    | _ => False
def wB : Ss → List Sl → Fin → Prop
  | .nil, ρ, Q => Q.nx ρ
  | .cons s ss, ρ, Q => wS s ρ { Q with nx := fun ρ1 => wB ss ρ1 Q }
  | .cut i f j kp pre neg t oth mid k x post fin, ρ, Q => match ρ[j]?, Γ f with
    | some (.sh d0), some c => noLst d0 = true ∧ c.io = false ∧ c.ret = .nor ∧ c.wp [d0] fun d _ =>
        wB pre (ρ.set i (.sh d)) ⟨fun ρ1 => wE Γ t ρ1 fun b _ ρ2 => match b with
          | .bl v => bif v == neg then wB oth ρ2 ⟨fun ρ4 => wB fin ρ4 Q, Q.rt⟩
              else wB mid ρ2 ⟨fun ρ3 => ρ.length = ρ3.length ∧ ρ3[i]? = some (.sh d) ∧ ∃ ds ks, d = .tup ds ∧ ds[k]? = some (.lst ks) ∧ ks.all D.flat = true ∧ ks.length < sizeLine ∧ wB post ((keepL kp 0 ρ ρ3).set i (.sh (.tup (cutT ds k (.lst (ks ++ [.str x])))))) ⟨fun ρ4 => wB fin ρ4 Q, Q.rt⟩, Q.rt⟩
          | _ => False, Q.rt⟩
    | _, _ => False
end
end
end FT

set_option Elab.async false
set_option linter.all false
set_option maxRecDepth 100000
set_option autoImplicit false
namespace FT
open PySem PySem.Spec PyProof.Rows L2
/-! ### the checker: a tree of ours is what the Python text says -/
structure Cfg where
  N : List Str
  sc : Scope
  blk : Option Scope
  fn : Nat → Option Str
  pn : Nat → Option Str
  cn : Nat → Option Str
  free : List Str
  fix : List Nat
  gd : Bool
  kn : Nat → Option (Str × Option (List Str))
/-- the names of keywords -/
def kwNs : List Keyword → Option (List Str)
  | [] => some []
  | ⟨some n, _, _⟩ :: ks => (kwNs ks).map (n :: ·)
  | ⟨none, _, _⟩ :: _ => none
def isFld (f : Str) : Bool := decide (f = "sorts") || decide (f = "traits") || decide (f = "signs") || decide (f = "over") || decide (f = "spots") || decide (f = "value")
def isLoc : Option NameKind → Bool
  | some .local => true | some .cell => true | _ => false
def isVis : Option NameKind → Bool
  | some .local => true | some .cell => true | some .free => true | _ => false
def isGl : Option NameKind → Bool
  | some .globalImplicit => true | _ => false
def Cfg.kind (c : Cfg) (x : Str) : Option NameKind := c.sc.names.lookup x
def plainN (x : Str) : Bool := !(x == ("__debug__" : Str)) && !(x == ("__classdict__" : Str)) && decide (x ≠ ("__name__" : Str))
def Cfg.vis (c : Cfg) (x : Str) (i : Nat) : Bool := decide (c.N[i]? = some x) && isVis (c.kind x) && plainN x
/-- a name that may be stored -/
def Cfg.sto (c : Cfg) (x : Str) (i : Nat) : Bool := !c.fix.contains i && decide (c.N[i]? = some x) && isLoc (c.kind x) && (match c.blk with
  | none => true
  | some s => isLoc (s.names.lookup x))
def Cfg.gl (c : Cfg) (x : Str) : Bool := isGl (c.kind x) && plainN x
def Cfg.bt (c : Cfg) (x : Str) : Bool := c.gl x && c.free.contains x
def notStar : Expr → Bool
  | .Starred .. => false | _ => true
def notSlice : Expr → Bool
  | .Slice .. => false | _ => true
def notSet : Expr → Bool
  | .Set .. => false | _ => true
/-- no call of a name without arguments (super) -/
def notSuper : Expr → Bool
  | .Call (.Name _ _) [] [] _ => false | _ => true
def notTup : Expr → Bool
  | .Tuple .. => false | _ => true
def notComp : Expr → Bool
  | .ListComp .. => false | .SetComp .. => false | .DictComp .. => false | _ => true
def BI.name : BI → Str
  | .len => "len" | .int => "int" | .max => "max" | .min => "min" | .sorted => "sorted" | .list => "list" | .tuple => "tuple" | .str => "str" | .dict => "dict" | .repr => "repr"
  | .lrng1 => "list" | .lrng2 => "list" | .reprD => "repr"
def ME.name : ME → Str
  | .index => "index" | .join => "join" | .get => "get" | .count => "count"
def MT.name : MT → Str
  | .append => "append" | .pop => "pop" | .update => "update" | .reverse => "reverse"
/-- the own exception classes, by numbers -/
def xN (c : Nat) : Option Str := (["InvalidTable", "InvalidTree", "InvalidName", "InvalidNames", "InvalidSign", "InvalidRow"] : List Str)[c]?
def TyN.name (cn : Nat → Option Str) : TyN → Option Str
  | .str => some "str" | .list => some "list" | .tuple => some "tuple" | .dict => some "dict" | .own c => cn c | .exc c => xN c | .fte => some "FitTreesError" | .ve => some "ValueError"
def Cfg.inner (c : Cfg) (s : Scope) : Cfg := { c with sc := relS s c.sc, blk := some s }
def ownL (N : List Str) (own : List Nat) : List (Str × Nat) := own.filterMap fun i => (N[i]?).map fun x => (x, i)
def Cfg.block (c : Cfg) (s : Scope) (own : List Nat) : Bool := blkC c.N c.sc s (ownL c.N own) && decide ((ownL c.N own).map (·.2) = own)
def chkNm (c : Cfg) (i : Nat) : Expr → Bool
  | .Name x _ => c.sto x i
  | _ => false
def chkNms (c : Cfg) : List Nat → List Expr → Bool
  | [], [] => true
  | i :: is, e :: es => chkNm c i e && chkNms c is es
  | _, _ => false
def chkTg (c : Cfg) (t : Tg) (e : Expr) : Bool := match t with
  | .nm i => chkNm c i e
  | .tp l => match e with
    | .Tuple es _ _ => chkNms c l es
    | _ => false
def Tg.ixs : Tg → List Nat
  | .nm i => [i] | .tp l => l
def tgIn (t : Tg) (own : List Nat) : Bool := t.ixs.all fun i => own.contains i
/-- no conditional expression where a test stands -/
def noIf : E → Bool
  | .ife .. => false
  | .and a b => noIf a && noIf b
  | .or a b => noIf a && noIf b
  | .not a => noIf a
  | _ => true
/-- pairs are taken apart at once -/
def itTg (it : It) (tg : Expr) : Bool := match it with
  | .enum _ => (match tg with
    | .Tuple .. => true
    | _ => false)
  | .zip _ _ => (match tg with
    | .Tuple .. => true
    | _ => false)
  | _ => true
mutual
def chkE (c : Cfg) : E → Expr → Bool
  | .kInt i, x => match x with
    | .Constant (.int j) _ _ => decide (i = j)
    | _ => false
  | .kStr s, x => match x with
    | .Constant (.str y) _ _ => decide (s = y) && fits s.length && s.cps.all (· < 0x110000)
    | _ => false
  | .kBl b, x => match x with
    | .Constant (.bool d) _ _ => b == d
    | _ => false
  | .kNon, x => match x with
    | .Constant .none _ _ => true
    | _ => false
  | .loc i, x => match x with
    | .Name y _ => c.vis y i
    | _ => false
  | .bin o a b, x => match x with
    | .BinOp l p r _ => decide (o = p) && chkE c a l && chkE c b r
    | _ => false
  | .neg a, x => match x with
    | .UnaryOp .USub y _ => chkE c a y
    | _ => false
  | .cmp o a b, x => match x with
    | .Compare l [p] [r] _ => decide (o = p) && chkE c a l && chkE c b r && !behindInMarks o r
    | _ => false
  | .cmp2 o p a b d, x => match x with
    | .Compare l [o', p'] [m, r] _ => decide (o = o') && decide (p = p') && chkE c a l && chkE c b m && chkE c d r && !lastMarks [o, p] [m, r]
    | _ => false
  | .and a b, x => match x with
    | .BoolOp .And [l, r] _ => chkE c a l && chkE c b r
    | .BoolOp .And (l :: m :: r :: rest) pos => chkE c a l && chkE c b (.BoolOp .And (m :: r :: rest) pos)
    | _ => false
  | .or a b, x => match x with
    | .BoolOp .Or [l, r] _ => chkE c a l && chkE c b r
    | .BoolOp .Or (l :: m :: r :: rest) pos => chkE c a l && chkE c b (.BoolOp .Or (m :: r :: rest) pos)
    | _ => false
  | .not a, x => match x with
    | .UnaryOp .Not y _ => chkE c a y
    | _ => false
  | .ife t a b, x => match x with
    | .IfExp t' l r _ => chkE c t t' && noIf t && chkE c a l && chkE c b r
    | _ => false
  | .sub a i, x => match x with
    | .Subscript l r _ => chkE c a l && chkE c i r && notSlice r
    | _ => false
  | .slc a lo hi, x => match x with
    | .Subscript l (.Slice l' h' none _) _ => chkE c a l && chkO c lo l' && chkO c hi h'
    | _ => false
  | .rev a, x => match x with
    | .Subscript l (.Slice none none (some (.UnaryOp .USub (.Constant (.int 1) _ _) _)) _) _ => chkE c a l
    | _ => false
  | .tup es, x => match x with
    | .Tuple xs _ _ => chkA c es xs && decide (xs.length < 1000)
    | _ => false
  | .lst es, x => match x with
    | .List xs _ => chkA c es xs && decide (xs.length < 1000)
    | _ => false
  | .dic0, x => match x with
    | .Dict [] [] _ => true
    | _ => false
  | .dic1 k v, x => match x with
    | .Dict [some k'] [v'] _ => chkE c k k' && chkE c v v'
    | _ => false
  | .call f es, x => match x with
    | .Call (.Name y _) (z :: zs) [] _ => decide (c.fn f = some y) && c.gl y && chkA c es (z :: zs)
    | .Call (.Name y _) [] [] _ => decide (c.fn f = some y) && c.gl y && chkA c es []
    | .Call (.Name y _) [] (k :: ks) _ => (match kwNs (k :: ks) with
      | some ns => decide (c.kn f = some (y, some ns))
      | none => false) && c.gl y && chkK c es (k :: ks)
    | .Attribute (.Call (.Name y _) [] [⟨some a, e, _⟩] _) v _ => decide (c.kn f = some (y, none)) && c.gl y && decide (a = "value") && decide (v = "value") && chkA c es [e]
    | _ => false
  | .bi b es, x => match x with
    | .Call (.Name y _) (z :: zs) [] _ => match b with
      | .lrng1 => match zs, z with
        | [], .Call (.Name r _) [w] [] _ => decide (y = "list") && c.bt y && decide (r = "range") && c.bt r && chkA c es [w]
        | _, _ => false
      | .lrng2 => false
      | .reprD => c.gd && decide (y = "repr") && c.bt y && chkA c es (z :: zs)
      | b => decide (y = b.name) && c.bt y && chkA c es (z :: zs)
    | _ => false
  | .me m a es, x => match x with
    | .Call (.Attribute o y p) (z :: zs) [] q => decide (y = m.name) && (match m with
      | .count => false
      | _ => true) && chkE c a o && notSuper o && chkA c es (z :: zs) && decide ((z :: zs).length < 20) && (p.endLine == q.line)
    | _ => false
  | .mt m i es, x => match x with
    | .Call (.Attribute (.Name o op) y p) zs [] q => decide (y = m.name) && c.vis o i && chkA c es zs && decide (zs.length < 20) && (p.endLine == q.line)
    | _ => false
  | .fld a f, x => match x with
    | .Attribute o y _ => decide (y = f) && isFld f && chkE c a o && notSuper o
    | _ => false
  | .prp a f, x => match x with
    | .Attribute o y _ => decide (c.pn f = some y) && decide (y ≠ "__eq__") && chkE c a o && notSuper o
    | _ => false
  | .eqT n f a b, x => match x with
    | .Compare l [p] [r] _ => decide (p = bif n then .NotEq else .Eq) && decide (c.pn f = some "__eq__") && chkE c a l && chkE c b r
    | _ => false
  | .isi a t, x => match x with
    | .Call (.Name y _) [z, .Name w _] [] _ => decide (y = "isinstance") && c.bt y && chkE c a z && notStar z && decide (t.name c.cn = some w) && c.gl w && (match t with
      | .own _ => true
      | .exc _ => true
      | .fte => true
      | _ => c.free.contains w)
    | _ => false
  | .lc own t it d e, x => match x with
    | .ListComp elt [⟨tg, iter, ifs, 0⟩] s _ => c.block s own && chkTg (c.inner s) t tg && tgIn t own && chkI c it iter && itTg it tg && chkC (c.inner s) d ifs && chkE (c.inner s) e elt
    | _ => false
  | .lc2 own own2 t it d t2 it2 d2 e, x => match x with
    | .ListComp elt [⟨tg, iter, ifs, 0⟩, ⟨tg2, iter2, ifs2, 0⟩] s _ => c.block s own && (own2.all fun i => own.contains i) && chkTg (c.inner s) t tg && tgIn t own && chkI c it iter && itTg it tg && chkC (c.inner s) d ifs &&
        chkTg (c.inner s) t2 tg2 && tgIn t2 own2 && chkI (c.inner s) it2 iter2 && itTg it2 tg2 && chkC (c.inner s) d2 ifs2 && chkE (c.inner s) e elt
    | _ => false
  | .dc own t it k v, x => match x with
    | .DictComp k' v' [⟨tg, iter, [], 0⟩] s _ => c.block s own && chkTg (c.inner s) t tg && tgIn t own && chkI c it iter && itTg it tg && chkE (c.inner s) k k' && chkE (c.inner s) v v'
    | _ => false
def chkO (c : Cfg) : O → Option Expr → Bool
  | .no, x => match x with
    | none => true
    | _ => false
  | .so e, x => match x with
    | some y => chkE c e y
    | _ => false
def chkC (c : Cfg) : O → List Expr → Bool
  | .no, x => match x with
    | [] => true
    | _ => false
  | .so e, x => match x with
    | [y] => chkE c e y && noIf e
    | _ => false
def chkA (c : Cfg) : Es → List Expr → Bool
  | .nil, x => match x with
    | [] => true
    | _ => false
  | .cons e es, x => match x with
    | y :: ys => chkE c e y && notStar y && chkA c es ys
    | _ => false
def chkK (c : Cfg) : Es → List Keyword → Bool
  | .nil, x => match x with
    | [] => true
    | _ => false
  | .cons e es, x => match x with
    | ⟨_, y, _⟩ :: ys => chkE c e y && chkK c es ys
    | _ => false
def chkI (c : Cfg) : It → Expr → Bool
  | .val e, x => chkE c e x && notSet x
  | .keys e, x => false
  | .rng1 a, x => match x with
    | .Call (.Name y _) [z] [] _ => decide (y = "range") && c.bt y && chkE c a z && notStar z
    | _ => false
  | .rng2 a b, x => match x with
    | .Call (.Name y _) [z, w] [] _ => decide (y = "range") && c.bt y && chkE c a z && notStar z && chkE c b w && notStar w
    | _ => false
  | .enum e, x => match x with
    | .Call (.Name y _) [z] [] _ => decide (y = "enumerate") && c.bt y && chkE c e z && notStar z
    | _ => false
  | .zip a b, x => match x with
    | .Call (.Name y _) [z, w] [] _ => decide (y = "zip") && c.bt y && chkE c a z && notStar z && chkE c b w && notStar w
    | _ => false
end
/-- both stores in the frame's own places, by the machine's swap -/
def parOk (c : Cfg) (ts vs : List Expr) : Bool := (ts.all fun t => match t with
    | .Name x p => decide (c.kind x = some .local) && (p.line == ((ts.head?.map (·.pos.line)).getD 0))
    | _ => false) && !(vs.all (foldedForSure 8)) && !(vs.all (constantsAlone 8))
/-- some name is a cell: a tuple is made and taken apart -/
def parCell (c : Cfg) (ts : List Expr) : Bool := ts.any fun t => match t with
    | .Name x _ => !decide (c.kind x = some .local)
    | _ => false
mutual
def chkS (c : Cfg) : S → Stmt → Bool
  | .set i e, x => match x with
    | .Assign [.Name y py] v p => c.sto y i && chkE c e v && (notComp v || (match v with
      | .ListComp _ _ s q => (py.line == q.line) && decide (c.kind y = some .local) && !(s.names.any fun (n, k) => n == y && (k == .local || k == .cell)) || !decide (c.kind y = some .local)
      | _ => false))
    | _ => false
  | .setT l e, x => match x with
    | .Assign [.Tuple ts k q] v p => chkNms c l ts && chkE c e v && notTup v
    | _ => false
  | .par2 i j a b, x => match x with
    | .Assign [.Tuple [s, t] k q] (.Tuple [v, w] k2 q2) p => chkNm c i s && chkNm c j t && decide (i ≠ j) && chkE c a v && notStar v && chkE c b w && notStar w && (parOk c [s, t] [v, w] || parCell c [s, t])
    | _ => false
  | .par3 i j l a b d, x => match x with
    | .Assign [.Tuple [s, t, u] k q] (.Tuple [v, w, z] k2 q2) p => chkNm c i s && chkNm c j t && chkNm c l u && decide (i ≠ j) && decide (i ≠ l) && decide (j ≠ l) && chkE c a v && notStar v && chkE c b w && notStar w && chkE c d z && notStar z &&
        (parOk c [s, t, u] [v, w, z] || parCell c [s, t, u])
    | _ => false
  | .put i k e, x => match x with
    | .Assign [.Subscript (.Name y _) r _] v p => c.vis y i && chkE c k r && notSlice r && chkE c e v
    | _ => false
  | .swap i a b, x => match x with
    | .Assign [.Tuple [.Subscript (.Name y _) r _, .Subscript (.Name y' _) r' _] _ _] (.Tuple [.Subscript (.Name z _) s _, .Subscript (.Name z' _) s' _] _ _) _ =>
        c.vis y i && c.vis y' i && c.vis z i && c.vis z' i && chkE c a r && chkE c b r' && chkE c b s && chkE c a s' && notSlice r && notSlice r' && notSlice s && notSlice s' && (match a, b with
        | .loc _, .loc _ => true
        | _, _ => false)
    | _ => false
  | .ex e, x => match x with
    | .Expr v _ => chkE c e v && notComp v
    | _ => false
  | .ret e, x => match x with
    | .Return (some v) _ => chkE c e v
    | _ => false
  | .retN, x => match x with
    | .Return none _ => true
    | _ => false
  | .pass, x => match x with
    | .Pass _ => true
    | _ => false
  | .never, _ => true
  | .ifs t a b, x => match x with
    | .If v l r _ => chkE c t v && noIf t && chkB c a l && chkB c b r
    | _ => false
  | .for_ t it b, x => match x with
    | .For tg iter body [] _ => chkTg c t tg && chkI c it iter && itTg it tg && chkB c b body
    | _ => false
  | .forK i t b, x => match x with
    | .For tg (.Name y _) body [] _ => c.vis y i && decide (c.fix = []) && chkTg { c with fix := [i] } t tg && chkB { c with fix := [i] } b body
    | _ => false
  | .whl t b, x => match x with
    | .While v body [] _ => chkE c t v && noIf t && chkB c b body
    | _ => false
def chkB (c : Cfg) : Ss → List Stmt → Bool
  | .nil, x => match x with
    | [] => true
    | _ => false
  | .cons s ss, x => match x with
    | y :: ys => chkS c s y && chkB c ss ys
    | _ => false
  | .cut i f j kp pre neg t oth mid k s post fin, x => match x with
    | .Assign [.Name y py] (.Call (.Name gn gp) [.Name w wp] [] cp) p :: ys => c.sto y i && decide (c.fn f = some gn) && c.gl gn && c.vis w j && decide (c.fix = []) && pre.plain && mid.plain && chkB { c with fix := i :: kp } pre (ys.take pre.len) &&
        (match ys.drop pre.len with
        | .If tv b1 b2 ip :: zs => chkE c t tv && noIf t && chkB c oth (bif neg then b1 else b2) && chkB { c with fix := i :: kp } mid ((bif neg then b2 else b1).take mid.len) && chkB c fin zs &&
            (match (bif neg then b2 else b1).drop mid.len with
            | .Expr (.Call (.Attribute (.Subscript (.Name y2 py2) (.Constant (.int kk) ck cp2) sp) at_ ap) [.Constant (.str u) ck3 cp3] [] q) ep :: ws => c.vis y2 i && decide (kk = (k : Int)) && decide (at_ = "append") && decide (u = s) && fits s.length && s.cps.all (· < 0x110000) && (ap.endLine == q.line) && chkB c post ws
            | _ => false)
        | _ => false)
    | _ => false
end
end FT

set_option Elab.async false
set_option linter.all false
set_option maxRecDepth 100000
set_option autoImplicit false
set_option maxHeartbeats 1000000
namespace FT
open PySem PySem.Spec PyProof.Rows L2
/-! ### what stands: judgements at a state -/
def OkE (X : Cx) (x : Expr) (σ : L2.St) (H : Hp) (K : VK) : Prop := ∃ t, PE X x t ∧ t σ H K
def OkT (X : Cx) (x : Expr) (σ : L2.St) (H : Hp) (K : Bool → Hp → Prop) : Prop := ∃ t, PT X x t ∧ t σ H K
def OkW (X : Cx) (x : Expr) (σ : L2.St) (H : Hp) (K : Bool → Hp → Prop) : Prop := ∃ t, PW X x t ∧ t σ H K
def OkA (X : Cx) (xs : List Expr) (σ : L2.St) (H : Hp) (K : List V → Hp → Prop) : Prop := ∃ t, PA X xs t ∧ t σ H K
def OkS (X : Cx) (x : Stmt) (D : Ends) (σ : L2.St) (H : Hp) : Prop := ∃ t, PS X x t ∧ t D σ H
def OkB (X : Cx) (x : List Stmt) (D : Ends) (σ : L2.St) (H : Hp) : Prop := ∃ t, PSs X x t ∧ t D σ H
def OkI (X : Cx) (tg x : Expr) (σ : L2.St) (H : Hp) (R : L2.It → Hp → Prop) : Prop := ∃ t, PI X tg x t ∧ t σ H R
def OkG (X : Cx) (x : Expr) (v : V) (σ : L2.St) (H : Hp) (Q : L2.St → Hp → Prop) : Prop := ∃ t, PG X x t ∧ t v σ H Q
def OkO (X : Cx) (f : Value → Value → Sem Value) : R2 := fun x y H K => ∃ r, OpR X f r ∧ r x y H K
section
variable {X : Cx}
theorem peK (x : Expr) : PE X x (OkE X x) := ⟨fun pins s σ H Q I ⟨t, p, h⟩ => p.run pins s σ H Q I h⟩
theorem ptK (x : Expr) : PT X x (OkT X x) := ⟨fun pins s σ H Q I ⟨t, p, h⟩ => p.run pins s σ H Q I h⟩
theorem pwK (x : Expr) : PW X x (OkW X x) := ⟨fun wh pins s σ H Q I ⟨t, p, h⟩ => p.run wh pins s σ H Q I h⟩
theorem paK (x : List Expr) : PA X x (OkA X x) := ⟨fun pos pins s σ H Q I ⟨t, p, h⟩ => p.run pos pins s σ H Q I h⟩
theorem psK (x : Stmt) : PS X x (OkS X x) := ⟨fun pins s σ H D I ⟨t, p, h⟩ => p.run pins s σ H D I h⟩
theorem pbK (x : List Stmt) : PSs X x (OkB X x) := ⟨fun pins s σ H D I ⟨t, p, h⟩ => p.run pins s σ H D I h⟩
theorem piK (tg x : Expr) : PI X tg x (OkI X tg x) := ⟨fun pins s σ H R I ⟨t, p, h⟩ => p.run pins s σ H R I h⟩
theorem pgK (x : Expr) : PG X x (fun v σ H Q => OkG X x v σ H Q) := ⟨fun pins s σ H v u Q I r ⟨t, p, h⟩ => p.run pins s σ H v u Q I r h⟩
theorem oprK (f : Value → Value → Sem Value) : OpR X f (OkO X f) := fun pins s σ H x y v u Q I r1 r2 ⟨r, p, h⟩ => p pins s σ H x y v u Q I r1 r2 h
end
/-! ### contracts over the heap -/
def RetR (g : G) (r : RK) (F' H H' : Hp) (d : D) (v : V) : Prop := match r with
  | .nor => Rep g F' d v
  | .flt => d.flat = true ∧ Rep g F' d v
  | .fre => (d.flat = true ∧ Rep g F' d v) ∨ (d.flat = false ∧ ∃ a o, v = .ref a ∧ F' a = none ∧ H a = none ∧ H' a = some o ∧ RepO g F' d o)
structure CStp (F H F' H' : Hp) (A : Addr → Prop) : Prop where
  sub : Same F F'
  sub2 : Same F' H'
  keep : ∀ (b : Addr) (o : HO), H b = some o → ¬ A b → H' b = some o
  newF : ∀ (b : Addr), F' b ≠ none → F b ≠ none ∨ H b = none
  grow : ∀ (b : Addr), H' b = none → H b = none
def Con.sp (g : G) (c : Con) (vs : List V) (H : Hp) (K : VK) : Prop := match c.io with
  | false => ∃ F ds, Same F H ∧ RepL g F ds vs ∧ c.wp ds fun d _ => ∀ F' H' v, CStp F H F' H' (fun _ => False) → RetR g c.ret F' H H' d v → K v H'
  | true => ∃ F d0 ds a o vr, vs = .ref a :: vr ∧ Same F H ∧ F a = none ∧ H a = some o ∧ RepO g F d0 o ∧ RepL g F ds vr ∧
      c.wp (d0 :: ds) fun d out => ∀ F' H' v o', CStp F H F' H' (fun b => b = a) → F' a = none → H' a = some o' → RepO g F' out o' → RetR g c.ret F' H H' d v → K v H'
def notStars (xs : List Expr) : Bool := xs.all notStar
def CallOk (g : G) (X : Cx) (nm : Str) (c : Con) : Prop := ∀ (x : Expr) (xs : List Expr) (p pos : Pos) (σ : L2.St) (H : Hp) (K : VK), notStars (x :: xs) = true → OkA X (x :: xs) σ H (fun vs H1 => c.sp g vs H1 K) → OkE X (.Call (.Name nm p) (x :: xs) [] pos) σ H K
def CallOk0 (g : G) (X : Cx) (nm : Str) (c : Con) : Prop := ∀ (p pos : Pos) (σ : L2.St) (H : Hp) (K : VK), c.sp g [] H K → OkE X (.Call (.Name nm p) [] [] pos) σ H K
/-- keywords: their values from the left -/
def OkK (X : Cx) (kws : List Keyword) (σ : L2.St) (H : Hp) (K : List V → Hp → Prop) : Prop := ∃ t, PK X kws t ∧ t σ H K
theorem pkK (X : Cx) (x : List Keyword) : PK X x (OkK X x) := ⟨fun pos pins s σ H Q I ⟨t, p, h⟩ => p.run pos pins s σ H Q I h⟩
def CallOkK (g : G) (X : Cx) (nm : Str) (ks : List Str) (c : Con) : Prop := ∀ (kws : List Keyword) (p pos : Pos) (σ : L2.St) (H : Hp) (K : VK), kwNs kws = some ks → OkK X kws σ H (fun vs H1 => c.sp g vs H1 K) → OkE X (.Call (.Name nm p) [] kws pos) σ H K
/-- C(value = x).value -/
def ExvOk (g : G) (X : Cx) (nm : Str) (c : Con) : Prop := ∀ (x : Expr) (p p2 kp pos : Pos) (σ : L2.St) (H : Hp) (K : VK), OkE X x σ H (fun v H1 => c.sp g [v] H1 K) → OkE X (.Attribute (.Call (.Name nm p) [] [⟨some "value", x, kp⟩] p2) "value" pos) σ H K
def PropOk (g : G) (X : Cx) (at_ : Str) (c : Con) : Prop := ∀ (x : Expr) (pos : Pos) (σ : L2.St) (H : Hp) (K : VK), notSuper x = true → OkE X x σ H (fun v H1 => c.sp g [v] H1 K) → OkE X (.Attribute x at_ pos) σ H K
def EqOk (g : G) (X : Cx) (c : Con) : Prop := ∀ (n : Bool) (v u : V) (H : Hp) (K : VK), c.sp g [v, u] H (fun w H1 => ∃ k, w = .bl k ∧ K (.bl (n != k)) H1) → OkO X (compareOp (bif n then .NotEq else .Eq)) v u H K
/-! ### where one stands -/
structure BF where
  prog : Program
  w : World
  K : PySem.W.Frag
  mg : Str → Option Value
  base : Heap
  A : Around
structure Lk (b : BF) (X : Cx) : Prop where
  prog : X.prog = b.prog
  w : X.w = b.w
  K : X.K = b.K
  mg : X.mg = b.mg
  base : X.base = b.base
  A : X.A = b.A
  calm : X.calm = true
  xe : X.xe = fun _ _ => False
/-- what the written part says of the own exception classes -/
structure ExcTy (g : G) (K : PySem.W.Frag) (mg : Str → Option Value) : Prop where
  on : ∀ c x, xN c = some x → g.xc c = some x
  mgX : ∀ c x, g.xc c = some x → mg x = some (.ref (exA g c))
  xf : ∀ c x, g.xc c = some x → XfC K (exA g c)
  no : ∀ c x, g.xc c = some x → PySem.W.findIn K (.ref (exA g c)) "value" = some none
  cls : ∀ c x, g.xc c = some x → (PySem.W.clsIn K (exA g c)).isSome = true
  ca : ∀ c x, g.xc c = some x → PySem.W.findIn K (.ref (exA g c)) "__class__" = some (some (.builtin "object.__class__"))
  mo : ∀ c x, g.xc c = some x → PySem.W.mroIn K (exA g c) (.type "object") = some true
  kit : ∀ c c' x y, g.xc c = some x → g.xc c' = some y → PySem.W.kitOne K (.ref (exA g c)) (.ref (exA g c')) = some (decide (c = c'))
  kitF : ∀ c x, g.xc c = some x → PySem.W.kitOne K (.ref (exA g c)) (.ref (He.ga K "FitTreesError")) = some true
  kitV : ∀ c x, g.xc c = some x → PySem.W.kitOne K (.ref (exA g c)) (.type "ValueError") = some true
  mgF : mg "FitTreesError" = some (.ref (He.ga K "FitTreesError"))
structure Ty (g : G) (K : PySem.W.Frag) (mg : Str → Option Value) : Prop where
  gK : g.K = K
  cls : ∀ c x, g.cn c = some x → Cls K (g.cl c) ∧ mg x = some (.ref (g.cl c)) ∧ PySem.W.findIn K (.ref (g.cl c)) "__class__" = some (some (.builtin "object.__class__"))
  co1 : PySem.W.specialIn K (.builtin "object.__class__") "__get__" = some (some (.builtin "getset_descriptor.__get__"))
  co2 : PySem.W.takesIn K (.builtin "object.__class__") = some true
  xcs : (∀ c, g.xc c = none) ∨ ExcTy g K mg
  smk : (K.lookup sysModules).isSome = true
  mro : ∀ c x, g.cn c = some x → PySem.W.mroIn K (g.cl c) (.type "object") = some true
  flds : ∀ c x, g.cn c = some x → ∀ f : Str, isFld f = true → NoAttr K (g.cl c) f
  kit : ∀ c c' x y, g.cn c = some x → g.cn c' = some y → PySem.W.kitOne K (.ref (g.cl c)) (.ref (g.cl c')) = some (decide (c = c'))
  kitT : ∀ c x, g.cn c = some x → ∀ t : String, t = "str" ∨ t = "list" ∨ t = "tuple" ∨ t = "dict" → PySem.W.kitOne K (.ref (g.cl c)) (.type t) = some false
  kitO : ∀ c x, g.cn c = some x → ∀ t : String, t = "str" ∨ t = "list" ∨ t = "tuple" ∨ t = "dict" ∨ t = "int" ∨ t = "bool" ∨ t = "NoneType" → PySem.W.kitOne K (.type t) (.ref (g.cl c)) = some false
/-- what the checker's table says is so -/
structure Env1 (g : G) (b : BF) (Γ : Nat → Option Con) (fn pn cn : Nat → Option Str) (kn : Nat → Option (Str × Option (List Str))) (free : List Str) : Prop where
  ty : Ty g b.K b.mg
  cnE : cn = g.cn
  free : ∀ x ∈ free, b.mg x = none
  room : Room 1 b.A
  call : ∀ f c x, Γ f = some c → fn f = some x → ∀ X, Lk b X → Gl X x → CallOk g X x c
  call0 : ∀ f c x, Γ f = some c → fn f = some x → ∀ X, Lk b X → Gl X x → CallOk0 g X x c
  callK : ∀ f c x ns, Γ f = some c → kn f = some (x, some ns) → ∀ X, Lk b X → Gl X x → CallOkK g X x ns c
  exv : ∀ f c x, Γ f = some c → kn f = some (x, none) → ∀ X, Lk b X → Gl X x → ExvOk g X x c
  prop : ∀ f c x, Γ f = some c → pn f = some x → x ≠ "__eq__" → ∀ X, Lk b X → PropOk g X x c
  eq : ∀ f c, Γ f = some c → pn f = some "__eq__" → ∀ X, Lk b X → EqOk g X c
structure CfgOk (g : G) (b : BF) (Γ : Nat → Option Con) (X : Cx) (c : Cfg) : Prop where
  lk : Lk b X
  N : X.N = c.N
  nd : X.N.Nodup
  sc : X.env.scope = c.sc
  kind : X.env.scope.kind = .function
  e : Env1 g b Γ c.fn c.pn c.cn c.kn c.free
  gd : c.gd = true → X.A.guards = some []
  blk : match c.blk with
    | none => ∀ x, X.fn x = true
    | some s => (∀ x, s.names.lookup x = some .cell → X.fn x = true) ∧ ∀ x, s.names.lookup x = some .local → c.sc.names.lookup x = some .local
section
variable {g : G} {b : BF} {Γ : Nat → Option Con} {X : Cx} {c : Cfg}
theorem CfgOk.vis (C : CfgOk g b Γ X c) {x : Str} {i : Nat} (h : c.vis x i = true) : X.N[i]? = some x ∧ Vis X.env.scope x ∧ (x == ("__debug__" : Str)) = false ∧ (x == ("__classdict__" : Str)) = false := by
  unfold Cfg.vis at h
  simp only [Bool.and_eq_true, decide_eq_true_eq] at h
  obtain ⟨⟨h1, h2⟩, h3⟩ := h
  unfold plainN at h3
  simp only [Bool.and_eq_true, Bool.not_eq_true'] at h3
  refine ⟨by rw [C.N]; exact h1, ?_, h3.1.1, h3.1.2⟩
  unfold Vis
  rw [C.sc]
  unfold Cfg.kind at h2
  cases e : c.sc.names.lookup x with
  | none => rw [e] at h2; cases h2
  | some k =>
    rw [e] at h2
    cases k with
    | «local» => exact .inl rfl
    | cell => exact .inr (.inl rfl)
    | free => exact .inr (.inr rfl)
    | _ => cases h2
theorem CfgOk.gl (C : CfgOk g b Γ X c) {x : Str} (h : c.gl x = true) : Gl X x ∧ (x == ("__debug__" : Str)) = false ∧ x ≠ "__name__" := by
  unfold Cfg.gl at h
  simp only [Bool.and_eq_true] at h
  obtain ⟨h2, h3⟩ := h
  unfold plainN at h3
  simp only [Bool.and_eq_true, Bool.not_eq_true', decide_eq_true_eq] at h3
  refine ⟨?_, h3.1.1, h3.2⟩
  unfold Gl Env.kindOf
  rw [C.sc]
  unfold Cfg.kind at h2
  cases e : c.sc.names.lookup x with
  | none => rw [e] at h2; cases h2
  | some k =>
    rw [e] at h2
    cases k <;> first | rfl | cases h2
theorem CfgOk.bt (C : CfgOk g b Γ X c) {x : Str} (h : c.bt x = true) : Gl X x ∧ X.mg x = none ∧ (x == ("__debug__" : Str)) = false ∧ x ≠ "__name__" := by
  unfold Cfg.bt at h
  simp only [Bool.and_eq_true] at h
  obtain ⟨h1, h2, h3⟩ := C.gl h.1
  exact ⟨h1, by rw [C.lk.mg]; exact C.e.free x (List.contains_iff_mem.mp h.2), h2, h3⟩
theorem CfgOk.sto (C : CfgOk g b Γ X c) {x : Str} {i : Nat} (h : c.sto x i = true) : X.N[i]? = some x ∧ L2.Loc X.env.scope x ∧ (X.fn x = true ∨ X.env.scope.names.lookup x = some .local) ∧ i ∉ c.fix := by
  unfold Cfg.sto at h
  simp only [Bool.and_eq_true, decide_eq_true_eq] at h
  obtain ⟨⟨⟨h0, h1⟩, h2⟩, h3⟩ := h
  have h0 : i ∉ c.fix := fun z => by
    rw [List.contains_iff_mem.mpr z] at h0
    cases h0
  have hl : L2.Loc X.env.scope x := by
    unfold L2.Loc
    rw [C.sc]
    unfold Cfg.kind at h2
    cases e : c.sc.names.lookup x with
    | none => rw [e] at h2; cases h2
    | some k =>
      rw [e] at h2
      cases k with
      | «local» => exact .inl rfl
      | cell => exact .inr rfl
      | _ => cases h2
  refine ⟨by rw [C.N]; exact h1, hl, ?_, h0⟩
  have B := C.blk
  cases eb : c.blk with
  | none => rw [eb] at B; exact .inl (B x)
  | some s =>
    rw [eb] at B h3
    dsimp only at B h3
    cases e : s.names.lookup x with
    | none => rw [e] at h3; cases h3
    | some k =>
      rw [e] at h3
      cases k with
      | «local» => exact .inr (by rw [C.sc]; exact B.2 x e)
      | cell => exact .inl (B.1 x e)
      | _ => cases h3
theorem CfgOk.hu (C : CfgOk g b Γ X c) : X.A.units + 64 + 65 < cLine := by
  rw [C.lk.A]
  have := C.e.room.un
  omega
end
/-! ### expressions: what soundness says -/
def PostE (g : G) (ρ : List Sl) (σ : L2.St) (F H : Hp) (Q : D → Option Nat → List Sl → Prop) (K : VK) : Prop :=
  ∀ d s ρ' F' v H', Q d s ρ' → Stp ρ σ F H ρ' σ F' H' → SR g F' ρ' σ H' → VR g F' σ s d v → K v H'
def PostT (g : G) (ρ : List Sl) (σ : L2.St) (F H : Hp) (Q : D → Option Nat → List Sl → Prop) (K : Bool → Hp → Prop) : Prop :=
  ∀ k s ρ' F' H', Q (.bl k) s ρ' → Stp ρ σ F H ρ' σ F' H' → SR g F' ρ' σ H' → K k H'
def VRs (g : G) (F : Hp) (σ : L2.St) : List Raw → List V → Prop
  | [], vs => vs = []
  | r :: rs, vs => ∃ v vr, vs = v :: vr ∧ VR g F σ r.2 r.1 v ∧ VRs g F σ rs vr
def PostA (g : G) (n : Nat) (ρ : List Sl) (σ : L2.St) (F H : Hp) (Q : List Raw → List Sl → Prop) (K : List V → Hp → Prop) : Prop :=
  ∀ rs ρ' F' vs H', rs.length = n → Q rs ρ' → Stp ρ σ F H ρ' σ F' H' → SR g F' ρ' σ H' → VRs g F' σ rs vs → K vs H'
theorem VRs.mono {g : G} {F F' : Hp} {σ : L2.St} (h : Same F F') : ∀ {rs : List Raw} {vs : List V}, VRs g F σ rs vs → VRs g F' σ rs vs
  | [], _, r => r
  | _ :: _, _, ⟨v, vr, e, q, r⟩ => ⟨v, vr, e, q.mono h, VRs.mono h r⟩
section
variable (g : G) (b : BF) (Γ : Nat → Option Con) (c : Cfg)
def SndE (e : E) (x : Expr) : Prop := ∀ X, CfgOk g b Γ X c → ∀ ρ Q, wE Γ e ρ Q → ∀ F σ H K, SR g F ρ σ H → PostE g ρ σ F H Q K → OkE X x σ H K
def SndT (e : E) (x : Expr) : Prop := ∀ X, CfgOk g b Γ X c → ∀ ρ Q, wE Γ e ρ Q → ∀ F σ H K, SR g F ρ σ H → (∀ d s ρ', Q d s ρ' → ∃ k, d = .bl k) → PostT g ρ σ F H Q K → OkT X x σ H K
def SndK (es : Es) (kws : List Keyword) : Prop := ∀ X, CfgOk g b Γ X c → ∀ ρ Q, wA Γ es ρ Q → ∀ F σ H K, SR g F ρ σ H → PostA g kws.length ρ σ F H Q K → OkK X kws σ H K
def SndA (es : Es) (xs : List Expr) : Prop := ∀ X, CfgOk g b Γ X c → ∀ ρ Q, wA Γ es ρ Q → ∀ F σ H K, SR g F ρ σ H → PostA g xs.length ρ σ F H Q K → OkA X xs σ H K
end
end FT

set_option Elab.async false
set_option linter.all false
set_option maxRecDepth 100000
set_option autoImplicit false
set_option maxHeartbeats 1000000
namespace FT
open PySem PySem.Spec PyProof.Rows L2
/-! ### representations -/
theorem RepL.len {g : G} {F : Hp} : ∀ {ds : List D} {vs : List V}, RepL g F ds vs → vs.length = ds.length
  | [], _, r => by cases (show _ = [] from r); rfl
  | _ :: ds, _, ⟨v, vr, e, _, r⟩ => by subst e; rw [List.length_cons, List.length_cons, RepL.len r]
theorem RepL.get {g : G} {F : Hp} : ∀ {ds : List D} {vs : List V} {i : Nat} {d : D}, RepL g F ds vs → ds[i]? = some d → ∃ v, vs[i]? = some v ∧ Rep g F d v
  | [], _, _, _, _, h => by simp at h
  | _ :: ds, _, 0, _, ⟨v, vr, e, q, _⟩, h => by subst e; simp at h; subst h; exact ⟨v, rfl, q⟩
  | _ :: ds, _, i + 1, d, ⟨v, vr, e, _, r⟩, h => by
    subst e
    rw [List.getElem?_cons_succ] at h ⊢
    exact RepL.get r h
theorem RepL.nth {g : G} {F : Hp} : ∀ {ds : List D} {vs : List V} {i : Nat} {v : V}, RepL g F ds vs → vs[i]? = some v → ∃ d, ds[i]? = some d ∧ Rep g F d v
  | [], _, _, _, r, h => by cases (show _ = [] from r); simp at h
  | d :: ds, _, 0, _, ⟨v, vr, e, q, _⟩, h => by subst e; simp at h; subst h; exact ⟨d, rfl, q⟩
  | _ :: ds, _, i + 1, d, ⟨v, vr, e, _, r⟩, h => by
    subst e
    rw [List.getElem?_cons_succ] at h ⊢
    exact RepL.nth r h
theorem RepL.append {g : G} {F : Hp} : ∀ {a b : List D} {u v : List V}, RepL g F a u → RepL g F b v → RepL g F (a ++ b) (u ++ v)
  | [], _, _, _, r, s => by cases (show _ = [] from r); exact s
  | _ :: _, _, _, _, ⟨v, vr, e, q, r⟩, s => by subst e; exact ⟨v, _, rfl, q, RepL.append r s⟩
theorem RepL.snoc {g : G} {F : Hp} {a : List D} {u : List V} {d : D} {v : V} (r : RepL g F a u) (q : Rep g F d v) : RepL g F (a ++ [d]) (u ++ [v]) := r.append ⟨v, [], rfl, q, rfl⟩
theorem RepL.take {g : G} {F : Hp} : ∀ {a : List D} {u : List V} (n : Nat), RepL g F a u → RepL g F (a.take n) (u.take n)
  | [], _, n, r => by cases (show _ = [] from r); cases n <;> rfl
  | _ :: _, _, 0, ⟨v, vr, e, q, r⟩ => by subst e; rfl
  | _ :: _, _, n + 1, ⟨v, vr, e, q, r⟩ => by subst e; exact ⟨v, _, rfl, q, RepL.take n r⟩
theorem RepL.drop {g : G} {F : Hp} : ∀ {a : List D} {u : List V} (n : Nat), RepL g F a u → RepL g F (a.drop n) (u.drop n)
  | [], _, n, r => by cases (show _ = [] from r); cases n <;> rfl
  | _ :: _, _, 0, ⟨v, vr, e, q, r⟩ => by subst e; exact ⟨v, _, rfl, q, r⟩
  | _ :: _, _, n + 1, ⟨v, vr, e, q, r⟩ => by subst e; exact RepL.drop n r
theorem RepL.reverse {g : G} {F : Hp} : ∀ {a : List D} {u : List V}, RepL g F a u → RepL g F a.reverse u.reverse
  | [], _, r => by cases (show _ = [] from r); rfl
  | _ :: _, _, ⟨v, vr, e, q, r⟩ => by
    subst e
    rw [List.reverse_cons, List.reverse_cons]
    exact (RepL.reverse r).snoc q
theorem RepL.set {g : G} {F : Hp} {d : D} {v : V} (q : Rep g F d v) : ∀ {a : List D} {u : List V} (n : Nat), RepL g F a u → RepL g F (a.set n d) (u.set n v)
  | [], _, n, r => by cases (show _ = [] from r); rfl
  | _ :: _, _, 0, ⟨w, vr, e, _, r⟩ => by subst e; exact ⟨v, _, rfl, q, r⟩
  | _ :: _, _, n + 1, ⟨w, vr, e, q', r⟩ => by subst e; exact ⟨w, _, rfl, q', RepL.set q n r⟩
theorem RepL.flat {g : G} {F : Hp} {a : List D} {u : List V} (r : RepL g F a u) : ∀ k : Nat, RepL g F (List.replicate k a).flatten (List.replicate k u).flatten
  | 0 => rfl
  | k + 1 => by
    rw [List.replicate_succ, List.replicate_succ, List.flatten_cons, List.flatten_cons]
    exact r.append (RepL.flat r k)
theorem RepK.len {g : G} {F : Hp} : ∀ {ds : List (Key × D)} {vs : List (Key × V)}, RepK g F ds vs → vs.length = ds.length
  | [], _, r => by cases (show _ = [] from r); rfl
  | (_, _) :: ds, _, ⟨v, vr, e, _, r⟩ => by subst e; rw [List.length_cons, List.length_cons, RepK.len r]
theorem RepK.val {g : G} {F : Hp} {k : Key} : ∀ {ds : List (Key × D)} {vs : List (Key × V)}, RepK g F ds vs → match valD ds k with
    | none => valV vs k = none
    | some d => ∃ v, valV vs k = some v ∧ Rep g F d v
  | [], _, r => by cases (show _ = [] from r); rfl
  | (k', d) :: ds, _, ⟨v, vr, e, q, r⟩ => by
    subst e
    have ih := RepK.val (k := k) r
    unfold valD valV at ih ⊢
    rw [List.find?_cons, List.find?_cons]
    by_cases h : k' = k
    · simp only [h, decide_true]
      exact ⟨v, rfl, q⟩
    · simp only [h, decide_false]
      exact ih
theorem RepK.any {g : G} {F : Hp} {k : Key} : ∀ {ds : List (Key × D)} {vs : List (Key × V)}, RepK g F ds vs → (vs.any fun kv => decide (kv.1 = k)) = ds.any fun kv => decide (kv.1 = k)
  | [], _, r => by cases (show _ = [] from r); rfl
  | (_, _) :: ds, _, ⟨v, vr, e, _, r⟩ => by subst e; rw [List.any_cons, List.any_cons, RepK.any r]
theorem RepK.append {g : G} {F : Hp} : ∀ {a b : List (Key × D)} {u v : List (Key × V)}, RepK g F a u → RepK g F b v → RepK g F (a ++ b) (u ++ v)
  | [], _, _, _, r, s => by cases (show _ = [] from r); exact s
  | (_, _) :: _, _, _, _, ⟨v, vr, e, q, r⟩, s => by subst e; exact ⟨v, _, rfl, q, RepK.append r s⟩
theorem RepK.mapPut {g : G} {F : Hp} {k : Key} {d : D} {v : V} (q : Rep g F d v) : ∀ {a : List (Key × D)} {u : List (Key × V)}, RepK g F a u →
    RepK g F (a.map fun kv => if kv.1 = k then (kv.1, d) else kv) (u.map fun kv => if kv.1 = k then (kv.1, v) else kv)
  | [], _, r => by cases (show _ = [] from r); rfl
  | (k', d') :: _, _, ⟨w, vr, e, q', r⟩ => by
    subst e
    rw [List.map_cons, List.map_cons]
    by_cases h : k' = k
    · rw [if_pos h, if_pos h]; exact ⟨v, _, rfl, q, RepK.mapPut q r⟩
    · rw [if_neg h, if_neg h]; exact ⟨w, _, rfl, q', RepK.mapPut q r⟩
theorem RepK.put {g : G} {F : Hp} {k : Key} {d : D} {v : V} {a : List (Key × D)} {u : List (Key × V)} (q : Rep g F d v) (r : RepK g F a u) : RepK g F (putD a k d) (putK u k v) := by
  unfold putD putK
  rw [RepK.any r]
  cases e : a.any fun kv => decide (kv.1 = k) with
  | true => rw [if_pos rfl]; exact RepK.mapPut q r
  | false => rw [if_neg Bool.false_ne_true]; exact r.append ⟨v, [], rfl, q, rfl⟩
theorem putD_len {k : Key} {d : D} {a : List (Key × D)} : (putD a k d).length ≤ a.length + 1 := by
  unfold putD
  cases a.any fun kv => decide (kv.1 = k) with
  | true => rw [cond_true, List.length_map]; omega
  | false => rw [cond_false, List.length_append]; exact Nat.le_refl _
theorem RepK.merge {g : G} {F : Hp} : ∀ {m : List (Key × D)} {n : List (Key × V)} {a : List (Key × D)} {u : List (Key × V)}, RepK g F a u → RepK g F m n → RepK g F (mergeD a m) (mergeK u n)
  | [], _, _, _, r, s => by cases (show _ = [] from s); exact r
  | (k, d) :: m, _, a, u, r, ⟨v, vr, e, q, s⟩ => by
    subst e
    show RepK g F (mergeD (putD a k d) m) (mergeK (putK u k v) vr)
    exact RepK.merge (RepK.put q r) s
theorem mergeD_len : ∀ {m a : List (Key × D)}, (mergeD a m).length ≤ a.length + m.length
  | [], a => Nat.le_refl _
  | (k, d) :: m, a => by
    have h : (mergeD (putD a k d) m).length ≤ (putD a k d).length + m.length := mergeD_len
    have h2 := @putD_len k d a
    show (mergeD (putD a k d) m).length ≤ a.length + (m.length + 1)
    omega
theorem keyD_rep {g : G} {F : Hp} {d : D} {v : V} {k : Key} (r : Rep g F d v) (h : keyD d = some k) : v = kV k := by
  cases d with
  | int i => cases h; exact r
  | str s => cases h; exact r.1
  | _ => cases h
theorem RdV.key {g : G} {F H : Hp} {d : D} {v : V} {k : Key} (r : RdV g F H d v) (h : keyD d = some k) : v = kV k := by
  cases d with
  | int i => cases h; exact r
  | str s => cases h; exact r.1
  | _ => cases h
theorem RdV.flat {g : G} {F H : Hp} {d : D} {v : V} (r : RdV g F H d v) (h : d.flat = true) : Rep g F d v := by
  cases d <;> first | exact r | cases h
theorem RdV.flatV {g : G} {F H : Hp} {d : D} {v : V} (r : RdV g F H d v) (h : d.flat = true) : L2.flatV v = true := by
  cases d with
  | non => cases (show v = _ from r); rfl
  | bl b => cases (show v = _ from r); rfl
  | int b => cases (show v = _ from r); rfl
  | str b => cases (show v = _ from r.1); rfl
  | _ => cases h
theorem Rep.flatV {g : G} {F : Hp} {d : D} {v : V} (r : Rep g F d v) (h : d.flat = true) : L2.flatV v = true := by
  cases d with
  | non => cases (show v = _ from r); rfl
  | bl b => cases (show v = _ from r); rfl
  | int b => cases (show v = _ from r); rfl
  | str b => cases (show v = _ from r.1); rfl
  | _ => cases h
theorem RepL.flatV {g : G} {F : Hp} : ∀ {ds : List D} {vs : List V}, RepL g F ds vs → ds.all D.flat = true → vs.all L2.flatV = true
  | [], _, r, _ => by cases (show _ = [] from r); rfl
  | _ :: ds, _, ⟨v, vr, e, q, r⟩, h => by
    subst e
    rw [List.all_cons, Bool.and_eq_true] at h ⊢
    exact ⟨q.flatV h.1, RepL.flatV r h.2⟩
theorem eqV_eqB {g : G} {F : Hp} {d e : D} {v u : V} (r : Rep g F d v) (q : Rep g F e u) (h1 : d.flat = true) (h2 : e.flat = true) : eqV v u = eqB d e := by
  cases d with
  | non => cases (show v = _ from r); cases e with
    | non => cases (show u = _ from q); rfl
    | bl b => cases (show u = _ from q); rfl
    | int b => cases (show u = _ from q); rfl
    | str b => cases (show u = _ from q.1); rfl
    | _ => cases h2
  | bl b => cases (show v = _ from r); cases e with
    | non => cases (show u = _ from q); rfl
    | bl b => cases (show u = _ from q); rfl
    | int b' => cases (show u = _ from q); show ((if b then (1 : Int) else 0) == b') = decide (b2i b = b'); rw [Bool.beq_eq_decide_eq]; rfl
    | str b => cases (show u = _ from q.1); rfl
    | _ => cases h2
  | int b => cases (show v = _ from r); cases e with
    | non => cases (show u = _ from q); rfl
    | bl b' => cases (show u = _ from q); show (b == if b' then (1 : Int) else 0) = decide (b = b2i b'); rw [Bool.beq_eq_decide_eq]; rfl
    | int b' => cases (show u = _ from q); show (b == b') = decide (b = b'); rw [Bool.beq_eq_decide_eq]
    | str b => cases (show u = _ from q.1); rfl
    | _ => cases h2
  | str b => cases (show v = _ from r.1); cases e with
    | non => cases (show u = _ from q); rfl
    | bl b' => cases (show u = _ from q); rfl
    | int b' => cases (show u = _ from q); rfl
    | str b' => cases (show u = _ from q.1); show (b == b') = decide (b = b'); rw [Bool.beq_eq_decide_eq]
    | _ => cases h2
  | _ => cases h1
/-! ### data that the machine compares -/
theorem okN_all {n : Nat} {d : D} {ds : List D} (h : (d :: ds).all (okN n) = true) : okN n d = true ∧ ds.all (okN n) = true := by
  rw [List.all_cons, Bool.and_eq_true] at h; exact h
mutual
theorem eqv_toP : ∀ {n m : Nat} {d e : D}, okN n d = true → okN m e = true → PyData.eqv (toP d) (toP e) = eqB d e
  | n, m, .lst a, .lst b, h1, h2 => by
    cases n with
    | zero => cases h1
    | succ n => cases m with
      | zero => cases h2
      | succ m => 
        simp only [toP, PyData.eqv, eqB]
        exact eqvs_toP (n := n) (m := m) h1 h2
  | n, m, .tup a, .tup b, h1, h2 => by
    cases n with
    | zero => cases h1
    | succ n => cases m with
      | zero => cases h2
      | succ m => 
        simp only [toP, PyData.eqv, eqB]
        exact eqvs_toP (n := n) (m := m) h1 h2
  | n, m, .int i, .int j, h1, h2 => by simp only [toP, PyData.eqv, eqB, Bool.beq_eq_decide_eq]
  | n, m, .str i, .str j, h1, h2 => by simp only [toP, PyData.eqv, eqB, Bool.beq_eq_decide_eq]
  | n, m, .bl i, .int j, h1, h2 => by simp only [toP, PyData.eqv, eqB, Bool.beq_eq_decide_eq, b2i]; rfl
  | n, m, .int i, .bl j, h1, h2 => by simp only [toP, PyData.eqv, eqB, Bool.beq_eq_decide_eq, b2i]; rfl
  | n, m, .bl i, .bl j, h1, h2 => by simp only [toP, PyData.eqv, eqB]
  | n, m, .non, .non, h1, h2 => by simp only [toP, PyData.eqv, eqB]
  | n, m, .non, .bl _, h1, h2 => by simp only [toP, PyData.eqv, eqB]
  | n, m, .non, .int _, h1, h2 => by simp only [toP, PyData.eqv, eqB]
  | n, m, .non, .str _, h1, h2 => by simp only [toP, PyData.eqv, eqB]
  | n, m, .non, .lst _, h1, h2 => by simp only [toP, PyData.eqv, eqB]
  | n, m, .non, .tup _, h1, h2 => by simp only [toP, PyData.eqv, eqB]
  | n, m, .bl _, .non, h1, h2 => by simp only [toP, PyData.eqv, eqB]
  | n, m, .bl _, .str _, h1, h2 => by simp only [toP, PyData.eqv, eqB]
  | n, m, .bl _, .lst _, h1, h2 => by simp only [toP, PyData.eqv, eqB]
  | n, m, .bl _, .tup _, h1, h2 => by simp only [toP, PyData.eqv, eqB]
  | n, m, .int _, .non, h1, h2 => by simp only [toP, PyData.eqv, eqB]
  | n, m, .int _, .str _, h1, h2 => by simp only [toP, PyData.eqv, eqB]
  | n, m, .int _, .lst _, h1, h2 => by simp only [toP, PyData.eqv, eqB]
  | n, m, .int _, .tup _, h1, h2 => by simp only [toP, PyData.eqv, eqB]
  | n, m, .str _, .non, h1, h2 => by simp only [toP, PyData.eqv, eqB]
  | n, m, .str _, .bl _, h1, h2 => by simp only [toP, PyData.eqv, eqB]
  | n, m, .str _, .int _, h1, h2 => by simp only [toP, PyData.eqv, eqB]
  | n, m, .str _, .lst _, h1, h2 => by simp only [toP, PyData.eqv, eqB]
  | n, m, .str _, .tup _, h1, h2 => by simp only [toP, PyData.eqv, eqB]
  | n, m, .lst _, .non, h1, h2 => by simp only [toP, PyData.eqv, eqB]
  | n, m, .lst _, .bl _, h1, h2 => by simp only [toP, PyData.eqv, eqB]
  | n, m, .lst _, .int _, h1, h2 => by simp only [toP, PyData.eqv, eqB]
  | n, m, .lst _, .str _, h1, h2 => by simp only [toP, PyData.eqv, eqB]
  | n, m, .lst _, .tup _, h1, h2 => by simp only [toP, PyData.eqv, eqB]
  | n, m, .tup _, .non, h1, h2 => by simp only [toP, PyData.eqv, eqB]
  | n, m, .tup _, .bl _, h1, h2 => by simp only [toP, PyData.eqv, eqB]
  | n, m, .tup _, .int _, h1, h2 => by simp only [toP, PyData.eqv, eqB]
  | n, m, .tup _, .str _, h1, h2 => by simp only [toP, PyData.eqv, eqB]
  | n, m, .tup _, .lst _, h1, h2 => by simp only [toP, PyData.eqv, eqB]
  | n, m, .dic _, _, h1, h2 => by cases n <;> cases h1
  | n, m, .ins _ _, _, h1, h2 => by cases n <;> cases h1
  | n, m, .scr _, _, h1, h2 => by cases n <;> cases h1
  | n, m, .any, _, h1, h2 => by cases n <;> cases h1
  | n, m, .exc _ _, _, h1, h2 => by cases n <;> cases h1
  | n, m, _, .dic _, h1, h2 => by cases m <;> cases h2
  | n, m, _, .ins _ _, h1, h2 => by cases m <;> cases h2
  | n, m, _, .scr _, h1, h2 => by cases m <;> cases h2
  | n, m, _, .any, h1, h2 => by cases m <;> cases h2
  | n, m, _, .exc _ _, h1, h2 => by cases m <;> cases h2
theorem eqvs_toP : ∀ {n m : Nat} {a b : List D}, a.all (okN n) = true → b.all (okN m) = true → PyData.eqvAll (toP.toPs a) (toP.toPs b) = eqL a b
  | n, m, [], [], _, _ => by simp only [toP.toPs, PyData.eqvAll, eqL]
  | n, m, [], _ :: _, _, _ => by simp only [toP.toPs, PyData.eqvAll, eqL]
  | n, m, _ :: _, [], _, _ => by simp only [toP.toPs, PyData.eqvAll, eqL]
  | n, m, d :: a, e :: b, h1, h2 => by
    simp only [toP.toPs, PyData.eqvAll, eqL]
    rw [eqv_toP (okN_all h1).1 (okN_all h2).1, eqvs_toP (okN_all h1).2 (okN_all h2).2]
end
mutual
theorem Dp_of {g : G} {F H : Hp} (sub : Same F H) : ∀ {n : Nat} {d : D} {v : V}, okN n d = true → Rep g F d v → Dp g.K H v (toP d) ∧ (toP d).canLay0 = true ∧ (toP d).depth ≤ n
  | n, .non, v, _, r => by cases (show v = _ from r); exact ⟨.non, by simp only [toP, PyData.canLay0], Nat.zero_le _⟩
  | n, .bl b, v, _, r => by cases (show v = _ from r); exact ⟨.bl b, by simp only [toP, PyData.canLay0], Nat.zero_le _⟩
  | n, .int b, v, _, r => by cases (show v = _ from r); exact ⟨.int b, by simp only [toP, PyData.canLay0], Nat.zero_le _⟩
  | n, .str b, v, _, r => by
    cases (show v = _ from r.1)
    refine ⟨.str b, ?_, Nat.zero_le _⟩
    simp only [toP, PyData.canLay0]
    exact r.2.2
  | 0, .lst _, _, h, _ => by cases h
  | 0, .tup _, _, h, _ => by cases h
  | n + 1, .lst ds, v, h, ⟨a, vs, e, q, _, r⟩ => by
    subst e
    obtain ⟨h1, h2, h3⟩ := Dps_of sub (n := n) (show ds.all (okN n) = true from h) r
    refine ⟨.lst (.of (sub _ _ q)) h1, ?_, ?_⟩
    · simp only [toP, PyData.canLay0]; exact h2
    · simp only [toP, PyData.depth]; omega
  | n + 1, .tup ds, v, h, ⟨a, vs, e, q, _, r⟩ => by
    subst e
    obtain ⟨h1, h2, h3⟩ := Dps_of sub (n := n) (show ds.all (okN n) = true from h) r
    refine ⟨.tup (.of (sub _ _ q)) h1, ?_, ?_⟩
    · simp only [toP, PyData.canLay0]; exact h2
    · simp only [toP, PyData.depth]; omega
  | n, .dic _, _, h, _ => by cases n <;> cases h
  | n, .ins _ _, _, h, _ => by cases n <;> cases h
  | n, .scr _, _, h, _ => by cases n <;> cases h
  | n, .any, _, h, _ => by cases n <;> cases h
  | n, .exc _ _, _, h, _ => by cases n <;> cases h
theorem Dps_of {g : G} {F H : Hp} (sub : Same F H) : ∀ {n : Nat} {ds : List D} {vs : List V}, ds.all (okN n) = true → RepL g F ds vs → DpAll g.K H vs (toP.toPs ds) ∧ PyData.canLayAll0 (toP.toPs ds) = true ∧ PyData.depthAll (toP.toPs ds) ≤ n
  | n, [], _, _, r => by cases (show _ = [] from r); exact ⟨.nil, by simp only [toP.toPs, PyData.canLayAll0], Nat.zero_le _⟩
  | n, d :: ds, _, h, ⟨v, vr, e, q, r⟩ => by
    subst e
    obtain ⟨h1, h2, h3⟩ := Dp_of sub (okN_all h).1 q
    obtain ⟨k1, k2, k3⟩ := Dps_of sub (okN_all h).2 r
    refine ⟨.cons h1 k1, ?_, ?_⟩
    · simp only [toP.toPs, PyData.canLayAll0, h2, k2, Bool.and_self]
    · simp only [toP.toPs, PyData.depthAll]; omega
end
/-- a value that is read, as the machine's data -/
theorem RdV.dp {g : G} {F H : Hp} {d : D} {v : V} (sub : Same F H) (h : okD d = true) (r : RdV g F H d v) : Dp g.K H v (toP d) ∧ SeqAt.shaped (toP d) = true := by
  have key : Dp g.K H v (toP d) ∧ (toP d).canLay0 = true ∧ (toP d).depth ≤ 8 := by
    cases d with
    | lst ds =>
      obtain ⟨a, vs, rfl, q, _, r⟩ := r
      obtain ⟨h1, h2, h3⟩ := Dps_of sub (n := 7) (show ds.all (okN 7) = true from h) r
      refine ⟨.lst (.of q) h1, ?_, ?_⟩
      · simp only [toP, PyData.canLay0]; exact h2
      · simp only [toP, PyData.depth]; omega
    | dic _ => cases h
    | _ => exact Dp_of sub h r
  obtain ⟨k1, k2, k3⟩ := key
  refine ⟨k1, ?_⟩
  unfold SeqAt.shaped
  rw [k2, decide_eq_true (show (toP d).depth ≤ 64 by omega)]
  rfl
end FT

set_option Elab.async false
set_option linter.all false
set_option maxRecDepth 100000
set_option autoImplicit false
set_option maxHeartbeats 1000000
namespace FT
open PySem PySem.Spec PyProof.Rows L2
section
variable {g : G} {X : Cx} {ρ : List Sl} {σ : L2.St} {F H : Hp} {d d1 d2 : D} {v v1 v2 : V} {K : VK}
/-- what an operation's result is to fulfil: nothing but new objects -/
def Out (g : G) (ρ : List Sl) (σ : L2.St) (F H : Hp) (d : D) (K : VK) : Prop := ∀ F' H' v, Stp ρ σ F H ρ σ F' H' → SR g F' ρ σ H' → Rep g F' d v → K v H'
theorem Out.flat (S : SR g F ρ σ H) (o : Out g ρ σ F H d K) (r : Rep g F d v) : K v H := o F H v .refl S r
theorem Out.new (S : SR g F ρ σ H) (o : Out g ρ σ F H d K) {p : Addr} {x : HO} (hp : H p = none) (r : Rep g (upd F p x) d (.ref p)) : K (.ref p) (upd H p x) := by
  obtain ⟨S', T⟩ := S.newF (o := x) hp
  exact o _ _ _ T S' r
theorem RepL.up (S : SR g F ρ σ H) {p : Addr} {x : HO} (hp : H p = none) {ds : List D} {vs : List V} (r : RepL g F ds vs) : RepL g (upd F p x) ds vs := r.mono (same_upd (S.sub.free hp))
theorem Rep.up (S : SR g F ρ σ H) {p : Addr} {x : HO} (hp : H p = none) (r : Rep g F d v) : Rep g (upd F p x) d v := r.mono (same_upd (S.sub.free hp))
theorem Out.lst (S : SR g F ρ σ H) {ds : List D} (o : Out g ρ σ F H (.lst ds) K) {p : Addr} {vs : List V} (hp : H p = none) (hl : ds.length ≤ sizeLine) (r : RepL g F ds vs) : K (.ref p) (upd H p (.lst vs)) :=
  o.new S hp ⟨p, vs, rfl, upd_same, hl, RepL.up S hp r⟩
theorem Out.tup (S : SR g F ρ σ H) {ds : List D} (o : Out g ρ σ F H (.tup ds) K) {p : Addr} {vs : List V} (hp : H p = none) (hl : ds.length ≤ sizeLine) (r : RepL g F ds vs) : K (.ref p) (upd H p (.tup vs)) :=
  o.new S hp ⟨p, vs, rfl, upd_same, hl, RepL.up S hp r⟩
theorem fits_ok {n : Nat} (h : fits n = true) : n ≤ sizeLine := of_decide_eq_true h
theorem cps_app (a b : Str) : (a ++ b : Str).cps = a.cps ++ b.cps := rfl
theorem len_app (a b : Str) : (a ++ b : Str).length = a.length + b.length := by
  show (a.cps ++ b.cps).size = _
  rw [Array.size_append]
  rfl
/-! ### binary operators -/
theorem powOk {i j : Int} (h1 : 0 ≤ j) (h2 : j ≤ 1000) (h3 : i.natAbs < 2 ^ 200) : (Builtin.Int.intBits i : Int) * j ≤ 2 ^ 27 := by
  have hb : Builtin.Int.intBits i ≤ 201 := by
    unfold Builtin.Int.intBits
    split
    · omega
    · rename_i hz
      have hne : i.natAbs ≠ 0 := by
        intro z
        apply hz
        simp at z
        simp [z]
      have := (Nat.log2_lt hne).mpr h3
      omega
  have : (Builtin.Int.intBits i : Int) * j ≤ 201 * 1000 := by
    calc (Builtin.Int.intBits i : Int) * j ≤ 201 * j := Int.mul_le_mul_of_nonneg_right (by omega) h1
      _ ≤ 201 * 1000 := by omega
  omega
theorem op_powB : OpR X (binaryOp .Pow) (rI (fun i j => 0 ≤ j ∧ j ≤ 1000 ∧ i.natAbs < 2 ^ 200) fun i j => .int (i ^ j.toNat)) := opI fun _ _ _ _ _ _ _ hc q => pow_int hc.1 (powOk hc.1 hc.2.1 hc.2.2) q
theorem binOk {o : Operator} (S : SR g F ρ σ H) (r1 : RdV g F H d1 v1) (r2 : RdV g F H d2 v2) (h : binD o d1 d2 = some d) (k : Out g ρ σ F H d K) (nostr : (∃ s i, d1 = .str s ∧ d2 = .int i) → False) : OkO X (binaryOp o) v1 v2 H K := by
  unfold binD at h
  split at h
  · cases h
    cases (show v1 = _ from r1); cases (show v2 = _ from r2)
    exact ⟨_, op_add, _, _, rfl, rfl, k.flat S rfl⟩
  · rename_i a b
    cases e : fits (a.length + b.length) with
    | false => rw [e] at h; cases h
    | true =>
      rw [e] at h; cases h
      obtain ⟨rfl, l1, c1⟩ := r1; obtain ⟨rfl, l2, c2⟩ := r2
      refine ⟨_, op_add_str, _, _, rfl, rfl, fits_ok e, k.flat S ⟨rfl, ?_, ?_⟩⟩
      · rw [len_app]; exact fits_ok e
      · rw [cps_app, Array.all_append, c1, c2]; rfl
  · rename_i a b
    cases e : fits (a.length + b.length) with
    | false => rw [e] at h; cases h
    | true =>
      rw [e] at h; cases h
      obtain ⟨p, vs, rfl, e1, l1, q1⟩ := r1; obtain ⟨q, us, rfl, e2, l2, q2⟩ := r2
      refine ⟨_, op_cat, _, _, _, _, rfl, rfl, e1, e2, ?_, fun z hz => k.lst S hz ?_ (q1.append q2)⟩
      · rw [q1.len, q2.len]; exact fits_ok e
      · rw [List.length_append]; exact fits_ok e
  · rename_i a b
    cases e : fits (a.length + b.length) && !a.isEmpty && !b.isEmpty with
    | false => rw [e] at h; cases h
    | true =>
      rw [e] at h; cases h
      simp only [Bool.and_eq_true] at e
      obtain ⟨⟨e0, ea⟩, eb⟩ := e
      obtain ⟨p, vs, rfl, e1, l1, q1⟩ := r1; obtain ⟨q, us, rfl, e2, l2, q2⟩ := r2
      have n1 : vs ≠ [] := fun z => by subst z; have := q1.len; cases a with
        | nil => cases ea
        | cons _ _ => simp at this
      have n2 : us ≠ [] := fun z => by subst z; have := q2.len; cases b with
        | nil => cases eb
        | cons _ _ => simp at this
      refine ⟨_, op_catT, _, _, _, _, rfl, rfl, .of (S.sub _ _ e1), .of (S.sub _ _ e2), n1, ?_, fun z => absurd z n2, fun _ z hz => k.tup S hz ?_ (q1.append q2)⟩
      · rw [q1.len, q2.len]; exact fits_ok e0
      · rw [List.length_append]; exact fits_ok e0
  · cases h
    cases (show v1 = _ from r1); cases (show v2 = _ from r2)
    exact ⟨_, op_sub, _, _, rfl, rfl, k.flat S rfl⟩
  · rename_i i j
    cases e : decide (-(2 ^ 64) < i) && decide (i < 2 ^ 64) with
    | false => rw [e] at h; cases h
    | true =>
      rw [e] at h; cases h
      simp only [Bool.and_eq_true, decide_eq_true_eq] at e
      cases (show v1 = _ from r1); cases (show v2 = _ from r2)
      exact ⟨_, op_mul, _, _, rfl, rfl, .inl e, k.flat S rfl⟩
  · rename_i xs n
    cases e : decide (0 ≤ n) && decide (n < 2 ^ 62) && fits (xs.length * n.toNat) with
    | false => rw [e] at h; cases h
    | true =>
      rw [e] at h; cases h
      simp only [Bool.and_eq_true, decide_eq_true_eq] at e
      obtain ⟨⟨e0, e1⟩, e2⟩ := e
      obtain ⟨p, vs, rfl, q1, l1, q2⟩ := r1
      cases (show v2 = _ from r2)
      refine ⟨_, op_rep, _, _, _, rfl, rfl, q1, by omega, by omega, ?_, fun z hz => k.lst S hz ?_ (q2.flat _)⟩
      · rw [q2.len]; exact fits_ok e2
      · rw [List.length_flatten, List.map_replicate, List.sum_replicate_nat, Nat.mul_comm]; exact fits_ok e2
  · rename_i s i
    exact (nostr ⟨_, _, rfl, rfl⟩).elim
  · rename_i i j
    cases e : decide (j ≠ 0) && decide (j.natAbs < 1073741824) with
    | false => rw [e] at h; cases h
    | true =>
      rw [e] at h; cases h
      simp only [Bool.and_eq_true, decide_eq_true_eq] at e
      cases (show v1 = _ from r1); cases (show v2 = _ from r2)
      exact ⟨_, op_fdivN, _, _, rfl, rfl, e, k.flat S rfl⟩
  · rename_i i j
    cases e : decide (j ≠ 0) with
    | false => rw [e] at h; cases h
    | true =>
      rw [e] at h; cases h
      cases (show v1 = _ from r1); cases (show v2 = _ from r2)
      exact ⟨_, op_modN, _, _, rfl, rfl, of_decide_eq_true e, k.flat S rfl⟩
  · rename_i i j
    cases e : decide (0 ≤ j) && decide (j ≤ 1000) && decide (i.natAbs < 2 ^ 200) with
    | false => rw [e] at h; cases h
    | true =>
      rw [e] at h; cases h
      simp only [Bool.and_eq_true, decide_eq_true_eq] at e
      cases (show v1 = _ from r1); cases (show v2 = _ from r2)
      exact ⟨_, op_powB, _, _, rfl, rfl, ⟨e.1.1, e.1.2, e.2⟩, k.flat S rfl⟩
  · cases h
/-! ### comparisons -/
theorem any_toPs {n m : Nat} {e : D} (he : okN m e = true) : ∀ {ds : List D}, ds.all (okN n) = true → ((toP.toPs ds).any fun z => PyData.eqv z (toP e)) = ds.any fun z => eqB z e
  | [], _ => rfl
  | d :: ds, h => by
    simp only [toP.toPs, List.any_cons]
    rw [eqv_toP (okN_all h).1 he, any_toPs he (okN_all h).2]
theorem inV_any {x : D} {v : V} (r : Rep g F x v) (hx : x.flat = true) : ∀ {ds : List D} {vs : List V}, RepL g F ds vs → ds.all D.flat = true → inV v vs = ds.any fun z => eqB z x
  | [], _, q, _ => by cases (show _ = [] from q); rfl
  | d :: ds, _, ⟨u, ur, e, q, qs⟩, h => by
    subst e
    rw [List.all_cons, Bool.and_eq_true] at h
    unfold inV
    rw [List.any_cons, List.any_cons, eqV_eqB q r h.1 hx]
    have ih := inV_any r hx qs h.2
    unfold inV at ih
    rw [ih]
theorem lstP {g : G} {H : Hp} {n : Nat} {ds : List D} {vs : List V} {a : Addr} (sub : Same F H) (q : H a = some (.lst vs)) (r : RepL g F ds vs) (h : ds.all (okN 8) = true) : Dp g.K H (.ref a) (.list (toP.toPs ds)) ∧ SeqAt.shaped (.list (toP.toPs ds)) = true := by
  obtain ⟨h1, h2, h3⟩ := Dps_of sub (n := 8) h r
  refine ⟨.lst (.of q) h1, ?_⟩
  have hd : (PyData.list (toP.toPs ds)).depth ≤ 64 := by
    simp only [PyData.depth]; omega
  have hc : (PyData.list (toP.toPs ds)).canLay0 = true := by simp only [PyData.canLay0]; exact h2
  unfold SeqAt.shaped
  rw [hc, decide_eq_true hd]
  rfl
theorem eqV_same {v : V} (h : L2.flatV v = true) : eqV v v = true := by
  cases v with
  | non => rfl
  | bl b => cases b <;> rfl
  | int i => show (i == i) = true; simp
  | str s => show (s == s) = true; simp
  | _ => cases h
theorem valD_mem {kvs : List (Key × D)} {k : Key} {d : D} (h : valD kvs k = some d) : ∃ k', (k', d) ∈ kvs := by
  unfold valD at h
  obtain ⟨kv, h1, h2⟩ := Option.map_eq_some_iff.mp h
  exact ⟨kv.1, by rw [← h2]; exact List.mem_of_find?_eq_some h1⟩
theorem dicFlat_val {kvs : List (Key × D)} {k : Key} {d : D} (hf : dicFlat kvs = true) (h : valD kvs k = some d) : d.flat = true := by
  obtain ⟨k', hm⟩ := valD_mem h
  exact List.all_eq_true.mp hf _ hm
section
variable {P : Program} {w : World} {A : Around} {s : Shared}
theorem hits1 {b : List (Key × D)} {ls : List (Key × V)} {vb : List (Key × Value)} (rB : RepK g F b ls) (fb : dicFlat b = true) (kb : KV ls vb) : ∀ {a : List (Key × D)} {ks : List (Key × V)} {va : List (Key × Value)}, RepK g F a ks → dicFlat a = true → KV ks va →
    PySem.W.KeqHitsP P w A s vb va (a.all fun e => match valD b e.1 with
      | some w => eqB e.2 w
      | none => false)
  | [], ks, va, r, _, k => by
    cases (show ks = [] from r)
    cases k
    exact .nil
  | (key, d) :: a, ks, va, ⟨v, vr, e, q, r⟩, f, k => by
    subst e
    have f : (d.flat && dicFlat a) = true := f
    rw [Bool.and_eq_true] at f
    cases k with
    | @cons p q' ps qs h t =>
      obtain ⟨h1, h2⟩ := h
      obtain ⟨key', v'⟩ := q'
      have h1 : key = key' := h1
      subst h1
      have ih := hits1 rB fb kb r f.2 (show KV vr qs from t)
      rw [List.all_cons]
      have hv := rB.val (k := key)
      have ho := kb.val key
      cases ed : valD b key with
      | none =>
        rw [ed] at hv
        have hv : valV ls key = none := hv
        rw [hv] at ho
        have : valueAt vb key = none := by
          cases z : valueAt vb key with
          | none => rfl
          | some y => rw [z] at ho; exact ho.elim
        show PySem.W.KeqHitsP P w A s vb ((key, v') :: qs) (false && _)
        rw [Bool.false_and]
        exact .miss this
      | some d2 =>
        rw [ed] at hv
        obtain ⟨u, eu, qu⟩ := hv
        rw [eu] at ho
        obtain ⟨y, hy, ry⟩ := ho.some_of
        have f2 := dicFlat_val fb ed
        show PySem.W.KeqHitsP P w A s vb ((key, v') :: qs) (eqB d d2 && _)
        refine .hit hy ?_ ih
        have z := eqAt_V (A := A) (s := s) (show RelV v v' from h2) ry (q.flatV f.1) (qu.flatV f2)
        rw [eqV_eqB q qu f.1 f2] at z
        exact z.eqP
end
theorem run_dic1 {pins : List (Addr × Obj)} {σ' : L2.St} {H' : Hp} {s : Shared} (I : Inv X pins σ' H' s) {A : Around} (hu : A.units < cLine) {a b : List (Key × D)} {ks ls : List (Key × V)} {x y : Addr} (hx : H' x = some (.dK ks)) (hy : H' y = some (.dK ls)) (ra : RepK g F a ks) (rb : RepK g F b ls) (fa : dicFlat a = true) (fb : dicFlat b = true)
    (E Q : Value → Shared → Prop) (q : Q (.bool (eqD1 a b)) s) : wpAny (model X.prog X.w) A (richCompare .Eq (.ref x) (.ref y)) Q E s := by
  obtain ⟨_, ya, va, ka, da⟩ := (show ObjOk X.prog X.w H' s.heap x (.dK ks) from I.hok x _ hx)
  obtain ⟨_, yb, vb, kb, db⟩ := (show ObjOk X.prog X.w H' s.heap y (.dK ls) from I.hok y _ hy)
  refine PySem.W.rcP_dicts (knd := mixKind X.prog X.w) ya yb da db hu (fun _ => hits1 rb fb kb ra fa ka) E Q ?_
  have e : (va.length == vb.length) = decide (a.length = b.length) := by
    rw [← ka.length, ← kb.length, ra.len, rb.len, Bool.beq_eq_decide_eq]
  rw [e]; exact q
theorem dic1_same {a b : List (Key × D)} {ks : List (Key × V)} (ra : RepK g F a ks) (rb : RepK g F b ks) (fa : dicFlat a = true) (fb : dicFlat b = true) (nd : (a.map fun e => e.1).Nodup) : eqD1 a b = true := by
  unfold eqD1
  rw [Bool.and_eq_true]
  refine ⟨decide_eq_true (by rw [← ra.len, ← rb.len]), ?_⟩
  rw [List.all_eq_true]
  rintro ⟨k, d⟩ hm
  have hk : valD a k = some d := by
    clear ra fa
    unfold valD
    induction a with
    | nil => cases hm
    | cons p a ih =>
      rw [List.map_cons, List.nodup_cons] at nd
      rw [List.find?_cons]
      rcases List.mem_cons.mp hm with e | e
      · subst e; simp
      · have : p.1 ≠ k := fun z => nd.1 (List.mem_map.mpr ⟨(k, d), e, z.symm⟩)
        simp only [this, decide_false]
        exact ih nd.2 e
  have h1 := ra.val (k := k)
  rw [hk] at h1
  obtain ⟨v, ev, q⟩ := h1
  have h2 := rb.val (k := k)
  cases ed : valD b k with
  | none => rw [ed] at h2; rw [ev] at h2; cases h2
  | some d2 =>
    rw [ed] at h2
    obtain ⟨v2, ev2, q2⟩ := h2
    rw [ev] at ev2
    cases ev2
    have f1 : d.flat = true := List.all_eq_true.mp fa _ hm
    show eqB d d2 = true
    rw [← eqV_eqB q q2 f1 (dicFlat_val fb ed)]
    exact eqV_same (q.flatV f1)
theorem hits2 {pins : List (Addr × Obj)} {σ' : L2.St} {H' : Hp} {s : Shared} (I : Inv X pins σ' H' s) (sub : Same F H') {A : Around} (hu : A.units < cLine) {b : List (Key × D)} {ls : List (Key × V)} {vb : List (Key × Value)} (rB : RepK g F b ls) (fb : (b.all fun e => dic1 e.2) = true) (kb : KV ls vb) : ∀ {a : List (Key × D)} {ks : List (Key × V)} {va : List (Key × Value)}, RepK g F a ks → (a.all fun e => dic1 e.2) = true → KV ks va →
    PySem.W.KeqHitsP X.prog X.w A s vb va (a.all fun e => match valD b e.1 with
      | some w => eqDv e.2 w
      | none => false)
  | [], ks, va, r, _, k => by
    cases (show ks = [] from r)
    cases k
    exact .nil
  | (key, d) :: a, ks, va, ⟨v, vr, e, q, r⟩, f, k => by
    subst e
    have f : (dic1 d && (a.all fun e => dic1 e.2)) = true := f
    rw [Bool.and_eq_true] at f
    cases k with
    | @cons p q' ps qs h t =>
      obtain ⟨h1, h2⟩ := h
      obtain ⟨key', v'⟩ := q'
      have h1 : key = key' := h1
      subst h1
      have ih := hits2 I sub hu rB fb kb r f.2 (show KV vr qs from t)
      rw [List.all_cons]
      have hv := rB.val (k := key)
      have ho := kb.val key
      cases ed : valD b key with
      | none =>
        rw [ed] at hv
        have hv : valV ls key = none := hv
        rw [hv] at ho
        have : valueAt vb key = none := by
          cases z : valueAt vb key with
          | none => rfl
          | some y => rw [z] at ho; exact ho.elim
        show PySem.W.KeqHitsP X.prog X.w A s vb ((key, v') :: qs) (false && _)
        rw [Bool.false_and]
        exact .miss this
      | some d2 =>
        rw [ed] at hv
        obtain ⟨u, eu, qu⟩ := hv
        rw [eu] at ho
        obtain ⟨y, hy, ry⟩ := ho.some_of
        have f2 : dic1 d2 = true := by
          obtain ⟨k', hm⟩ := valD_mem ed
          exact List.all_eq_true.mp fb _ hm
        show PySem.W.KeqHitsP X.prog X.w A s vb ((key, v') :: qs) (eqDv d d2 && _)
        refine .hit hy ?_ ih
        cases d with
        | dic i1 =>
          cases d2 with
          | dic i2 =>
            have g1 : (dicFlat i1 && decide ((i1.map fun e => e.1).Nodup)) = true := f.1
            have g2 : (dicFlat i2 && decide ((i2.map fun e => e.1).Nodup)) = true := f2
            rw [Bool.and_eq_true] at g1 g2
            obtain ⟨a1, k1, rfl, e1, _, r1⟩ := q
            obtain ⟨a2, k2, rfl, e2, _, r2⟩ := qu
            cases (show v' = Value.ref a1 from h2)
            cases (show y = Value.ref a2 from ry)
            show SeqAt.EqP X.prog X.w A s (.ref a1) (.ref a2) (eqD1 i1 i2)
            by_cases ea : a1 = a2
            · subst ea
              rw [e1] at e2
              cases e2
              rw [dic1_same r1 r2 g1.1 g2.1 (of_decide_eq_true g1.2)]
              exact (SeqAt.EqAt.same _).eqP
            · exact SeqAt.eqP_refs ea fun E Q hq => run_dic1 I hu (sub _ _ e1) (sub _ _ e2) r1 r2 g1.1 g2.1 E Q hq
          | _ => cases f2
        | _ => cases f.1
/-- == of dicts: of flat values, of dicts -/
theorem dicEq_ok {k : Bool} (S : SR g F ρ σ H) (hu : X.A.units + 64 + 65 < cLine) (r1 : RdV g F H d1 v1) (r2 : RdV g F H d2 v2) (h : dicEq d1 d2 = some k) (q : K (.bl k) H) : OkO X (compareOp .Eq) v1 v2 H K := by
  unfold dicEq at h
  split at h
  case h_2 => cases h
  rename_i a b
  obtain ⟨x, ks, rfl, ex, _, ra⟩ := r1
  obtain ⟨y, ls, rfl, ey, _, rb⟩ := r2
  refine ⟨fun x' y' H' Q => x' = .ref x ∧ y' = .ref y ∧ H' = H ∧ Q (.bl k) H', ?_, rfl, rfl, rfl, q⟩
  intro pins s σ' H' x' y' v u Q I rx ry hq
  obtain ⟨rfl, rfl, rfl, qq⟩ := hq
  clear q
  cases (show v = Value.ref x from rx)
  cases (show u = Value.ref y from ry)
  cases e : dicFlat a && dicFlat b with
  | true =>
    rw [e] at h
    have h : some (eqD1 a b) = some k := h
    cases h
    rw [Bool.and_eq_true] at e
    exact run_dic1 I (by omega) ex ey ra rb e.1 e.2 _ _ ⟨.bl _, H', I, rfl, qq⟩
  | false =>
    rw [e] at h
    have h : (bif (a.all fun e => dic1 e.2) && (b.all fun e => dic1 e.2) then some (eqD2 a b) else none) = some k := h
    cases e2 : (a.all fun e => dic1 e.2) && (b.all fun e => dic1 e.2) with
    | false => rw [e2] at h; cases h
    | true =>
      rw [e2] at h
      cases h
      rw [Bool.and_eq_true] at e2
      obtain ⟨_, ya, va, ka, da⟩ := (show ObjOk X.prog X.w H' s.heap x (.dK ks) from I.hok x _ ex)
      obtain ⟨_, yb, vb, kb, db⟩ := (show ObjOk X.prog X.w H' s.heap y (.dK ls) from I.hok y _ ey)
      refine PySem.W.rcP_dicts (knd := mixKind X.prog X.w) ya yb da db (by omega) (fun _ => hits2 I S.sub (by show X.A.units + 1 < cLine; omega) rb e2.2 kb ra e2.1 ka) _ _ ?_
      have e3 : (va.length == vb.length) = decide (a.length = b.length) := by
        rw [← ka.length, ← kb.length, ra.len, rb.len, Bool.beq_eq_decide_eq]
      rw [e3]
      exact ⟨.bl _, H', I, rfl, qq⟩
theorem cmpOk {o : CmpOp} {k : Bool} (S : SR g F ρ σ H) (hK : g.K = X.K) (hu : X.A.units + 64 + 65 < cLine) (r1 : RdV g F H d1 v1) (r2 : RdV g F H d2 v2) (h : cmpD o d1 d2 = some k) (q : K (.bl k) H) : OkO X (compareOp o) v1 v2 H K := by
  unfold cmpD at h
  split at h
  · cases e : okD d1 && okD d2 with
    | false => rw [e] at h; exact dicEq_ok S hu r1 r2 h q
    | true =>
      rw [e] at h; cases h
      rw [Bool.and_eq_true] at e
      obtain ⟨p1, s1⟩ := r1.dp S.sub e.1
      obtain ⟨p2, s2⟩ := r2.dp S.sub e.2
      rw [hK] at p1 p2
      exact ⟨_, op_eqD (by omega), _, _, p1, p2, s1, s2, by rw [eqv_toP e.1 e.2]; exact q⟩
  · cases e : okD d1 && okD d2 with
    | false => rw [e] at h; cases h
    | true =>
      rw [e] at h; cases h
      rw [Bool.and_eq_true] at e
      obtain ⟨p1, s1⟩ := r1.dp S.sub e.1
      obtain ⟨p2, s2⟩ := r2.dp S.sub e.2
      rw [hK] at p1 p2
      exact ⟨_, op_neD (by omega), _, _, p1, p2, s1, s2, by rw [eqv_toP e.1 e.2]; exact q⟩
  · cases h; cases (show v1 = _ from r1); cases (show v2 = _ from r2); exact ⟨_, op_lt, _, _, rfl, rfl, q⟩
  · cases h; cases (show v1 = _ from r1); cases (show v2 = _ from r2); exact ⟨_, op_le, _, _, rfl, rfl, q⟩
  · cases h; cases (show v1 = _ from r1); cases (show v2 = _ from r2); exact ⟨_, op_gt, _, _, rfl, rfl, q⟩
  · cases h; cases (show v1 = _ from r1); cases (show v2 = _ from r2); exact ⟨_, op_ge, _, _, rfl, rfl, q⟩
  · cases h; cases (show v1 = _ from r1.1); cases (show v2 = _ from r2.1); exact ⟨_, op_le_str, _, _, rfl, rfl, q⟩
  · cases h
    cases (show v2 = _ from r2)
    refine ⟨_, op_isN, rfl, ?_⟩
    have : decide (v1 = V.non) = isNon d1 := by
      cases d1 with
      | non => cases (show v1 = _ from r1); rfl
      | bl _ => cases (show v1 = _ from r1); rfl
      | int _ => cases (show v1 = _ from r1); rfl
      | str _ => cases (show v1 = _ from r1.1); rfl
      | lst _ => obtain ⟨a, _, e, _⟩ := r1; subst e; rfl
      | tup _ => obtain ⟨a, _, e, _⟩ := r1; subst e; rfl
      | dic _ => obtain ⟨a, _, e, _⟩ := r1; subst e; rfl
      | ins _ _ => obtain ⟨a, _, _, e, _⟩ := r1; subst e; rfl
      | scr _ => obtain ⟨a, e, _⟩ := r1; subst e; rfl
      | any => obtain ⟨a, e⟩ := r1; subst e; rfl
      | exc _ _ => obtain ⟨a, _, _, e, _⟩ := r1; subst e; rfl
    rw [this]; exact q
  · cases h
    cases (show v2 = _ from r2)
    refine ⟨_, op_notN, rfl, ?_⟩
    have : decide (v1 = V.non) = isNon d1 := by
      cases d1 with
      | non => cases (show v1 = _ from r1); rfl
      | bl _ => cases (show v1 = _ from r1); rfl
      | int _ => cases (show v1 = _ from r1); rfl
      | str _ => cases (show v1 = _ from r1.1); rfl
      | lst _ => obtain ⟨a, _, e, _⟩ := r1; subst e; rfl
      | tup _ => obtain ⟨a, _, e, _⟩ := r1; subst e; rfl
      | dic _ => obtain ⟨a, _, e, _⟩ := r1; subst e; rfl
      | ins _ _ => obtain ⟨a, _, _, e, _⟩ := r1; subst e; rfl
      | scr _ => obtain ⟨a, e, _⟩ := r1; subst e; rfl
      | any => obtain ⟨a, e⟩ := r1; subst e; rfl
      | exc _ _ => obtain ⟨a, _, _, e, _⟩ := r1; subst e; rfl
    rw [this]; exact q
  · rename_i ds
    cases e : okD d1 && ds.all okD with
    | false => rw [e] at h; cases h
    | true =>
      rw [e] at h; cases h
      rw [Bool.and_eq_true] at e
      obtain ⟨p1, s1⟩ := r1.dp S.sub e.1
      obtain ⟨a, vs, rfl, e2, _, q2⟩ := r2
      obtain ⟨p2, s2⟩ := lstP (n := 0) S.sub e2 q2 e.2
      rw [hK] at p1 p2
      exact ⟨_, op_inD (by omega), _, _, p1, p2, s1, s2, by rw [any_toPs e.1 e.2]; exact q⟩
  · rename_i ds
    cases e : okD d1 && ds.all okD with
    | false => rw [e] at h; cases h
    | true =>
      rw [e] at h; cases h
      rw [Bool.and_eq_true] at e
      obtain ⟨p1, s1⟩ := r1.dp S.sub e.1
      obtain ⟨a, vs, rfl, e2, _, q2⟩ := r2
      obtain ⟨p2, s2⟩ := lstP (n := 0) S.sub e2 q2 e.2
      rw [hK] at p1 p2
      exact ⟨_, op_notInD (by omega), _, _, p1, p2, s1, s2, by rw [any_toPs e.1 e.2]; exact q⟩
  · rename_i ds
    cases e : d1.flat && ds.all D.flat with
    | false => rw [e] at h; cases h
    | true =>
      rw [e] at h; cases h
      rw [Bool.and_eq_true] at e
      obtain ⟨a, vs, rfl, e2, _, q2⟩ := r2
      exact ⟨_, op_in_seq, _, _, rfl, .inr (.of (S.sub _ _ e2)), r1.flatV e.1, q2.flatV e.2, by rw [inV_any (r1.flat e.1) e.1 q2 e.2]; exact q⟩
  · rename_i ds
    cases e : d1.flat && ds.all D.flat with
    | false => rw [e] at h; cases h
    | true =>
      rw [e] at h; cases h
      rw [Bool.and_eq_true] at e
      obtain ⟨a, vs, rfl, e2, _, q2⟩ := r2
      exact ⟨_, op_notIn_seq, _, _, rfl, .inr (.of (S.sub _ _ e2)), r1.flatV e.1, q2.flatV e.2, by rw [inV_any (r1.flat e.1) e.1 q2 e.2]; exact q⟩
  · rename_i a z
    split at h
    · rename_i c ec
      cases h
      cases (show v1 = _ from r1.1); cases (show v2 = _ from r2.1)
      have ea : a = ⟨#[c]⟩ := by
        obtain ⟨ar⟩ := a
        have : ar.toList = [c] := ec
        have : ar = #[c] := by rw [← Array.toArray_toList (xs := ar), this]
        rw [this]
      subst ea
      exact ⟨_, op_in_sign, _, _, rfl, rfl, q⟩
    · cases h
  · rename_i a z
    split at h
    · rename_i c ec
      cases h
      cases (show v1 = _ from r1.1); cases (show v2 = _ from r2.1)
      have ea : a = ⟨#[c]⟩ := by
        obtain ⟨ar⟩ := a
        have : ar.toList = [c] := ec
        have : ar = #[c] := by rw [← Array.toArray_toList (xs := ar), this]
        rw [this]
      subst ea
      exact ⟨_, op_notIn_sign, _, _, rfl, rfl, q⟩
    · cases h
  · rename_i kvs
    obtain ⟨kk, ek, h⟩ := Option.map_eq_some_iff.mp h
    subst h
    obtain ⟨a, vs, rfl, e2, _, q2⟩ := r2
    have ev := r1.key ek
    refine ⟨fun x y H Q => ∃ a o, y = .ref a ∧ DGet H a x o ∧ Q (.bl o.isSome) H, fun pins s σ H x y v u Q I rx ry ⟨a, o, e, gg, q⟩ => ?_, a, valV vs kk, rfl, .inl ⟨vs, kk, .inl e2, ev, rfl⟩, ?_⟩
    · subst e
      obtain rfl : u = Value.ref a := ry
      exact d_in (by omega) I gg rx fun s3 I3 => ⟨.bl o.isSome, H, I3, rfl, q⟩
    · have := q2.val (k := kk)
      cases e : valD kvs kk with
      | none => rw [e] at this q; rw [show valV vs kk = none from this]; exact q
      | some z => rw [e] at this q; obtain ⟨u, eu, _⟩ := this; rw [eu]; exact q
  · rename_i kvs
    obtain ⟨kk, ek, h⟩ := Option.map_eq_some_iff.mp h
    subst h
    obtain ⟨a, vs, rfl, e2, _, q2⟩ := r2
    have ev := r1.key ek
    refine ⟨fun x y H Q => ∃ a o, y = .ref a ∧ DGet H a x o ∧ Q (.bl (!o.isSome)) H, fun pins s σ H x y v u Q I rx ry ⟨a, o, e, gg, q⟩ => ?_, a, valV vs kk, rfl, .inl ⟨vs, kk, .inl e2, ev, rfl⟩, ?_⟩
    · subst e
      obtain rfl : u = Value.ref a := ry
      exact d_notIn (by omega) I gg rx fun s3 I3 => ⟨.bl (!o.isSome), H, I3, rfl, q⟩
    · have := q2.val (k := kk)
      cases e : valD kvs kk with
      | none => rw [e] at this q; rw [show valV vs kk = none from this]; exact q
      | some z => rw [e] at this q; obtain ⟨u, eu, _⟩ := this; rw [eu]; exact q
  · cases h
end
end FT

set_option Elab.async false
set_option linter.all false
set_option maxRecDepth 100000
set_option autoImplicit false
set_option maxHeartbeats 1000000
namespace FT
open PySem PySem.Spec PyProof.Rows L2
/-! ### text times int -/
section
variable {X : Cx}
theorem foldApp (l : List (Array Nat)) : ∀ acc : Array Nat, l.foldl (· ++ ·) acc = acc ++ (l.map Array.toList).flatten.toArray := by
  induction l with
  | nil => intro acc; simp
  | cons a l ih =>
    intro acc
    rw [List.foldl_cons, ih, List.map_cons, List.flatten_cons]
    apply Array.toList_inj.mp
    simp [List.append_assoc]
theorem op_mul_str : OpR X (binaryOp .Mult) (fun x y H Q => ∃ (z : Str) (k : Int), x = .str z ∧ y = .int k ∧ 0 ≤ k ∧ k < 2 ^ 62 ∧ z.length * k.toNat ≤ sizeLine ∧ Q (.str ⟨((List.replicate k.toNat z.cps.toList).flatten).toArray⟩) H) := by
  intro pins s σ H x y v u Q I rx ry ⟨z, k, e1, e2, h0, h1, h2, q⟩
  subst e1 e2
  obtain ⟨t, rfl⟩ := rx
  obtain ⟨t', rfl⟩ := ry
  have hz : sizeLine = 16777216 := sizeLine_eq
  refine P.mul_str ?_ (fun hn hc => ?_) (fun hn hc => ?_) ?_
  · rw [decide_eq_false (by omega), decide_eq_false (by omega)]; rfl
  · intro hgt
    have hk : 2 ≤ k := by
      have : k ≠ 1 := fun z => by subst z; simp at hc
      omega
    have hl : z.length ≠ 0 := fun z' => by rw [z'] at hc; simp at hc
    have h3 : z.length ≤ sizeLine := by
      have : z.length * 1 ≤ z.length * k.toNat := Nat.mul_le_mul_left _ (by omega)
      omega
    have h4 : (2 ^ 63 - 1) / k ≥ 1 := by
      apply (Int.le_ediv_iff_mul_le (by omega)).mpr
      omega
    have h5 : (z.length : Int) * k ≤ 16777216 := by
      have : ((z.length * k.toNat : Nat) : Int) ≤ 16777216 := by omega
      rw [Int.natCast_mul, Int.toNat_of_nonneg h0] at this
      exact this
    have h6 : (z.length : Int) ≤ (2 ^ 63 - 1) / k := by
      apply (Int.le_ediv_iff_mul_le (by omega)).mpr
      omega
    omega
  · exact decide_eq_false (by omega)
  · have fin : ∀ w : Str, w = ⟨((List.replicate k.toNat z.cps.toList).flatten).toArray⟩ → EP X pins σ Q (.str w s.toks) { s with toks := s.toks + 1 } := fun w e => ⟨.str w, H, I.tok _, ⟨_, rfl⟩, by rw [e]; exact q⟩
    by_cases hn : k < 1
    · rw [if_pos hn]
      refine ⟨by decide, fin _ ?_⟩
      have : k.toNat = 0 := by omega
      rw [this]; rfl
    · rw [if_neg hn]
      by_cases hc : (k == 1 || z.length == 0) = true
      · rw [if_pos hc]
        have e : (⟨((List.replicate k.toNat z.cps.toList).flatten).toArray⟩ : Str) = z := by
          rw [Bool.or_eq_true, beq_iff_eq, beq_iff_eq] at hc
          rcases hc with hc | hc
          · subst hc
            show (⟨(([z.cps.toList] : List (List Nat)).flatten).toArray⟩ : Str) = z
            simp
          · have : z.cps = #[] := Array.eq_empty_of_size_eq_zero hc
            obtain ⟨c⟩ := z
            subst this
            simp
        show EP X pins σ Q (.str z t) s
        exact ⟨.str z, H, I, ⟨t, rfl⟩, by rw [e] at q; exact q⟩
      · rw [if_neg hc]
        have e : (⟨(List.replicate k.toNat z.cps).foldl (· ++ ·) #[]⟩ : Str) = ⟨((List.replicate k.toNat z.cps.toList).flatten).toArray⟩ := by
          rw [foldApp, List.map_replicate]; simp
        refine ⟨?_, fin _ e⟩
        rw [e]
        show ((List.replicate k.toNat z.cps.toList).flatten).toArray.size ≤ sizeLine
        rw [List.size_toArray, List.length_flatten, List.map_replicate, List.sum_replicate_nat, Nat.mul_comm]
        exact h2
end
/-! ### subscripts, slices -/
def OkX (X : Cx) : R2 := fun x y H K => ∃ r, IxR X r ∧ r x y H K
theorem ixrK (X : Cx) : IxR X (OkX X) := fun value slice pins s σ H x y v u Q I r1 r2 ⟨r, p, h⟩ => p value slice pins s σ H x y v u Q I r1 r2 h
def OkL (X : Cx) : V → Option Int → Option Int → Hp → VK → Prop := fun x lo hi H K => ∃ r, L2.SlR X r ∧ r x lo hi H K
theorem slrK (X : Cx) : L2.SlR X (OkL X) := fun pins s σ H x v vl vu lo hi sl Q I r1 r2 r3 r4 ⟨r, p, h⟩ => p pins s σ H x v vl vu lo hi sl Q I r1 r2 r3 r4 h
section
variable {g : G} {X : Cx} {ρ : List Sl} {σ : L2.St} {F H : Hp} {d d1 d2 : D} {v v1 v2 : V} {K : VK}
theorem ix_dict (hu : X.A.units + 1 < cLine) : IxR X (fun x y H Q => ∃ a v, x = .ref a ∧ DGet H a y (some v) ∧ Q v H) := by
  intro value slice pins s σ H x y v u Q I rx ry ⟨a, z, e, gg, q⟩ hs
  subst e
  obtain rfl : v = Value.ref a := rx
  have hT := dict_typeIs I gg
  have hg : wpAny (model X.prog X.w) X.A (getItem (.ref a) u) (EP X pins σ Q) X.xe s := d_getItem hu I gg ry fun w' s3 I3 rw' => ⟨z, H, I3, rw', q⟩
  unfold subscriptTail
  refine wpAny_bind ?_
  rw [getitemInPython_of_ne hT.not_modules]
  refine wpAny_bind (wpAny_specialOf hT PySem.F.slot_dict_getitem.lookup ?_)
  have go : wpAny (model X.prog X.w) X.A (subscripted slice false (.ref a) u) (fun r s₃ => wpAny (model X.prog X.w) X.A (letTemporaryGo value (.ref a) r >>= fun _ => pure r) (EP X pins σ Q) X.xe s₃) X.xe s := by
    rw [hs]
    exact wpAny_operating (wpAny_mono hg (fun r s₃ h₃ => wpAny_bind (wpAny_letTemporaryGo (wpAny_pure h₃))) fun _ _ x => x)
  first
    | exact wpAny_pure (wpAny_bind go)
    | exact wpAny_bind (wpAny_pure (wpAny_bind go))
    | exact wpAny_bind go
theorem atI_rep {ds : List D} {vs : List V} {i : Int} (r : RepL g F ds vs) (h : atI ds i = some d) : ∃ v, atI vs i = some v ∧ Rep g F d v := by
  unfold atI at h ⊢
  rw [r.len]
  obtain ⟨j, ej, e⟩ := Option.bind_eq_some_iff.mp h
  obtain ⟨v, ev, q⟩ := r.get e
  exact ⟨v, by rw [ej]; exact ev, q⟩
theorem atI_mem {α : Type} {xs : List α} {i : Int} {x : α} (h : atI xs i = some x) : x ∈ xs := by
  unfold atI at h
  obtain ⟨j, _, e⟩ := Option.bind_eq_some_iff.mp h
  exact List.mem_of_getElem? e
theorem one_ok {s : Str} {c : Nat} (h : s.cps.all (· < 0x110000) = true) (hc : c ∈ s.cps.toList) : Rep g F (.str ⟨#[c]⟩) (.str ⟨#[c]⟩) := by
  refine ⟨rfl, by show 1 ≤ sizeLine; decide, ?_⟩
  have : c < 0x110000 := by
    have h2 := Array.all_eq_true_iff_forall_mem.mp h c (by simpa using hc)
    exact of_decide_eq_true h2
  show (#[c] : Array Nat).all (· < 0x110000) = true
  simp [this]
theorem ixOk (S : SR g F ρ σ H) (hK : g.K = X.K) (hu : X.A.units + 64 + 65 < cLine) (r1 : RdV g F H d1 v1) (r2 : RdV g F H d2 v2) (h : ixD d1 d2 = some d) (k : Out g ρ σ F H d K) : OkX X v1 v2 H K := by
  unfold ixD at h
  split at h
  · obtain ⟨a, vs, rfl, e1, _, q1⟩ := r1
    cases (show v2 = _ from r2)
    obtain ⟨v, ev, q⟩ := atI_rep q1 h
    exact ⟨_, ix_list, _, _, _, _, rfl, rfl, .of e1, ev, k.flat S q⟩
  · obtain ⟨a, vs, rfl, e1, _, q1⟩ := r1
    cases (show v2 = _ from r2)
    obtain ⟨v, ev, q⟩ := atI_rep q1 h
    exact ⟨_, ix_tup, _, _, _, _, rfl, rfl, .of (S.sub _ _ e1), ev, k.flat S q⟩
  · obtain ⟨rfl, l1, c1⟩ := r1
    cases (show v2 = _ from r2)
    obtain ⟨c, ec, rfl⟩ := Option.map_eq_some_iff.mp h
    exact ⟨_, ix_str, _, _, _, rfl, rfl, l1, ec, k.flat S (one_ok c1 (atI_mem ec))⟩
  · rename_i kvs
    obtain ⟨kk, ek, h⟩ := Option.bind_eq_some_iff.mp h
    obtain ⟨a, vs, rfl, e1, _, q1⟩ := r1
    have q := q1.val (k := kk)
    rw [h] at q
    obtain ⟨v, ev, q⟩ := q
    exact ⟨_, ix_dict (by omega), a, v, rfl, .inl ⟨vs, kk, .inl e1, r2.key ek, ev.symm⟩, k.flat S q⟩
  · obtain ⟨a, rfl, hq, hl⟩ := r1
    cases (show v2 = _ from r2)
    obtain ⟨j, ej, rfl⟩ := Option.map_eq_some_iff.mp h
    have hq := S.sub.seq hq
    rw [hK] at hq
    refine ⟨_, ix_list, _, _, _, .int j, rfl, rfl, hq, ?_, k.flat S rfl⟩
    unfold atI at ej ⊢
    rw [List.length_map]
    obtain ⟨m, em, e⟩ := Option.bind_eq_some_iff.mp ej
    rw [em]
    show (_ : List V)[m]? = _
    rw [List.getElem?_map, e]; rfl
  · cases h
theorem cutL_rep {ds : List D} {vs : List V} (r : RepL g F ds vs) (lo hi : Option Int) : RepL g F (cutL ds lo hi) (cutV vs lo hi) := by
  unfold cutL cutV
  rw [r.len]
  exact (r.drop _).take _
theorem cutL_len {α : Type} (xs : List α) (lo hi : Option Int) : (cutL xs lo hi).length ≤ xs.length := by
  unfold cutL
  dsimp only
  rw [List.length_take, List.length_drop]
  omega
theorem cutL_mem {α : Type} {xs : List α} {lo hi : Option Int} {x : α} (h : x ∈ cutL xs lo hi) : x ∈ xs := List.mem_of_mem_drop (List.mem_of_mem_take h)
theorem slOk {lo hi : Option Int} (S : SR g F ρ σ H) (hK : g.K = X.K) (r1 : RdV g F H d1 v1) (h : slD d1 lo hi = some d) (k : Out g ρ σ F H d K) : OkL X v1 lo hi H K := by
  unfold slD at h
  split at h
  · cases h
    obtain ⟨a, vs, rfl, e1, l1, q1⟩ := r1
    exact ⟨_, sl_list, a, vs, rfl, .of e1, fun p hp => k.lst S hp (Nat.le_trans (cutL_len _ _ _) l1) (cutL_rep q1 _ _)⟩
  · cases h
    rename_i s
    obtain ⟨rfl, l1, c1⟩ := r1
    refine ⟨_, sl_str, s, rfl, l1, k.flat S ⟨?_, ?_, ?_⟩⟩
    · rfl
    · show (cutL s.cps.toList lo hi).toArray.size ≤ sizeLine
      rw [List.size_toArray]
      have := cutL_len s.cps.toList lo hi
      rw [Array.length_toList] at this
      exact Nat.le_trans this l1
    · show (cutL s.cps.toList lo hi).toArray.all (· < 0x110000) = true
      rw [List.all_toArray]
      refine List.all_eq_true.mpr fun c hc => ?_
      exact Array.all_eq_true_iff_forall_mem.mp c1 c (by simpa using cutL_mem hc)
  · rename_i xs
    cases hb : decide ((cutL xs lo hi).length < xs.length) with
    | false => rw [hb] at h; cases h
    | true =>
      rw [hb] at h
      cases h
      obtain ⟨a, vs, rfl, e1, l1, q1⟩ := r1
      have hb := of_decide_eq_true hb
      refine ⟨_, sl_tup, a, vs, rfl, .of (S.sub _ _ e1), fun ⟨h1, h2⟩ => ?_, fun p hp => k.tup S hp (Nat.le_trans (cutL_len _ _ _) l1) (cutL_rep q1 _ _)⟩
      rw [q1.len] at h1 h2
      unfold cutL at hb
      simp only [h1, h2] at hb
      rw [List.drop_zero, Nat.sub_zero, List.take_length] at hb
      exact Nat.lt_irrefl _ hb
  · cases h
end
end FT

set_option Elab.async false
set_option linter.all false
set_option maxRecDepth 100000
set_option autoImplicit false
set_option maxHeartbeats 1000000
namespace FT
open PySem PySem.Spec PyProof.Rows L2
def RdVs (g : G) (F H : Hp) : List D → List V → Prop
  | [], vs => vs = []
  | d :: ds, vs => ∃ v vr, vs = v :: vr ∧ RdV g F H d v ∧ RdVs g F H ds vr
def OutS (g : G) (ρ : List Sl) (σ : L2.St) (F H : Hp) (s : Sl) (K : VK) : Prop := match s with
  | .un => False
  | .sh d => Out g ρ σ F H d K
  | .ow d => ∀ p o, H p = none → RepO g F d o → K (.ref p) (upd H p o)
def OkCall (X : Cx) (f : Value) (vs : List V) (H : Hp) (K : VK) : Prop := ∃ r, CallR X f r ∧ r vs H K
theorem callK (X : Cx) (f : Value) : CallR X f (OkCall X f) := fun pins s σ H xs us Q I r1 ⟨r, p, h⟩ => p pins s σ H xs us Q I r1 h
def OkM (X : Cx) (id : String) (x : V) (vs : List V) (H : Hp) (K : VK) : Prop := ∃ r, MtR X id r ∧ r x vs H K
theorem mtrK (X : Cx) (id : String) : MtR X id (OkM X id) := fun pins s σ H x xs v us Q I r1 r2 ⟨r, p, h⟩ => p pins s σ H x xs v us Q I r1 r2 h
def biF : BI → Value
  | .len => .builtin "len" | .int => .type "int" | .max => .builtin "max" | .min => .builtin "min" | .sorted => .builtin "sorted" | .list => .type "list" | .tuple => .type "tuple"
  | .str => .type "str" | .dict => .type "dict" | .repr => .builtin "repr" | .lrng1 => .type "list" | .lrng2 => .type "list" | .reprD => .builtin "repr"
/-! ### lists of texts, ints, pairs -/
section
variable {g : G} {F : Hp}
theorem strsD_ok : ∀ {ds : List D} {xs : List Str}, strsD ds = some xs → ds = xs.map .str
  | [], xs, h => by cases h; rfl
  | d :: ds, xs, h => by
    cases d with
    | str s =>
      obtain ⟨r, e, h⟩ := Option.map_eq_some_iff.mp (show (strsD ds).map (s :: ·) = some xs from h)
      subst h
      rw [strsD_ok e]; rfl
    | _ => cases h
theorem intsD_ok : ∀ {ds : List D} {xs : List Int}, intsD ds = some xs → ds = xs.map .int
  | [], xs, h => by cases h; rfl
  | d :: ds, xs, h => by
    cases d with
    | int s =>
      obtain ⟨r, e, h⟩ := Option.map_eq_some_iff.mp (show (intsD ds).map (s :: ·) = some xs from h)
      subst h
      rw [intsD_ok e]; rfl
    | _ => cases h
theorem pairsD_ok : ∀ {ds : List D} {xs : List (Int × Int)}, pairsD ds = some xs → ds = xs.map pD
  | [], xs, h => by cases h; rfl
  | d :: ds, xs, h => by
    unfold pairsD at h
    split at h
    · rename_i e; cases e
    · rename_i a b r ee
      cases ee
      obtain ⟨q, e, h⟩ := Option.map_eq_some_iff.mp h
      subst h
      rw [List.map_cons, ← pairsD_ok e]
      rfl
    · cases h
theorem RepL.strs : ∀ {xs : List Str} {vs : List V}, RepL g F (xs.map .str) vs → vs = xs.map V.str
  | [], _, r => r
  | s :: xs, _, ⟨v, vr, e, q, r⟩ => by subst e; rw [q.1, RepL.strs r]; rfl
theorem RepL.ints : ∀ {xs : List Int} {vs : List V}, RepL g F (xs.map .int) vs → vs = xs.map V.int
  | [], _, r => r
  | s :: xs, _, ⟨v, vr, e, q, r⟩ => by subst e; rw [show v = _ from q, RepL.ints r]; rfl
theorem RepL.of_ints : ∀ {xs : List Int}, RepL g F (xs.map .int) (xs.map V.int)
  | [] => rfl
  | s :: xs => ⟨.int s, _, rfl, rfl, RepL.of_ints⟩
theorem RepL.strOk : ∀ {xs : List Str} {vs : List V}, RepL g F (xs.map .str) vs → ∀ s ∈ xs, s.length ≤ sizeLine ∧ s.cps.all (· < 0x110000) = true
  | [], _, _, s, h => nomatch h
  | s :: xs, _, ⟨v, vr, e, q, r⟩, t, h => by
    rcases List.mem_cons.mp h with rfl | h
    · exact q.2
    · exact RepL.strOk r t h
theorem RepL.of_strs : ∀ {xs : List Str}, (∀ s ∈ xs, s.length ≤ sizeLine ∧ s.cps.all (· < 0x110000) = true) → RepL g F (xs.map .str) (xs.map V.str)
  | [], _ => rfl
  | s :: xs, h => ⟨.str s, _, rfl, ⟨rfl, h s List.mem_cons_self⟩, RepL.of_strs fun t ht => h t (List.mem_cons_of_mem _ ht)⟩
end
/-! ### sorting -/
theorem ltS_eq (a b : Str) : ltCps a.cps.toList b.cps.toList = ltS a b := ltCps_eq _ _
theorem leS_iff {a b : Str} : leS a b = true ↔ a.cps.toList ≤ b.cps.toList := by
  unfold leS ltS
  rw [Bool.not_eq_true', decide_eq_false_iff_not]
  exact List.not_lt
theorem leS_trans (a b c : Str) (h1 : leS a b = true) (h2 : leS b c = true) : leS a c = true := leS_iff.mpr (List.le_trans (leS_iff.mp h1) (leS_iff.mp h2))
theorem leS_total (a b : Str) : (leS a b || leS b a) = true := by
  rw [Bool.or_eq_true, leS_iff, leS_iff]
  exact List.le_total _ _
theorem leS_anti {a b : Str} (h1 : leS a b = true) (h2 : leS b a = true) : a = b := by
  have e : a.cps.toList = b.cps.toList := List.le_antisymm (leS_iff.mp h1) (leS_iff.mp h2)
  obtain ⟨x⟩ := a; obtain ⟨y⟩ := b
  exact congrArg Str.mk (Array.toList_inj.mp e)
theorem perm_uniq {α : Type} {le : α → α → Bool} (anti : ∀ a b, le a b = true → le b a = true → a = b) : ∀ {l m : List α}, l.Perm m → l.Pairwise (fun a b => le a b = true) → m.Pairwise (fun a b => le a b = true) → l = m
  | [], m, p, _, _ => (List.nil_perm.mp p).symm
  | a :: l, [], p, _, _ => absurd p.length_eq (by simp)
  | a :: l, b :: m, p, h1, h2 => by
    rw [List.pairwise_cons] at h1 h2
    have e : a = b := by
      have ha : a ∈ b :: m := p.mem_iff.mp List.mem_cons_self
      have hb : b ∈ a :: l := p.mem_iff.mpr List.mem_cons_self
      rcases List.mem_cons.mp ha with ha | ha
      · exact ha
      · rcases List.mem_cons.mp hb with hb | hb
        · exact hb.symm
        · exact anti _ _ (h1.1 b hb) (h2.1 a ha)
    subst e
    rw [perm_uniq anti (List.perm_cons a |>.mp p) h1.2 h2.2]
theorem rising_pw : ∀ {l : List Str} {p : Str}, risingS p l = true → (p :: l).Pairwise fun a b => leS a b = true
  | [], p, _ => List.pairwise_singleton _ _
  | x :: r, p, h => by
    have h : (!ltCps x.cps.toList p.cps.toList && risingS x r) = true := h
    rw [Bool.and_eq_true, ltS_eq] at h
    have ih := rising_pw h.2
    refine List.pairwise_cons.mpr ⟨fun b hb => ?_, ih⟩
    rcases List.mem_cons.mp hb with rfl | hb
    · exact h.1
    · exact leS_trans _ _ _ h.1 ((List.pairwise_cons.mp ih).1 b hb)
theorem sortedS_pw {l : List Str} (h : sortedS l = true) : l.Pairwise fun a b => leS a b = true := by
  cases l with
  | nil => exact List.Pairwise.nil
  | cons x r => exact rising_pw h
theorem sortS_perm (l : List Str) : (sortS l).Perm l := isort_perm _ _
theorem sortS_pw (l : List Str) : (sortS l).Pairwise fun a b => leS a b = true := isort_pw leS_trans leS_total l
theorem sortS_uniq {l m : List Str} (p : m.Perm l) (h : m.Pairwise fun a b => leS a b = true) : m = sortS l := perm_uniq (fun _ _ => leS_anti) (p.trans (sortS_perm l).symm) h (sortS_pw l)
theorem sortI_perm (l : List Int) : (sortI l).Perm l := isort_perm _ _
theorem sortI_pw (l : List Int) : (sortI l).Pairwise fun a b => decide (a ≤ b) = true := isort_pw (le := fun a b : Int => decide (a ≤ b)) (fun a b c h1 h2 => decide_eq_true (Int.le_trans (of_decide_eq_true h1) (of_decide_eq_true h2))) (fun a b => by
  show (decide (a ≤ b) || decide (b ≤ a)) = true
  rw [Bool.or_eq_true, decide_eq_true_eq, decide_eq_true_eq]; exact Int.le_total a b) l
theorem sortI_uniq {l m : List Int} (p : m.Perm l) (h : m.Pairwise (· ≤ ·)) : m = sortI l :=
  perm_uniq (le := fun a b => decide (a ≤ b)) (fun _ _ h1 h2 => Int.le_antisymm (of_decide_eq_true h1) (of_decide_eq_true h2)) (p.trans (sortI_perm l).symm) (h.imp fun h => decide_eq_true h) (sortI_pw l)
theorem leP_lex (a b : Int × Int) : leP a b = !SrtO.lexB b a := by
  unfold leP SrtO.lexB
  obtain ⟨a1, a2⟩ := a; obtain ⟨b1, b2⟩ := b
  dsimp only
  by_cases h : b1 = a1
  · subst h
    rw [if_pos rfl, decide_eq_false (Int.lt_irrefl _), decide_eq_true rfl]
    by_cases h2 : a2 ≤ b2
    · rw [decide_eq_true h2, decide_eq_false (show ¬ b2 < a2 by omega)]; rfl
    · rw [decide_eq_false h2, decide_eq_true (show b2 < a2 by omega)]; rfl
  · rw [if_neg h, decide_eq_false (show ¬ a1 = b1 from fun e => h e.symm)]
    by_cases h2 : a1 < b1
    · rw [decide_eq_true h2, decide_eq_false (show ¬ b1 < a1 by omega)]; rfl
    · rw [decide_eq_false h2, decide_eq_true (show b1 < a1 by omega)]; rfl
theorem leP_iff {a b : Int × Int} : leP a b = true ↔ a.1 < b.1 ∨ (a.1 = b.1 ∧ a.2 ≤ b.2) := by
  unfold leP
  simp only [Bool.or_eq_true, Bool.and_eq_true, decide_eq_true_eq]
theorem sortP_perm (l : List (Int × Int)) : (sortP l).Perm l := isort_perm _ _
theorem sortP_pw (l : List (Int × Int)) : (sortP l).Pairwise fun a b => leP a b = true := isort_pw (fun a b c h1 h2 => by rw [leP_iff] at *; omega) (fun a b => by rw [Bool.or_eq_true, leP_iff, leP_iff]; omega) l
theorem leP_anti {a b : Int × Int} (h1 : leP a b = true) (h2 : leP b a = true) : a = b := by
  rw [leP_iff] at *
  obtain ⟨a1, a2⟩ := a; obtain ⟨b1, b2⟩ := b
  dsimp only at *
  have e1 : a1 = b1 := by omega
  have e2 : a2 = b2 := by omega
  rw [e1, e2]
theorem sortP_uniq {l m : List (Int × Int)} (p : m.Perm l) (h : m.Pairwise fun a b => leP a b = true) : m = sortP l := perm_uniq (fun _ _ => leP_anti) (p.trans (sortP_perm l).symm) h (sortP_pw l)
theorem sortD_len {l m : List D} (h : sortD l = some m) : m.length = l.length := by
  unfold sortD at h
  split at h
  · rename_i xs e
    cases e2 : decide (xs.length < 64) with
    | false => rw [e2] at h; cases h
    | true =>
      rw [e2] at h; cases h
      rw [strsD_ok e, List.length_map, List.length_map, (sortS_perm xs).length_eq]
  · split at h
    · rename_i xs e
      cases h
      rw [intsD_ok e, List.length_map, List.length_map, (sortI_perm xs).length_eq]
    · split at h
      · rename_i xs e
        cases h
        rw [pairsD_ok e, List.length_map, List.length_map, (sortP_perm xs).length_eq]
      · cases h
/-! ### what the built-in functions give -/
section
variable {g : G} {X : Cx} {ρ : List Sl} {σ : L2.St} {F H : Hp} {K : VK}
theorem RepL.perm_strs {xs ys : List Str} {vs : List V} (r : RepL g F (xs.map .str) vs) (p : ys.Perm xs) : RepL g F (ys.map .str) (ys.map V.str) := RepL.of_strs fun s hs => r.strOk s (p.mem_iff.mp hs)
/-- the two ints of a pair that stands -/
def kOf (H : Hp) (v : V) : Int × Int := match v with
  | .ref t => match H t with
    | some (.tup [.int a, .int b]) => (a, b)
    | _ => (0, 0)
  | _ => (0, 0)
theorem RepL.pairs (sub : Same F H) : ∀ {xs : List (Int × Int)} {vs : List V}, RepL g F (xs.map pD) vs → (∀ x ∈ vs, ∃ t, x = V.ref t ∧ H t = some (.tup [.int (kOf H x).1, .int (kOf H x).2])) ∧ vs.map (kOf H) = xs
  | [], _, r => by cases (show _ = [] from r); exact ⟨fun _ h => (nomatch h), rfl⟩
  | p :: xs, _, ⟨v, vr, e, q, r⟩ => by
    subst e
    obtain ⟨a, us, rfl, ea, _, w1, wr, rfl, q1, w2, wr2, rfl, q2, q3⟩ := q
    cases (show w1 = _ from q1); cases (show w2 = _ from q2); cases (show wr2 = [] from q3)
    have e1 := sub _ _ ea
    have ek : kOf H (.ref a) = p := by
      unfold kOf
      dsimp only
      rw [e1]
    obtain ⟨h1, h2⟩ := RepL.pairs sub r
    refine ⟨fun x hx => ?_, by rw [List.map_cons, ek, h2]⟩
    rcases List.mem_cons.mp hx with rfl | hx
    · exact ⟨a, rfl, by rw [ek]; exact e1⟩
    · exact h1 x hx
theorem RepL.of_pairs (sub : Same F H) : ∀ {xs : List (Int × Int)} {vs ys : List V}, RepL g F (xs.map pD) vs → (∀ y ∈ ys, y ∈ vs) → RepL g F ((ys.map (kOf H)).map pD) ys
  | xs, vs, [], _, _ => rfl
  | xs, vs, y :: ys, r, h => by
    refine ⟨y, ys, rfl, ?_, RepL.of_pairs sub r fun z hz => h z (List.mem_cons_of_mem _ hz)⟩
    obtain ⟨i, hi⟩ := List.mem_iff_getElem?.mp (h y List.mem_cons_self)
    obtain ⟨d, ed, q⟩ := r.nth hi
    rw [List.getElem?_map] at ed
    obtain ⟨p, ep, rfl⟩ := Option.map_eq_some_iff.mp ed
    have h2 := (RepL.pairs sub r).2
    have h3 : (vs.map (kOf H))[i]? = some (kOf H y) := by rw [List.getElem?_map, hi]; rfl
    rw [h2, ep] at h3
    rw [← Option.some.inj h3]
    exact q
theorem small_all : ((List.range 1000).all fun n => decide (((n : Int)).natAbs.log2 < 1920) && decide ((Str.ofString (toString (n : Int))).length ≤ 16777216) && (Str.ofString (toString (n : Int))).cps.all (· < 0x110000)) = true := by decide +kernel
theorem small_text {i : Int} (h : (decide (0 ≤ i) && decide (i < 1000)) = true) : i.natAbs.log2 < 1920 ∧ (Str.ofString (toString i)).length ≤ sizeLine ∧ (Str.ofString (toString i)).cps.all (· < 0x110000) = true := by
  rw [Bool.and_eq_true, decide_eq_true_iff, decide_eq_true_iff] at h
  obtain ⟨n, rfl⟩ : ∃ n : Nat, i = (n : Int) := ⟨i.toNat, by omega⟩
  have := List.all_eq_true.mp small_all n (List.mem_range.mpr (by omega))
  rw [Bool.and_eq_true, Bool.and_eq_true, decide_eq_true_iff, decide_eq_true_iff] at this
  exact ⟨this.1.1, Nat.le_trans this.1.2 (by decide), this.2⟩
theorem biOk {b : BI} {ds : List D} {vs : List V} {s : Sl} (S : SR g F ρ σ H) (hK : g.K = X.K) (hc : X.calm = true) (r : RdVs g F H ds vs) (h : biD b ds = some s) (nb : b ≠ .lrng1) (nd : b ≠ .reprD) (k : OutS g ρ σ F H s K) : OkCall X (biF b) vs H K := by
  unfold biD at h
  split at h
  · -- len
    rename_i d
    obtain ⟨n, en, rfl⟩ := Option.map_eq_some_iff.mp h
    obtain ⟨v, vr, rfl, q, hr⟩ := r
    cases (show vr = [] from hr)
    have k : K (.int n) H := Out.flat S k rfl
    unfold lenD at en
    split at en
    · cases en
      obtain ⟨a, us, rfl, e1, _, q1⟩ := q
      exact ⟨_, call_len, _, _, rfl, .inl ⟨us, .of e1, q1.len.symm⟩, k⟩
    · cases en
      obtain ⟨a, us, rfl, e1, _, q1⟩ := q
      exact ⟨_, call_len, _, _, rfl, .inr ⟨us, .of (S.sub _ _ e1), q1.len.symm⟩, k⟩
    · cases en
      obtain ⟨rfl, l1, _⟩ := q
      exact ⟨_, call_len, _, _, rfl, ⟨l1, rfl⟩, k⟩
    · cases en
      obtain ⟨a, us, rfl, e1, _, q1⟩ := q
      exact ⟨_, call_lenD, a, us, rfl, e1, by rw [q1.len]; exact k⟩
    · cases en
      obtain ⟨a, rfl, hq, hl⟩ := q
      have hq := S.sub.seq hq
      rw [hK] at hq
      exact ⟨_, call_len, _, _, rfl, .inl ⟨_, hq, by rw [List.length_map]⟩, k⟩
    · cases en
  · cases h
    obtain ⟨v, vr, rfl, q, hr⟩ := r
    cases (show vr = [] from hr); cases (show v = _ from q)
    exact ⟨_, call_int1, .inl ⟨_, rfl, Out.flat S k rfl⟩⟩
  · cases h
    obtain ⟨v, vr, rfl, q, hr⟩ := r
    cases (show vr = [] from hr); cases (show v = _ from q)
    exact ⟨_, call_int1, .inr ⟨_, rfl, Out.flat S k rfl⟩⟩
  · cases h
    obtain ⟨v, vr, rfl, q, v2, vr2, rfl, q2, hr⟩ := r
    cases (show vr2 = [] from hr); cases (show v = _ from q); cases (show v2 = _ from q2)
    exact ⟨_, call_max2 hc, _, _, rfl, Out.flat S k rfl⟩
  · -- sorted
    rename_i l
    obtain ⟨m, em, rfl⟩ := Option.map_eq_some_iff.mp h
    obtain ⟨v, vr, rfl, ⟨a, us, rfl, e1, l1, q1⟩, hr⟩ := r
    cases (show vr = [] from hr)
    have hm := sortD_len em
    have k : ∀ p o, H p = none → RepO g F (.lst m) o → K (.ref p) (upd H p o) := k
    unfold sortD at em
    split at em
    · rename_i xs e
      cases e2 : decide (xs.length < 64) with
      | false => rw [e2] at em; cases em
      | true =>
        rw [e2] at em; cases em
        have e := strsD_ok e
        subst e
        cases q1.strs
        refine ⟨_, cr_sortedS, a, xs, rfl, .of e1, of_decide_eq_true e2, fun ys p hp hs hn => ?_⟩
        cases sortS_uniq hp (sortedS_pw hs)
        exact k p _ hn ⟨_, rfl, by omega, RepL.perm_strs q1 hp⟩
    · split at em
      · rename_i xs e
        cases em
        have e := intsD_ok e
        subst e
        cases q1.ints
        refine ⟨_, cr_sortedI, a, xs, rfl, .of e1, fun ys p hp hs hn => ?_⟩
        cases sortI_uniq hp hs
        exact k p _ hn ⟨_, rfl, by omega, RepL.of_ints⟩
      · split at em
        · rename_i xs e
          cases em
          have e := pairsD_ok e
          subst e
          obtain ⟨h1, h2⟩ := RepL.pairs S.sub q1
          refine ⟨_, cr_sortedPO, a, us, kOf H, rfl, .of e1, h1, fun ys p hp hs hn => ?_⟩
          have e3 : ys.map (kOf H) = sortP xs := by
            refine sortP_uniq (by rw [← h2]; exact hs.perm.map _) ?_
            rw [List.pairwise_map]
            refine hp.imp fun {x y} hxy => ?_
            rw [leP_lex]
            have hxy : SrtO.lexB (kOf H y) (kOf H x) = false := hxy
            rw [hxy]; rfl
          refine k p _ hn ⟨_, rfl, by omega, ?_⟩
          rw [← e3]
          exact RepL.of_pairs S.sub q1 fun y hy => hs.perm.mem_iff.mp hy
        · cases em
  · cases h
    obtain ⟨v, vr, rfl, ⟨a, us, rfl, e1, l1, q1⟩, hr⟩ := r
    cases (show vr = [] from hr)
    exact ⟨_, call_list_of, a, us, rfl, .inl (.of e1), fun p hp => k p _ hp ⟨us, rfl, l1, q1⟩⟩
  · cases h
    obtain ⟨v, vr, rfl, ⟨a, us, rfl, e1, l1, q1⟩, hr⟩ := r
    cases (show vr = [] from hr)
    exact ⟨_, call_list_of, a, us, rfl, .inr (.of (S.sub _ _ e1)), fun p hp => k p _ hp ⟨us, rfl, l1, q1⟩⟩
  · cases h
    obtain ⟨v, vr, rfl, ⟨a, us, rfl, e1, l1, q1⟩, hr⟩ := r
    cases (show vr = [] from hr)
    exact ⟨_, call_tuple_of, a, us, rfl, .inl ⟨.of e1, fun p hp => Out.tup S k hp l1 q1⟩⟩
  · cases h
    obtain ⟨v, vr, rfl, ⟨rfl, q⟩, hr⟩ := r
    cases (show vr = [] from hr)
    exact ⟨_, SkE.call_str_str, _, rfl, Out.flat S k ⟨rfl, q⟩⟩
  · rename_i i
    cases hb : decide (0 ≤ i) && decide (i < 1000) with
    | false => rw [hb] at h; cases h
    | true =>
      rw [hb] at h
      cases h
      obtain ⟨v, vr, rfl, q, hr⟩ := r
      cases (show vr = [] from hr); cases (show v = _ from q)
      obtain ⟨h1, h2, h3⟩ := small_text hb
      exact ⟨_, call_str_int, _, rfl, h1, Out.flat S k ⟨rfl, h2, h3⟩⟩
  · cases h
    obtain ⟨v, vr, rfl, ⟨a, us, rfl, e1, l1, q1⟩, hr⟩ := r
    cases (show vr = [] from hr)
    exact ⟨_, call_dictD, a, us, rfl, .inl e1, fun p hp => k p _ hp ⟨us, rfl, l1, q1⟩⟩
  · rename_i l
    obtain ⟨ns, en, h⟩ := Option.bind_eq_some_iff.mp h
    obtain ⟨m, em, rfl⟩ := Option.map_eq_some_iff.mp h
    obtain ⟨v, vr, rfl, ⟨a, us, rfl, e1, l1, q1⟩, hr⟩ := r
    cases (show vr = [] from hr)
    have e := intsD_ok en
    subst e
    cases q1.ints
    obtain ⟨hm1, hm2⟩ := (List.min?_eq_some_iff (xs := ns) (a := m)).mp em
    refine ⟨_, cr_min hc, a, ns, rfl, .of e1, List.length_pos_of_mem hm1, fun m' h1 h2 => ?_⟩
    have : m' = m := Int.le_antisymm (h2 m hm1) (hm2 m' h1)
    subst this
    exact Out.flat S k rfl
  · exact (nb rfl).elim
  · exact (nd rfl).elim
  · cases h
    obtain ⟨v, vr, rfl, q, hr⟩ := r
    cases (show vr = [] from hr); cases (show v = _ from q)
    rename_i c
    refine ⟨fun xs H Q => ∃ c : Bool, xs = [.bl c] ∧ Q (.str (if c then "True" else "False")) H, fun pins s σ H xs us Q I rr ⟨c, e, q⟩ => ?_, c, rfl, Out.flat S k ⟨rfl, ?_, ?_⟩⟩
    · subst e
      cases rr with
      | cons r1 r2 =>
        cases r2
        cases (show _ = Value.bool c from r1)
        exact PySem.P.repr_of_bool ⟨.str _, H, I.tok _, ⟨_, rfl⟩, q⟩
    · cases c <;> decide +kernel
    · cases c <;> decide +kernel
  · rename_i i
    cases hb : decide (0 ≤ i) && decide (i < 1000) with
    | false => rw [hb] at h; cases h
    | true =>
      rw [hb] at h
      cases h
      obtain ⟨v, vr, rfl, q, hr⟩ := r
      cases (show vr = [] from hr); cases (show v = _ from q)
      obtain ⟨h1, h2, h3⟩ := small_text hb
      exact ⟨_, SkE.call_repr_int, _, rfl, h1, Out.flat S k ⟨rfl, h2, h3⟩⟩
  · cases h
/-- repr of a list or a tuple of data -/
theorem repr_data (hg : X.A.guards = some []) (hu : X.A.units + 70 < cLine) : CallR X (.builtin "repr") fun xs H Q => ∃ a d, xs = [V.ref a] ∧ Dp X.K H (.ref a) d ∧ SeqAt.shaped d = true ∧ d.showable = true ∧ d.shown.length ≤ sizeLine ∧ Q (.str d.shown) H := by
  intro pins s σ H xs us Q I rr h
  obtain ⟨a, d, e, hd, hsh, hs, hz, q⟩ := h
  subst e
  cases rr with
  | cons r1 r2 =>
    cases r2
    cases (show _ = Value.ref a from r1)
    obtain ⟨as, rd⟩ := Dp.reads I d _ _ hd r1
    have hc := SeqAt.canLay_of_shaped hsh
    have hdp : d.depth ≤ 64 := by
      unfold SeqAt.shaped at hsh
      rw [Bool.and_eq_true] at hsh
      first
        | exact of_decide_eq_true hsh.1
        | exact of_decide_eq_true hsh.2
    have hnd : d.hasDict = false := PyData.hasDict_of_canLay d hc
    exact PySem.repr_of_reads' rd hs (fun h => by rw [hnd] at h; cases h) hg (by omega) (fun _ _ e => e) (fun h' u tk hk => ⟨.str _, H, I.kept hk, ⟨_, rfl⟩, q⟩) hz
theorem pairs_keys {knd : PySem.KeyKind X.prog X.w Key} {h : Heap} (hk : ∀ k v, knd.is k v = keyIs k v) : ∀ {es : List DictEntry} {vs : List (Key × Value)}, PySem.Pairs knd es vs → ReadsAll h (es.map (·.key)) (vs.map fun e => keyP e.1) [] ∧ es.map (·.val) = vs.map (·.2) := by
  intro es vs r
  induction r with
  | nil => exact ⟨.nil, rfl⟩
  | cons h1 h2 r ih =>
    obtain ⟨a, b⟩ := ih
    rw [hk] at h1
    refine ⟨?_, by rw [List.map_cons, List.map_cons, h2, b]⟩
    rw [List.map_cons, List.map_cons]
    rcases keyIs_shape h1 with ⟨i, t, e1, e2⟩ | ⟨x, t, e1, e2⟩
    · rw [e1, e2]; exact .cons (.int i t) a
    · rw [e1, e2]; exact .cons (.str x t) a
theorem reads_flat {F : Hp} {h : Heap} {d : D} {v : V} {u : Value} (hf : d.flat = true) (r : Rep g F d v) (rv : RelV v u) : Reads h u (toP d) [] := by
  cases d with
  | non => cases (show v = _ from r); cases rv; exact .none
  | bl b => cases (show v = _ from r); cases rv; exact .bool b
  | int i => cases (show v = _ from r); obtain ⟨t, rfl⟩ := rv; exact .int i t
  | str x => cases (show v = _ from r.1); obtain ⟨t, rfl⟩ := rv; exact .str x t
  | _ => cases hf
theorem reads_vals {F : Hp} {h : Heap} : ∀ {kds : List (Key × D)} {kvs : List (Key × V)} {vs : List (Key × Value)}, (kds.all fun e => e.2.flat) = true → RepK g F kds kvs → KV kvs vs → ReadsAll h (vs.map (·.2)) (kds.map fun e => toP e.2) [] ∧ vs.map (·.1) = kds.map (·.1)
  | [], _, _, _, r, k => by
    cases (show _ = [] from r)
    cases k
    exact ⟨.nil, rfl⟩
  | (q, d) :: kds, _, _, hf, ⟨v, vr, e, r1, r2⟩, k => by
    subst e
    rw [List.all_cons, Bool.and_eq_true] at hf
    cases k with
    | @cons _ y _ ys k1 k2 =>
      obtain ⟨a, b⟩ := reads_vals hf.2 r2 k2
      obtain ⟨y1, y2⟩ := y
      obtain ⟨e1, e2⟩ := k1
      refine ⟨.cons (reads_flat hf.1 r1 e2) a, ?_⟩
      rw [List.map_cons, List.map_cons, b]
      exact congrArg (· :: kds.map (·.1)) e1.symm
theorem reads_dic {F H : Hp} {s : Shared} {σ : L2.St} {pins : List (Addr × Obj)} (I : Inv X pins σ H s) (sub : Same F H) {d : D} {v : V} {u : Value} (hf : flatDic d = true) (r : Rep g F d v) (rv : RelV v u) : ∃ b, Reads s.heap u (dicP d) [b] ∧ b ≠ sysModules := by
  cases d with
  | dic kds =>
    obtain ⟨b, kvs, rfl, e, _, rk⟩ := r
    cases (show u = Value.ref b from rv)
    obtain ⟨_, ns, vs, kv, o, es, ep, h1, h2, h3, _, h4, _⟩ := (show ObjOk X.prog X.w H s.heap b (.dK kvs) from I.hok b _ (sub _ _ e))
    obtain ⟨a1, b1⟩ := reads_vals (h := s.heap) hf rk kv
    obtain ⟨a2, b2⟩ := pairs_keys (h := s.heap) (fun _ _ => rfl) h4
    refine ⟨b, ?_, fun z => by rw [z] at ns; simp at ns⟩
    have a3 : ReadsAll s.heap (es.toList.map (·.key)) ((kds.map fun e => (keyP e.1, toP e.2)).map (·.1)) [] := by
      rw [List.map_map]
      have : (vs.map fun e => keyP e.1) = kds.map ((fun p : PyData × PyData => p.1) ∘ fun e => (keyP e.1, toP e.2)) := by
        have e2 := congrArg (List.map keyP) b1
        rw [List.map_map, List.map_map] at e2
        exact e2
      rw [← this]
      exact a2
    have a4 : ReadsAll s.heap (es.toList.map (·.val)) ((kds.map fun e => (keyP e.1, toP e.2)).map (·.2)) [] := by
      rw [List.map_map, b2]
      exact a1
    exact .dict h1 h2.1 h3 a3 a4
  | _ => cases hf
theorem reads_dics {F H : Hp} {s : Shared} {σ : L2.St} {pins : List (Addr × Obj)} (I : Inv X pins σ H s) (sub : Same F H) : ∀ {ds : List D} {vs : List V} {us : List Value}, ds.all flatDic = true → RepL g F ds vs → Vals vs us → ∃ as, ReadsAll s.heap us (ds.map dicP) as ∧ sysModules ∉ as
  | [], _, _, _, r, k => by
    cases (show _ = [] from r)
    cases k
    exact ⟨[], .nil, by simp⟩
  | d :: ds, _, _, hf, ⟨v, vr, e, r1, r2⟩, k => by
    subst e
    rw [List.all_cons, Bool.and_eq_true] at hf
    cases k with
    | cons k1 k2 =>
      obtain ⟨b, a, nb⟩ := reads_dic I sub hf.1 r1 k1
      obtain ⟨as, a', na⟩ := reads_dics I sub hf.2 r2 k2
      refine ⟨[b] ++ as, .cons a a', fun z => ?_⟩
      rcases List.mem_cons.mp z with z | z
      · exact nb z.symm
      · exact na z
theorem depth_flat {d : D} (h : d.flat = true) : (toP d).depth = 0 := by
  cases d <;> first | (cases h; done) | simp only [toP, PyData.depth]
theorem depth_kv : ∀ {kds : List (Key × D)}, (kds.all fun e => e.2.flat) = true → PyData.depthKv (kds.map fun e => (keyP e.1, toP e.2)) = 0
  | [], _ => by simp only [List.map_nil, PyData.depthKv]
  | (k, d) :: kds, h => by
    rw [List.all_cons, Bool.and_eq_true] at h
    rw [List.map_cons]
    have e : (keyP k).depth = 0 := by cases k <;> simp only [keyP, PyData.depth]
    simp only [PyData.depthKv, e, depth_flat h.1, depth_kv h.2, Nat.max_self]
theorem depth_dic {d : D} (h : flatDic d = true) : (dicP d).depth ≤ 1 := by
  cases d with
  | dic kds => simp only [dicP, PyData.depth, depth_kv h, Nat.zero_add, Nat.le_refl]
  | _ => cases h
theorem depth_dics : ∀ {ds : List D}, ds.all flatDic = true → PyData.depthAll (ds.map dicP) ≤ 1
  | [], _ => by simp only [List.map_nil, PyData.depthAll]; omega
  | d :: ds, h => by
    rw [List.all_cons, Bool.and_eq_true] at h
    have := depth_dic h.1
    have := depth_dics h.2
    simp only [List.map_cons, PyData.depthAll]
    omega
theorem repr_read (hg : X.A.guards = some []) (hu : X.A.units + 70 < cLine) {H : Hp} {a : Addr} {d : PyData} {K : VK}
    (hr : ∀ (s : Shared) (σ : L2.St) (pins : List (Addr × Obj)), Inv X pins σ H s → ∃ as, Reads s.heap (.ref a) d as ∧ sysModules ∉ as) (hdp : d.depth ≤ 64) (hs : d.showable = true) (hz : d.shown.length ≤ sizeLine) (q : K (.str d.shown) H) : OkCall X (.builtin "repr") [V.ref a] H K := by
  refine ⟨fun xs H' Q' => xs = [V.ref a] ∧ H' = H ∧ Q' = K, ?_, rfl, rfl, rfl⟩
  intro pins s σ H' xs us Q I rr h
  obtain ⟨rfl, rfl, rfl⟩ := h
  cases rr with
  | cons r1 r2 =>
    cases r2
    cases (show _ = Value.ref a from r1)
    obtain ⟨as, rd, ns⟩ := hr s σ pins I
    exact PySem.repr_of_reads' rd hs (fun _ => ns) hg (by omega) (fun _ _ e => e) (fun h' u tk hk => ⟨.str _, H', I.kept hk, ⟨_, rfl⟩, q⟩) hz
theorem biOkD {mg : Str → Option Value} {ds : List D} {vs : List V} {s : Sl} (T : Ty g X.K mg) (S : SR g F ρ σ H) (hK : g.K = X.K) (hg : X.A.guards = some []) (hu : X.A.units + 70 < cLine) (r : RdVs g F H ds vs) (h : biD .reprD ds = some s) (k : OutS g ρ σ F H s K) : OkCall X (.builtin "repr") vs H K := by
  cases ds with
  | nil => exact nomatch (show (none : Option Sl) = some s from h)
  | cons d ds =>
  cases ds with
  | cons e ds => exact nomatch (show (none : Option Sl) = some s from h)
  | nil =>
  have h : (bif showB d then some (Sl.sh (.str (toR d).shown)) else none) = some s := h
  obtain ⟨v, vr, rfl, q, hr⟩ := r
  cases (show vr = [] from hr)
  cases hb : showB d with
  | false => rw [hb] at h; cases h
  | true =>
    rw [hb] at h
    cases h
    unfold showB fits at hb
    simp only [Bool.and_eq_true, decide_eq_true_eq] at hb
    obtain ⟨⟨⟨⟨h1, h2⟩, h3⟩, h4⟩, h5⟩ := hb
    cases h8 : okN 8 d with
    | true =>
      have eR : toR d = toP d := by
        unfold toR
        split
        · rw [h8]; rfl
        · rfl
      rw [eR] at h3 h4 h5 k
      obtain ⟨k1, k2⟩ := q.dp S.sub h8
      rw [hK] at k1
      have hv : ∃ a, v = .ref a := by
        cases d with
        | lst _ => obtain ⟨a, _, e, _⟩ := q; exact ⟨a, e⟩
        | tup _ => obtain ⟨a, _, e, _⟩ := q; exact ⟨a, e⟩
        | _ => cases h1
      obtain ⟨a, rfl⟩ := hv
      exact ⟨_, repr_data hg hu, a, toP d, rfl, k1, k2, h3, h4, Out.flat S k ⟨rfl, h4, h5⟩⟩
    | false =>
      unfold okR at h2
      rw [h8, Bool.false_or] at h2
      cases d with
      | lst ds =>
        have eR : toR (.lst ds) = .list (ds.map dicP) := by
          unfold toR
          dsimp only
          rw [h8]; rfl
        rw [eR] at h3 h4 h5 k
        obtain ⟨a, vs, rfl, ea, _, rl⟩ := q
        obtain ⟨o, ho⟩ := Option.isSome_iff_exists.mp T.smk
        refine repr_read hg hu (d := .list (ds.map dicP)) (fun s σ pins I => ?_) ?_ h3 h4 (Out.flat S k ⟨rfl, h4, h5⟩)
        · obtain ⟨its, rv, ⟨o', n, e1, e2, e3, e4⟩, _⟩ := I.list (a := a) (xs := vs) (.inl (.inl ea))
          obtain ⟨as, ra, na⟩ := reads_dics I S.sub h2 rl rv
          refine ⟨a :: as, .list e1 (by first | exact e2 | exact e3 | exact e4) (by first | exact e4 | exact e3 | exact e2) ra, fun z => ?_⟩
          rcases List.mem_cons.mp z with z | z
          · have hN := (I.bs sysModules o (I.ok.mod.kin _ _ ho)).2
            rw [z, ea] at hN
            cases hN
          · exact na z
        · have := depth_dics h2
          simp only [PyData.depth]
          omega
      | _ => cases h2
end
end FT

set_option Elab.async false
set_option linter.all false
set_option maxRecDepth 100000
set_option autoImplicit false
set_option maxHeartbeats 1000000
namespace FT
open PySem PySem.Spec PyProof.Rows L2
section
variable {g : G} {X : Cx} {ρ : List Sl} {σ : L2.St} {F H : Hp} {K : VK}
theorem mt_dget (hu : X.A.units + 1 < cLine) : MtR X "dict.get" (fun x xs H Q => ∃ a y o, x = .ref a ∧ xs = [y] ∧ DGet H a y o ∧ Q (o.getD .non) H) := by
  intro pins s σ H x xs v us Q I rx rr ⟨a, y, o, e1, e2, gg, q⟩
  subst e1 e2
  obtain rfl : v = Value.ref a := rx
  cases rr with
  | cons r1 r2 =>
    cases r2
    exact d_get1 hu I gg r1 fun w' s3 I3 rw' => ⟨_, H, I3, rw', q⟩
theorem mt_dupdate : MtR X "dict.update" (fun x xs H Q => ∃ a b ks ls, x = .ref a ∧ xs = [.ref b] ∧ a ≠ b ∧ H a = some (.dK ks) ∧ H b = some (.dK ls) ∧ ks.length + ls.length ≤ sizeLine ∧ Q .non (upd H a (.dK (mergeK ks ls)))) := by
  intro pins s σ H x xs v us Q I rx rr ⟨a, b, ks, ls, e1, e2, ne, ha, hb, hz, q⟩
  subst e1 e2
  obtain rfl : v = Value.ref a := rx
  cases rr with
  | cons r1 r2 =>
    cases r2
    cases (show _ = Value.ref b from r1)
    obtain ⟨z1, hm1, vs1, rel1, dd1⟩ := dk_of I.hok ha
    obtain ⟨z2, hm2, vs2, rel2, dd2⟩ := dk_of I.hok hb
    have hl : (mergeK ks ls).length ≤ sizeLine := Nat.le_trans (length_mergeK ls ks) hz
    refine call_meetsIn PySem.F.slot_dict_update dd1.typeIs PySem.F.entry_dict_update (PySem.F.args_dict_update_2 _ _) (meets_dict_update _ a b ne hm2) ⟨vs1, vs2, dd1, dd2, ?_, fun h' dd' _ hs => ?_⟩
    · have e1 := rel1.length
      have e2 := rel2.length
      omega
    · have he : ∃ q, h'.get? a = some q := let ⟨q, _, _, hq, _⟩ := dd'; ⟨q, hq⟩
      exact ⟨.non, _, d_write I (by rw [ha]; exact True.intro) hs he (dk_new hl hm1 (KV.merge rel2 rel1) dd'), rfl, q⟩
theorem idx_first {l : List D} {x : D} {n : Nat} (h : idxD l x = some n) : ∃ z, l[n]? = some z ∧ eqB z x = true ∧ ∀ m z', m < n → l[m]? = some z' → eqB z' x = false := by
  obtain ⟨h1, h2, h3⟩ := List.findIdx?_eq_some_iff_getElem.mp h
  refine ⟨l[n], List.getElem?_eq_getElem h1, h2, fun m z' hm hz => ?_⟩
  obtain ⟨h4, e⟩ := List.getElem?_eq_some_iff.mp hz
  have := h3 m hm
  rw [e] at this
  simpa using this
def meId : ME → String
  | .index => "list.index" | .join => "str.join" | .get => "dict.get" | .count => "list.count"
def meT : ME → String
  | .index => "list" | .join => "str" | .get => "dict" | .count => "list"
theorem join_c2 (a x y : Str) (r : List Str) : Txt.join a (x :: y :: r) = x ++ a ++ Txt.join a (y :: r) := by
  show Builtin.Str.glued a (x :: y :: r) = x ++ a ++ Builtin.Str.glued a (y :: r)
  rw [PySem.StrLaws.glued_eq_join, PySem.StrLaws.glued_eq_join]
  rfl
theorem join_len (a : Str) : ∀ l : List Str, (Txt.join a l).length ≤ (l.map (·.length)).sum + l.length * a.length
  | [] => Nat.zero_le _
  | [x] => by
    show x.length ≤ (x.length + 0) + (0 + 1) * a.length
    omega
  | x :: y :: r => by
    have ih := join_len a (y :: r)
    rw [join_c2, len_app, len_app]
    simp only [List.map_cons, List.sum_cons, List.length_cons] at ih ⊢
    have : (r.length + 1 + 1) * a.length = a.length + (r.length + 1) * a.length := by rw [Nat.add_mul (r.length + 1) 1]; omega
    omega
theorem join_ok (a : Str) (ha : a.cps.all (· < 0x110000) = true) : ∀ l : List Str, (∀ s ∈ l, s.cps.all (· < 0x110000) = true) → (Txt.join a l).cps.all (· < 0x110000) = true
  | [], _ => by show (Str.empty).cps.all (· < 0x110000) = true; decide +kernel
  | [x], h => h x List.mem_cons_self
  | x :: y :: r, h => by
    rw [join_c2, cps_app, cps_app, Array.all_append, Array.all_append, ha, h x List.mem_cons_self, join_ok a ha (y :: r) fun s hs => h s (List.mem_cons_of_mem _ hs)]
    rfl
theorem meOk {m : ME} {d0 : D} {ds : List D} {v : V} {vs : List V} {d : D} (S : SR g F ρ σ H) (hK : g.K = X.K) (hu : X.A.units + 64 + 65 < cLine) (r0 : RdV g F H d0 v) (r : RdVs g F H ds vs) (h : meD m d0 ds = some d) (k : Out g ρ σ F H d K) :
    tyV X.K (meT m) v H ∧ OkM X (meId m) v vs H K := by
  unfold meD at h
  split at h
  · rename_i l x
    cases e : x.flat && l.all D.flat with
    | false => rw [e] at h; cases h
    | true =>
      rw [e] at h
      rw [Bool.and_eq_true] at e
      obtain ⟨n, en, rfl⟩ := Option.map_eq_some_iff.mp h
      obtain ⟨z, ez, eq1, eq2⟩ := idx_first en
      obtain ⟨a, us, rfl, e1, l1, q1⟩ := r0
      obtain ⟨w, wr, rfl, q, hr⟩ := r
      cases (show wr = [] from hr)
      obtain ⟨zv, ezv, qz⟩ := q1.get ez
      have hfl : ∀ d ∈ l, d.flat = true := List.all_eq_true.mp e.2
      refine ⟨.inl ⟨rfl, us, .of e1⟩, _, mt_index, a, us, w, n, zv, rfl, rfl, .of e1, q.flatV e.1, q1.flatV e.2, ezv, ?_, fun m z' hm hz => ?_, k.flat S rfl⟩
      · rw [eqV_eqB qz (q.flat e.1) (hfl z (List.mem_of_getElem? ez)) e.1]; exact eq1
      · obtain ⟨d', ed', qd'⟩ := q1.nth hz
        rw [eqV_eqB qd' (q.flat e.1) (hfl d' (List.mem_of_getElem? ed')) e.1]
        exact eq2 m d' hm ed'
  · rename_i a l
    obtain ⟨xs, ex, h⟩ := Option.bind_eq_some_iff.mp h
    cases e : FT.fits ((xs.map (·.length)).sum + xs.length * a.length) with
    | false => rw [e] at h; cases h
    | true =>
      rw [e] at h; cases h
      obtain ⟨rfl, la, ca⟩ := r0
      obtain ⟨w, wr, rfl, ⟨p, us, rfl, e1, l1, q1⟩, hr⟩ := r
      cases (show wr = [] from hr)
      have ex := strsD_ok ex
      subst ex
      cases q1.strs
      have hz : (xs.map (·.length)).sum + xs.length * a.length ≤ 16777216 := by
        have := fits_ok e
        rw [sizeLine_eq] at this
        exact this
      refine ⟨rfl, _, mt_join, a, p, xs, rfl, rfl, .inl (.of e1), hz, k.flat S ⟨rfl, ?_, ?_⟩⟩
      · exact Nat.le_trans (join_len a xs) (fits_ok e)
      · exact join_ok a ca xs fun s hs => (q1.strOk s hs).2
  · rename_i kvs kx
    obtain ⟨kk, ek, rfl⟩ := Option.map_eq_some_iff.mp h
    obtain ⟨a, us, rfl, e1, l1, q1⟩ := r0
    obtain ⟨w, wr, rfl, q, hr⟩ := r
    cases (show wr = [] from hr)
    refine ⟨.inr (.inr (.inl ⟨rfl, .inl ⟨us, e1⟩⟩)), _, mt_dget (by omega), a, w, valV us kk, rfl, rfl, .inl ⟨us, kk, .inl e1, q.key ek, rfl⟩, ?_⟩
    have qv := q1.val (k := kk)
    cases ev : valD kvs kk with
    | none => rw [ev] at qv k; rw [show valV us kk = none from qv]; exact k.flat S rfl
    | some d => rw [ev] at qv k; obtain ⟨u, eu, qu⟩ := qv; rw [eu]; exact k.flat S qu
  · cases h
/-! ### methods that change -/
def mtId : MT → String
  | .append => "list.append" | .pop => "list.pop" | .update => "dict.update" | .reverse => "list.reverse"
def mtT : MT → String
  | .append => "list" | .pop => "list" | .update => "dict" | .reverse => "list"
/-- d0: the own content of slot i; ds: given, shared or flat -/
theorem mtOk {m : MT} {i : Nat} {d0 : D} {ds : List D} {v : V} {vs : List V} {r : D × D} (S : SR g F ρ σ H) (hi : ρ[i]? = some (.ow d0)) (hv : σ[i]? = some (some v)) (rs : RepL g F ds vs) (h : mtD m d0 ds = some r)
    (k : ∀ F' ρ' H' w, ρ' = ρ.set i (.ow r.2) → Stp ρ σ F H ρ' σ F' H' → SR g F' ρ' σ H' → Rep g F' r.1 w → K w H') :
    tyV X.K (mtT m) v H ∧ OkM X (mtId m) v vs H K := by
  obtain ⟨a, o, ea, fa, ha, ro⟩ := S.ow i d0 hi
  rw [hv] at ea
  cases ea
  have fin : ∀ o' w, RepO g F r.2 o' → Rep g F r.1 w → K w (upd H a o') := fun o' w q1 q2 => by
    obtain ⟨S', T⟩ := S.write hi hv q1
    exact k F _ _ w rfl T S' q2
  unfold mtD at h
  split at h
  · rename_i l x
    cases e : decide (l.length < sizeLine) with
    | false => rw [e] at h; cases h
    | true =>
      rw [e] at h; cases h
      obtain ⟨us, rfl, l1, q1⟩ := ro
      obtain ⟨w, wr, rfl, q, hr⟩ := rs
      cases (show wr = [] from hr)
      refine ⟨.inl ⟨rfl, us, .of ha⟩, _, mt_append, a, us, w, rfl, rfl, ha, ?_, fin _ _ ⟨_, rfl, ?_, q1.snoc q⟩ rfl⟩
      · rw [q1.len]; exact of_decide_eq_true e
      · rw [List.length_append]; exact of_decide_eq_true e
  · rename_i l
    obtain ⟨x, ex, rfl⟩ := Option.map_eq_some_iff.mp h
    obtain ⟨us, rfl, l1, q1⟩ := ro
    cases (show vs = [] from rs)
    rw [List.getLast?_eq_getElem?] at ex
    obtain ⟨w, ew, q⟩ := q1.get ex
    refine ⟨.inl ⟨rfl, us, .of ha⟩, _, mt_pop, a, us, w, rfl, rfl, ha, by rw [q1.len]; exact ew, fin _ _ ⟨_, rfl, ?_, ?_⟩ q⟩
    · rw [List.length_dropLast]; omega
    · rw [List.dropLast_eq_take, List.dropLast_eq_take, q1.len]; exact q1.take _
  · rename_i _ kvs more
    cases e : FT.fits (kvs.length + more.length) with
    | false => rw [e] at h; cases h
    | true =>
      rw [e] at h; cases h
      obtain ⟨us, rfl, l1, q1⟩ := ro
      obtain ⟨w, wr, rfl, ⟨b, ls, rfl, eb, l2, q2⟩, hr⟩ := rs
      cases (show wr = [] from hr)
      have ne : a ≠ b := fun z => by subst z; rw [fa] at eb; cases eb
      refine ⟨.inr (.inr (.inl ⟨rfl, .inl ⟨us, ha⟩⟩)), _, mt_dupdate, a, b, us, ls, rfl, rfl, ne, ha, S.sub _ _ eb, ?_, fin _ _ ⟨_, rfl, ?_, RepK.merge q1 q2⟩ rfl⟩
      · rw [q1.len, q2.len]; exact fits_ok e
      · exact Nat.le_trans mergeD_len (fits_ok e)
  · cases h
/-! ### name[k] = e -/
def OkSet (X : Cx) : TSet := fun o i v H Q => ∃ r, PSet X r ∧ r o i v H Q
theorem psetK (X : Cx) : PSet X (OkSet X) := fun pins s σ H o i v ov iv u Q I r1 r2 r3 ⟨r, p, h⟩ => p pins s σ H o i v ov iv u Q I r1 r2 r3 h
theorem stOk {i : Nat} {c dk d c' : D} {v vk u : V} {Kp : Hp → Prop} (S : SR g F ρ σ H) (hu : X.A.units + 64 + 65 < cLine) (hi : ρ[i]? = some (.ow c)) (hv : σ[i]? = some (some v)) (rk : RdV g F H dk vk) (rd : Rep g F d u) (h : stD c dk d = some c')
    (k : ∀ ρ' H', ρ' = ρ.set i (.ow c') → Stp ρ σ F H ρ' σ F H' → SR g F ρ' σ H' → Kp H') : OkSet X v vk u H Kp := by
  obtain ⟨a, o, ea, fa, ha, ro⟩ := S.ow i c hi
  rw [hv] at ea
  cases ea
  have fin : ∀ o', RepO g F c' o' → Kp (upd H a o') := fun o' q1 => by
    obtain ⟨S', T⟩ := S.write hi hv q1
    exact k _ _ rfl T S'
  unfold stD at h
  split at h
  · obtain ⟨j, ej, rfl⟩ := Option.map_eq_some_iff.mp h
    obtain ⟨us, rfl, l1, q1⟩ := ro
    cases (show vk = _ from rk)
    exact ⟨_, set_list, a, us, _, j, rfl, rfl, ha, by rw [q1.len]; exact ej, fin _ ⟨_, rfl, by rw [List.length_set]; exact l1, q1.set rd _⟩⟩
  · obtain ⟨kk, ek, h⟩ := Option.bind_eq_some_iff.mp h
    obtain ⟨us, rfl, l1, q1⟩ := ro
    rename_i kvs _
    cases e : decide (kvs.length < sizeLine) with
    | false => rw [e] at h; cases h
    | true =>
      rw [e] at h; cases h
      refine ⟨_, set_dict (by omega), a, _, rfl, .inl ⟨us, kk, ha, rk.key ek, by rw [q1.len]; exact of_decide_eq_true e, rfl⟩, fin _ ⟨_, rfl, ?_, RepK.put rd q1⟩⟩
      have := @putD_len kk d kvs
      have := of_decide_eq_true e
      omega
  · cases h
/-! ### isinstance -/
def tyV' : TyN → V → Value → G → Prop := fun t c u g => match t with
  | .str => c = .ty "str" ∧ u = .type "str"
  | .list => c = .ty "list" ∧ u = .type "list"
  | .tuple => c = .ty "tuple" ∧ u = .type "tuple"
  | .dict => c = .ty "dict" ∧ u = .type "dict"
  | .own n => c = .ref (g.cl n) ∧ u = .ref (g.cl n)
  | .exc n => c = .ref (exA g n) ∧ u = .ref (exA g n)
  | .fte => c = .ref (He.ga g.K "FitTreesError") ∧ u = .ref (He.ga g.K "FitTreesError")
  | .ve => c = .ty "ValueError" ∧ u = .type "ValueError"
def TyN.old : TyN → Bool
  | .exc _ => false | .fte => false | .ve => false | _ => true
theorem isiOk {mg : Str → Option Value} {d : D} {v c : V} {u : Value} {t : TyN} {b : Bool} (T : Ty g X.K mg) (hct : ∀ n, t = .own n → ∃ x, g.cn n = some x) (S : SR g F ρ σ H)
    (r : RdV g F H d v) (old : t.old = true) (h : isiD d t = some b) (ht : tyV' t c u g) (k : K (.bl b) H) : OkCall X (.builtin "isinstance") [v, c] H K := by
  have key : ∃ ty : Value, TyX X.K H v ty ∧ PySem.W.kitOne X.K ty u = some b := by
    have bt : ∀ n : String, (n = "str" ∨ n = "list" ∨ n = "tuple" ∨ n = "dict" ∨ n = "int" ∨ n = "bool" ∨ n = "NoneType") → (∀ m : String, (t = .str → m = "str") → (t = .list → m = "list") → (t = .tuple → m = "tuple") → (t = .dict → m = "dict") → (∃ q, t = .own q) ∨ (u = .type m → kitB n m = some b)) → True := fun _ _ _ => trivial
    have own : ∀ n : String, (n = "str" ∨ n = "list" ∨ n = "tuple" ∨ n = "dict" ∨ n = "int" ∨ n = "bool" ∨ n = "NoneType") → ∀ q, t = .own q → b = false → PySem.W.kitOne X.K (.type n) u = some b := fun n hn q hq hb => by
      subst hq
      obtain ⟨x, ex⟩ := hct q rfl
      rw [ht.2, hb]
      exact T.kitO q x ex n hn
    cases d with
    | non =>
      cases (show v = _ from r)
      cases t with
      | own q => exact ⟨_, .base .non, own "NoneType" (by simp) q rfl (by cases h; rfl)⟩
      | _ => first | (cases old; done) | cases h; rw [ht.2]; exact ⟨_, .base .non, kit_ty (by decide +kernel)⟩
    | bl x =>
      cases (show v = _ from r)
      cases t with
      | own q => exact ⟨_, .base (.bl x), own "bool" (by simp) q rfl (by cases h; rfl)⟩
      | _ => first | (cases old; done) | cases h; rw [ht.2]; exact ⟨_, .base (.bl x), kit_ty (by decide +kernel)⟩
    | int x =>
      cases (show v = _ from r)
      cases t with
      | own q => exact ⟨_, .base (.int x), own "int" (by simp) q rfl (by cases h; rfl)⟩
      | _ => first | (cases old; done) | cases h; rw [ht.2]; exact ⟨_, .base (.int x), kit_ty (by decide +kernel)⟩
    | str x =>
      cases (show v = _ from r.1)
      cases t with
      | own q => exact ⟨_, .base (.str x), own "str" (by simp) q rfl (by cases h; rfl)⟩
      | _ => first | (cases old; done) | cases h; rw [ht.2]; exact ⟨_, .base (.str x), kit_ty (by decide +kernel)⟩
    | lst x =>
      obtain ⟨a, us, rfl, e1, _, _⟩ := r
      cases t with
      | own q => exact ⟨_, .base (.lst e1), own "list" (by simp) q rfl (by cases h; rfl)⟩
      | _ => first | (cases old; done) | cases h; rw [ht.2]; exact ⟨_, .base (.lst e1), kit_ty (by decide +kernel)⟩
    | tup x =>
      obtain ⟨a, us, rfl, e1, _, _⟩ := r
      have e1 := S.sub _ _ e1
      cases t with
      | own q => exact ⟨_, .base (.tup e1), own "tuple" (by simp) q rfl (by cases h; rfl)⟩
      | _ => first | (cases old; done) | cases h; rw [ht.2]; exact ⟨_, .base (.tup e1), kit_ty (by decide +kernel)⟩
    | dic x =>
      obtain ⟨a, us, rfl, e1, _, _⟩ := r
      cases t with
      | own q => exact ⟨_, .base (.dK e1), own "dict" (by simp) q rfl (by cases h; rfl)⟩
      | _ => first | (cases old; done) | cases h; rw [ht.2]; exact ⟨_, .base (.dK e1), kit_ty (by decide +kernel)⟩
    | ins n fs =>
      obtain ⟨a, dx, us, rfl, e1, en, _⟩ := r
      have e1 := S.sub _ _ e1
      obtain ⟨x, ex⟩ := Option.isSome_iff_exists.mp en
      obtain ⟨hcl, _, hca⟩ := T.cls n x ex
      cases t with
      | own q =>
        cases h
        obtain ⟨y, ey⟩ := hct q rfl
        rw [ht.2]
        exact ⟨_, .base (.ins e1 hcl hca T.co1 T.co2 (T.mro n x ex)), T.kit n q x y ex ey⟩
      | exc _ => cases old
      | fte => cases old
      | ve => cases old
      | str => cases h; rw [ht.2]; exact ⟨_, .base (.ins e1 hcl hca T.co1 T.co2 (T.mro n x ex)), T.kitT n x ex "str" (by simp)⟩
      | list => cases h; rw [ht.2]; exact ⟨_, .base (.ins e1 hcl hca T.co1 T.co2 (T.mro n x ex)), T.kitT n x ex "list" (by simp)⟩
      | tuple => cases h; rw [ht.2]; exact ⟨_, .base (.ins e1 hcl hca T.co1 T.co2 (T.mro n x ex)), T.kitT n x ex "tuple" (by simp)⟩
      | dict => cases h; rw [ht.2]; exact ⟨_, .base (.ins e1 hcl hca T.co1 T.co2 (T.mro n x ex)), T.kitT n x ex "dict" (by simp)⟩
    | scr ns => cases h
    | any => cases h
    | exc n x => cases t <;> first | (cases h; done) | (cases old; done)
  obtain ⟨ty, h1, h2⟩ := key
  refine ⟨_, call_isi, v, c, ty, u, b, rfl, ?_, h1, h2, k⟩
  cases t with
  | own n => rw [ht.1, ht.2]; exact .own _
  | str => rw [ht.1, ht.2]; exact .ty _
  | list => rw [ht.1, ht.2]; exact .ty _
  | tuple => rw [ht.1, ht.2]; exact .ty _
  | dict => rw [ht.1, ht.2]; exact .ty _
  | _ => cases old
end
end FT

set_option Elab.async false
set_option linter.all false
set_option maxRecDepth 100000
set_option autoImplicit false
set_option maxHeartbeats 1000000
namespace FT
open PySem PySem.Spec PyProof.Rows L2
/-! ### what the syntax alone tells -/
theorem star1 {e : Expr} {es : List Expr} {env : Env} (h : notStar e = true) : starEach (e :: es) env = (false, eval e env) :: starEach es env := by
  cases e <;> first | rfl | cases h
theorem stars {env : Env} : ∀ {es : List Expr}, notStars es = true → starEach es env = es.map fun e => (false, eval e env)
  | [], _ => rfl
  | e :: es, h => by
    have h : (notStar e && notStars es) = true := h
    rw [Bool.and_eq_true] at h
    rw [star1 h.1, stars h.2]; rfl
theorem stars_any {env : Env} {pos : Pos} {es : List Expr} (h : notStars es = true) : (backTo pos (starEach es env)).any (·.1) = false := by
  rw [stars h]
  unfold backTo
  induction es with
  | nil => rfl
  | cons e es ih =>
    have h : (notStar e && notStars es) = true := h
    rw [Bool.and_eq_true] at h
    simp only [List.map_cons, List.any_cons, Bool.false_or]
    exact ih h.2
theorem stars_all {env : Env} {pos : Pos} {es : List Expr} (h : notStars es = true) : (backTo pos (starEach es env)).all (fun x => !x.1) = true := by
  rw [stars h]
  unfold backTo
  induction es with
  | nil => rfl
  | cons e es ih =>
    have h : (notStar e && notStars es) = true := h
    rw [Bool.and_eq_true] at h
    simp only [List.map_cons, List.all_cons, Bool.not_false, Bool.true_and]
    exact ih h.2
theorem super_ok {o : Expr} {f : Str} {env : Env} {w : Sem Value} (h : notSuper o = true) : attributeBase o f env w = w := by
  unfold attributeBase
  split
  · cases h
  · rfl
theorem set_ok {e : Expr} {env : Env} (h : notSet e = true) (x : Value) : foldedSetIterable e env x = pure x := by
  cases e <;> first | rfl | cases h
theorem slice_ok {b : Expr} (h : notSlice b = true) : PlainIx b := by
  intro o i
  cases b <;> first | rfl | cases h
theorem comp_ok {e : Expr} {t : Option Expr} {l : Nat} {env : Env} (h : notComp e = true) : swapsWith e t l env = pure false := by
  cases e <;> first | rfl | cases h
section
variable {g : G} {b : BF} {Γ : Nat → Option Con} {c : Cfg} {X : Cx}
theorem two {a d : E} {x y : Expr} (ha : SndE g b Γ c a x) (hb : SndE g b Γ c d y) (C : CfgOk g b Γ X c) {ρ : List Sl} {Q2 : D → Option Nat → D → Option Nat → List Sl → Prop}
    (h : wE Γ a ρ fun d1 s1 ρ1 => wE Γ d ρ1 fun d2 s2 ρ2 => Q2 d1 s1 d2 s2 ρ2) {σ : L2.St} {F H : Hp} (S : SR g F ρ σ H) {K2 : V → V → Hp → Prop}
    (post : ∀ d1 s1 d2 s2 ρ2 F2 v1 v2 H2, Q2 d1 s1 d2 s2 ρ2 → Stp ρ σ F H ρ2 σ F2 H2 → SR g F2 ρ2 σ H2 → VR g F2 σ s1 d1 v1 → VR g F2 σ s2 d2 v2 → K2 v1 v2 H2) :
    OkE X x σ H fun v1 H1 => OkE X y σ H1 fun v2 H2 => K2 v1 v2 H2 :=
  ha X C ρ _ h F σ H _ S fun d1 s1 ρ1 F1 v1 H1 h1 T1 S1 r1 => hb X C ρ1 _ h1 F1 σ H1 _ S1 fun d2 s2 ρ2 F2 v2 H2 h2 T2 S2 r2 => post _ _ _ _ _ _ _ _ _ h2 (T1.trans T2) S2 (r1.mono T2.sub) r2
theorem bnd_some {α : Type} {o : Option α} {f : α → Prop} (h : bnd o f) : ∃ x, o = some x ∧ f x := by
  cases o with
  | none => exact h.elim
  | some x => exact ⟨x, rfl, h⟩
/-- an operation's result is the whole's -/
theorem PostE.out {ρ ρ2 : List Sl} {σ : L2.St} {F H F2 H2 : Hp} {Q : D → Option Nat → List Sl → Prop} {K : VK} {d : D} (P : PostE g ρ σ F H Q K) (T : Stp ρ σ F H ρ2 σ F2 H2) (q : Q d none ρ2) : Out g ρ2 σ F2 H2 d K :=
  fun F' H' v T' S' r => P d none ρ2 F' v H' q (T.trans T') S' r
theorem binAll {o : Operator} {ρ : List Sl} {σ : L2.St} {F H : Hp} {d d1 d2 : D} {v1 v2 : V} {K : VK} (S : SR g F ρ σ H) (r1 : RdV g F H d1 v1) (r2 : RdV g F H d2 v2) (h : binD o d1 d2 = some d) (k : Out g ρ σ F H d K) : OkO X (binaryOp o) v1 v2 H K := by
  by_cases e : ∃ s i, d1 = .str s ∧ d2 = .int i
  · obtain ⟨s, i, rfl, rfl⟩ := e
    cases o <;> first | (cases h; done) | skip
    unfold binD at h
    dsimp only at h
    cases e : decide (0 ≤ i) && decide (i < 2 ^ 62) && FT.fits (s.length * i.toNat) with
    | false => rw [e] at h; cases h
    | true =>
      rw [e] at h; cases h
      simp only [Bool.and_eq_true, decide_eq_true_eq] at e
      obtain ⟨rfl, l1, c1⟩ := r1
      cases (show v2 = _ from r2)
      refine ⟨_, op_mul_str, s, i, rfl, rfl, e.1.1, e.1.2, fits_ok e.2, k.flat S ⟨rfl, ?_, ?_⟩⟩
      · show ((List.replicate i.toNat s.cps.toList).flatten).toArray.size ≤ sizeLine
        rw [List.size_toArray, List.length_flatten, List.map_replicate, List.sum_replicate_nat, Nat.mul_comm]
        exact fits_ok e.2
      · show ((List.replicate i.toNat s.cps.toList).flatten).toArray.all (· < 0x110000) = true
        rw [List.all_toArray]
        refine List.all_eq_true.mpr fun z hz => ?_
        obtain ⟨l, hl, hz⟩ := List.mem_flatten.mp hz
        rw [(List.mem_replicate.mp hl).2] at hz
        exact Array.all_eq_true_iff_forall_mem.mp c1 z (by simpa using hz)
  · exact binOk S r1 r2 h k e
theorem snd_bin {o : Operator} {a d : E} {x y : Expr} {pos : Pos} (ha : SndE g b Γ c a x) (hb : SndE g b Γ c d y) : SndE g b Γ c (.bin o a d) (.BinOp x o y pos) := by
  intro X C ρ Q h F σ H K S P
  unfold wE at h
  refine ⟨_, pe_op (oprK _) (peK x) (peK y), two ha hb C h S fun d1 s1 d2 s2 ρ2 F2 v1 v2 H2 q T S2 r1 r2 => ?_⟩
  obtain ⟨e1, c1, q⟩ := bnd_some q
  obtain ⟨e2, c2, q⟩ := bnd_some q
  obtain ⟨d, ed, q⟩ := bnd_some q
  exact binAll S2 (S2.rd r1 c1) (S2.rd r2 c2) ed (P.out T q)
theorem cmp_core {o : CmpOp} {a d : E} {x y : Expr} (ha : SndE g b Γ c a x) (hb : SndE g b Γ c d y) (C : CfgOk g b Γ X c) {ρ : List Sl} {Q : D → Option Nat → List Sl → Prop} (h : wE Γ (.cmp o a d) ρ Q) {F H : Hp} {σ : L2.St} {K : VK} (S : SR g F ρ σ H) (P : PostE g ρ σ F H Q K) :
    tOp (OkO X (compareOp o)) (OkE X x) (OkE X y) σ H K := by
  unfold wE at h
  refine two ha hb C h S fun d1 s1 d2 s2 ρ2 F2 v1 v2 H2 q T S2 r1 r2 => ?_
  obtain ⟨e1, c1, q⟩ := bnd_some q
  obtain ⟨e2, c2, q⟩ := bnd_some q
  obtain ⟨k, ek, q⟩ := bnd_some q
  exact cmpOk S2 (by rw [C.lk.K]; exact C.e.ty.gK) C.hu (S2.rd r1 c1) (S2.rd r2 c2) ek (P _ none _ F2 _ H2 q T S2 rfl)
theorem snd_cmp {o : CmpOp} {a d : E} {x y : Expr} {pos : Pos} (ha : SndE g b Γ c a x) (hb : SndE g b Γ c d y) (hm : behindInMarks o y = false) : SndE g b Γ c (.cmp o a d) (.Compare x [o] [y] pos) :=
  fun X C ρ Q h F σ H K S P => ⟨_, pe_cmpR (oprK _) (peK x) (peK y) hm, cmp_core ha hb C h S P⟩
/-- what a test wants, as of a value -/
theorem PostT.e {ρ : List Sl} {σ : L2.St} {F H : Hp} {Q : D → Option Nat → List Sl → Prop} {K : Bool → Hp → Prop} (hb : ∀ d s ρ', Q d s ρ' → ∃ k, d = .bl k) (P : PostT g ρ σ F H Q K) : PostE g ρ σ F H Q fun v H' => ∃ k, v = .bl k ∧ K k H' :=
  fun d s ρ' F' v H' q T S r => by
    obtain ⟨k, rfl⟩ := hb d s ρ' q
    exact ⟨k, r.rep rfl, P k s ρ' F' H' q T S⟩
theorem snd_cmpT {o : CmpOp} {a d : E} {x y : Expr} {pos : Pos} (ha : SndE g b Γ c a x) (hb : SndE g b Γ c d y) (hm : behindInMarks o y = false) : SndT g b Γ c (.cmp o a d) (.Compare x [o] [y] pos) :=
  fun X C ρ Q h F σ H K S hb' P => ⟨_, pt_cmpR (oprK _) (peK x) (peK y) hm, cmp_core ha hb C h S (P.e hb')⟩
theorem cur_again {s : Option Nat} {d e : D} {ρ ρ' : List Sl} (h : cur s d ρ = some e) : cur s e ρ' = cur s d ρ' := by
  cases s with
  | none => cases h; rfl
  | some i => rfl
theorem cmp2_core {o p : CmpOp} {a d e : E} {x y z : Expr} (ha : SndE g b Γ c a x) (hb : SndE g b Γ c d y) (hc : SndE g b Γ c e z) (C : CfgOk g b Γ X c) {ρ : List Sl} {Q : D → Option Nat → List Sl → Prop} (h : wE Γ (.cmp2 o p a d e) ρ Q) {F H : Hp} {σ : L2.St} {K : VK}
    (S : SR g F ρ σ H) (P : PostE g ρ σ F H Q K) : tChain (OkO X (compareOp o)) (OkO X (compareOp p)) (OkE X x) (OkE X y) (OkE X z) σ H K := by
  unfold wE at h
  refine two ha hb C h S fun d1 s1 d2 s2 ρ2 F2 v1 v2 H2 q T S2 r1 r2 => ?_
  obtain ⟨e1, c1, q⟩ := bnd_some q
  obtain ⟨e2, c2, q⟩ := bnd_some q
  obtain ⟨k, ek, q⟩ := bnd_some q
  have hK : g.K = X.K := by rw [C.lk.K]; exact C.e.ty.gK
  refine cmpOk S2 hK C.hu (S2.rd r1 c1) (S2.rd r2 c2) ek ⟨k, rfl, ?_⟩
  cases k with
  | false => rw [if_neg Bool.false_ne_true]; exact P _ none _ F2 _ H2 q T S2 rfl
  | true =>
    rw [if_pos rfl]
    refine hc X C ρ2 _ q F2 σ H2 _ S2 fun d3 s3 ρ3 F3 v3 H3 q T3 S3 r3 => ?_
    obtain ⟨e2', c2', q⟩ := bnd_some q
    rw [cur_again c2] at c2'
    obtain ⟨e3, c3, q⟩ := bnd_some q
    obtain ⟨k, ek, q⟩ := bnd_some q
    exact cmpOk S3 hK C.hu (S3.rd (r2.mono T3.sub) c2') (S3.rd r3 c3) ek (P _ none _ F3 _ H3 q (T.trans T3) S3 rfl)
theorem snd_cmp2 {o p : CmpOp} {a d e : E} {x y z : Expr} {pos : Pos} (ha : SndE g b Γ c a x) (hb : SndE g b Γ c d y) (hc : SndE g b Γ c e z) (hm : lastMarks [o, p] [y, z] = false) : SndE g b Γ c (.cmp2 o p a d e) (.Compare x [o, p] [y, z] pos) :=
  fun X C ρ Q h F σ H K S P => ⟨_, pe_chain (oprK _) (oprK _) (peK x) (peK y) (peK z) hm, cmp2_core ha hb hc C h S P⟩
theorem snd_cmp2T {o p : CmpOp} {a d e : E} {x y z : Expr} {pos : Pos} (ha : SndE g b Γ c a x) (hb : SndE g b Γ c d y) (hc : SndE g b Γ c e z) (hm : lastMarks [o, p] [y, z] = false) : SndT g b Γ c (.cmp2 o p a d e) (.Compare x [o, p] [y, z] pos) :=
  fun X C ρ Q h F σ H K S hb' P => ⟨_, pt_chain (oprK _) (oprK _) (peK x) (peK y) (peK z) hm, cmp2_core ha hb hc C h S (P.e hb')⟩
theorem wE_bl {d : D} {P : Bool → Prop} (h : match d with | .bl k => P k | _ => False) : ∃ k, d = .bl k ∧ P k := by
  cases d <;> first | exact ⟨_, rfl, h⟩ | exact h.elim
theorem snd_not {a : E} {x : Expr} {pos : Pos} (ha : SndE g b Γ c a x) : SndE g b Γ c (.not a) (.UnaryOp .Not x pos) := by
  intro X C ρ Q h F σ H K S P
  unfold wE at h
  refine ⟨_, pe_not (peK x), ha X C ρ _ h F σ H _ S fun d s ρ1 F1 v H1 q T S1 r => ?_⟩
  obtain ⟨k, rfl, q⟩ := wE_bl q
  exact ⟨k, r.rep rfl, P _ none ρ1 F1 _ H1 q T S1 rfl⟩
theorem snd_notT {a : E} {x : Expr} {pos : Pos} (ha : SndT g b Γ c a x) : SndT g b Γ c (.not a) (.UnaryOp .Not x pos) := by
  intro X C ρ Q h F σ H K S hb P
  unfold wE at h
  refine ⟨_, pt_not (ptK x), ha X C ρ _ h F σ H _ S (fun d s ρ' q => let ⟨k, e, _⟩ := wE_bl q; ⟨k, e⟩) fun k s ρ1 F1 H1 q T S1 => ?_⟩
  exact P _ none ρ1 F1 H1 q T S1
theorem and_core {a d : E} {x : Expr} {y : Expr} {t : TE} (ha : SndE g b Γ c a x) (C : CfgOk g b Γ X c) {ρ : List Sl} {Q : D → Option Nat → List Sl → Prop} (h : wE Γ (.and a d) ρ Q) {F H : Hp} {σ : L2.St} {K : VK} (S : SR g F ρ σ H) (P : PostE g ρ σ F H Q K)
    (hb : ∀ ρ1 F1 H1, wE Γ d ρ1 Q → Stp ρ σ F H ρ1 σ F1 H1 → SR g F1 ρ1 σ H1 → t σ H1 K) : tAndV (OkE X x) t σ H K := by
  unfold wE at h
  refine ha X C ρ _ h F σ H _ S fun d s ρ1 F1 v H1 q T S1 r => ?_
  obtain ⟨k, rfl, q⟩ := wE_bl q
  refine ⟨k, r.rep rfl, ?_⟩
  cases k with
  | true => rw [if_pos rfl]; exact hb ρ1 F1 H1 q T S1
  | false => rw [if_neg Bool.false_ne_true]; exact P _ none ρ1 F1 _ H1 q T S1 rfl
theorem snd_and {a d : E} {x y : Expr} {pos : Pos} (ha : SndE g b Γ c a x) (hb : SndE g b Γ c d y) : SndE g b Γ c (.and a d) (.BoolOp .And [x, y] pos) :=
  fun X C ρ Q h F σ H K S P => ⟨_, pe_and (peK x) (pe_one (peK y)), and_core (y := y) ha C h S P fun ρ1 F1 H1 q T S1 => hb X C ρ1 Q q F1 σ H1 K S1 fun d s ρ2 F2 v H2 q T2 S2 r => P d s ρ2 F2 v H2 q (T.trans T2) S2 r⟩
theorem snd_and3 {a d : E} {x y z : Expr} {r : List Expr} {pos : Pos} (ha : SndE g b Γ c a x) (hb : SndE g b Γ c d (.BoolOp .And (y :: z :: r) pos)) : SndE g b Γ c (.and a d) (.BoolOp .And (x :: y :: z :: r) pos) :=
  fun X C ρ Q h F σ H K S P => ⟨_, pe_and (peK x) (peK (.BoolOp .And (y :: z :: r) pos)), and_core (y := y) ha C h S P fun ρ1 F1 H1 q T S1 => hb X C ρ1 Q q F1 σ H1 K S1 fun d s ρ2 F2 v H2 q T2 S2 r => P d s ρ2 F2 v H2 q (T.trans T2) S2 r⟩
theorem or_core {a d : E} {x : Expr} {y : Expr} {t : TE} (ha : SndE g b Γ c a x) (C : CfgOk g b Γ X c) {ρ : List Sl} {Q : D → Option Nat → List Sl → Prop} (h : wE Γ (.or a d) ρ Q) {F H : Hp} {σ : L2.St} {K : VK} (S : SR g F ρ σ H) (P : PostE g ρ σ F H Q K)
    (hb : ∀ ρ1 F1 H1, wE Γ d ρ1 Q → Stp ρ σ F H ρ1 σ F1 H1 → SR g F1 ρ1 σ H1 → t σ H1 K) : tOrV (OkE X x) t σ H K := by
  unfold wE at h
  refine ha X C ρ _ h F σ H _ S fun d s ρ1 F1 v H1 q T S1 r => ?_
  obtain ⟨k, rfl, q⟩ := wE_bl q
  refine ⟨k, r.rep rfl, ?_⟩
  cases k with
  | true => rw [if_pos rfl]; exact P _ none ρ1 F1 _ H1 q T S1 rfl
  | false => rw [if_neg Bool.false_ne_true]; exact hb ρ1 F1 H1 q T S1
theorem snd_or {a d : E} {x y : Expr} {pos : Pos} (ha : SndE g b Γ c a x) (hb : SndE g b Γ c d y) : SndE g b Γ c (.or a d) (.BoolOp .Or [x, y] pos) :=
  fun X C ρ Q h F σ H K S P => ⟨_, pe_or (peK x) (pe_one (peK y)), or_core (y := y) ha C h S P fun ρ1 F1 H1 q T S1 => hb X C ρ1 Q q F1 σ H1 K S1 fun d s ρ2 F2 v H2 q T2 S2 r => P d s ρ2 F2 v H2 q (T.trans T2) S2 r⟩
theorem snd_or3 {a d : E} {x y z : Expr} {r : List Expr} {pos : Pos} (ha : SndE g b Γ c a x) (hb : SndE g b Γ c d (.BoolOp .Or (y :: z :: r) pos)) : SndE g b Γ c (.or a d) (.BoolOp .Or (x :: y :: z :: r) pos) :=
  fun X C ρ Q h F σ H K S P => ⟨_, pe_or (peK x) (peK (.BoolOp .Or (y :: z :: r) pos)), or_core (y := y) ha C h S P fun ρ1 F1 H1 q T S1 => hb X C ρ1 Q q F1 σ H1 K S1 fun d s ρ2 F2 v H2 q T2 S2 r => P d s ρ2 F2 v H2 q (T.trans T2) S2 r⟩
/-! tests of and, or -/
def SndW (g : G) (b : BF) (Γ : Nat → Option Con) (c : Cfg) (e : E) (x : Expr) : Prop := ∀ X, CfgOk g b Γ X c → ∀ ρ Q, wE Γ e ρ Q → ∀ F σ H K, SR g F ρ σ H → (∀ d s ρ', Q d s ρ' → ∃ k, d = .bl k) → PostT g ρ σ F H Q K → OkW X x σ H K
theorem andT_core {a d : E} {x : Expr} {t : TT} (ha : SndT g b Γ c a x) (C : CfgOk g b Γ X c) {ρ : List Sl} {Q : D → Option Nat → List Sl → Prop} (h : wE Γ (.and a d) ρ Q) {F H : Hp} {σ : L2.St} {K : Bool → Hp → Prop} (S : SR g F ρ σ H) (P : PostT g ρ σ F H Q K)
    (hb : ∀ ρ1 F1 H1, wE Γ d ρ1 Q → Stp ρ σ F H ρ1 σ F1 H1 → SR g F1 ρ1 σ H1 → t σ H1 K) : tAnd (OkT X x) t σ H K := by
  unfold wE at h
  refine ha X C ρ _ h F σ H _ S (fun d s ρ' q => let ⟨k, e, _⟩ := wE_bl q; ⟨k, e⟩) fun k s ρ1 F1 H1 q T S1 => ?_
  cases k with
  | true => rw [if_pos rfl]; exact hb ρ1 F1 H1 q T S1
  | false => rw [if_neg Bool.false_ne_true]; exact P _ none ρ1 F1 H1 q T S1
theorem orT_core {a d : E} {x : Expr} {t : TT} (ha : SndT g b Γ c a x) (C : CfgOk g b Γ X c) {ρ : List Sl} {Q : D → Option Nat → List Sl → Prop} (h : wE Γ (.or a d) ρ Q) {F H : Hp} {σ : L2.St} {K : Bool → Hp → Prop} (S : SR g F ρ σ H) (P : PostT g ρ σ F H Q K)
    (hb : ∀ ρ1 F1 H1, wE Γ d ρ1 Q → Stp ρ σ F H ρ1 σ F1 H1 → SR g F1 ρ1 σ H1 → t σ H1 K) : tOr (OkT X x) t σ H K := by
  unfold wE at h
  refine ha X C ρ _ h F σ H _ S (fun d s ρ' q => let ⟨k, e, _⟩ := wE_bl q; ⟨k, e⟩) fun k s ρ1 F1 H1 q T S1 => ?_
  cases k with
  | true => rw [if_pos rfl]; exact P _ none ρ1 F1 H1 q T S1
  | false => rw [if_neg Bool.false_ne_true]; exact hb ρ1 F1 H1 q T S1
theorem PostT.step {ρ ρ1 : List Sl} {σ : L2.St} {F H F1 H1 : Hp} {Q : D → Option Nat → List Sl → Prop} {K : Bool → Hp → Prop} (P : PostT g ρ σ F H Q K) (T : Stp ρ σ F H ρ1 σ F1 H1) : PostT g ρ1 σ F1 H1 Q K :=
  fun k s ρ2 F2 H2 q T2 S2 => P k s ρ2 F2 H2 q (T.trans T2) S2
theorem snd_andW {a d : E} {x y : Expr} {pos : Pos} (ha : SndT g b Γ c a x) (hb : SndT g b Γ c d y) : SndW g b Γ c (.and a d) (.BoolOp .And [x, y] pos) :=
  fun X C ρ Q h F σ H K S hq P => ⟨_, pw_and (ptK x) (pw_and1 (ptK y)), andT_core ha C h S P fun ρ1 F1 H1 q T S1 => hb X C ρ1 Q q F1 σ H1 K S1 hq (P.step T)⟩
theorem snd_andW3 {a d : E} {x y z : Expr} {r : List Expr} {pos : Pos} (ha : SndT g b Γ c a x) (hb : SndW g b Γ c d (.BoolOp .And (y :: z :: r) pos)) : SndW g b Γ c (.and a d) (.BoolOp .And (x :: y :: z :: r) pos) :=
  fun X C ρ Q h F σ H K S hq P => ⟨_, pw_and (ptK x) (pwK (.BoolOp .And (y :: z :: r) pos)), andT_core ha C h S P fun ρ1 F1 H1 q T S1 => hb X C ρ1 Q q F1 σ H1 K S1 hq (P.step T)⟩
theorem snd_orW {a d : E} {x y : Expr} {pos : Pos} (ha : SndT g b Γ c a x) (hb : SndT g b Γ c d y) : SndW g b Γ c (.or a d) (.BoolOp .Or [x, y] pos) :=
  fun X C ρ Q h F σ H K S hq P => ⟨_, pw_or (ptK x) (pw_or1 (ptK y)), orT_core ha C h S P fun ρ1 F1 H1 q T S1 => hb X C ρ1 Q q F1 σ H1 K S1 hq (P.step T)⟩
theorem snd_orW3 {a d : E} {x y z : Expr} {r : List Expr} {pos : Pos} (ha : SndT g b Γ c a x) (hb : SndW g b Γ c d (.BoolOp .Or (y :: z :: r) pos)) : SndW g b Γ c (.or a d) (.BoolOp .Or (x :: y :: z :: r) pos) :=
  fun X C ρ Q h F σ H K S hq P => ⟨_, pw_or (ptK x) (pwK (.BoolOp .Or (y :: z :: r) pos)), orT_core ha C h S P fun ρ1 F1 H1 q T S1 => hb X C ρ1 Q q F1 σ H1 K S1 hq (P.step T)⟩
theorem SndW.t {e : E} {x : Expr} (h : SndW g b Γ c e x) : SndT g b Γ c e x := fun X C ρ Q hw F σ H K S hq P => by
  obtain ⟨t, p, q⟩ := h X C ρ Q hw F σ H K S hq P
  exact ⟨t, p.pt, q⟩
/-- an expression whose value is a bool, as a test -/
theorem SndE.t {e : E} {x : Expr} (h : SndE g b Γ c e x) (hx : ∀ env whole, isTrue x env whole = (do let v ← whole; standAt x.pos; holding [v] (truthy v))) : SndT g b Γ c e x :=
  fun X C ρ Q hw F σ H K S hq P => ⟨_, pt_val (peK x) (hx _), h X C ρ Q hw F σ H _ S (P.e hq)⟩
theorem snd_ife {a d e : E} {x y z : Expr} {pos : Pos} (ha : SndT g b Γ c a x) (hb : SndE g b Γ c d y) (hc : SndE g b Γ c e z) : SndE g b Γ c (.ife a d e) (.IfExp x y z pos) := by
  intro X C ρ Q h F σ H K S P
  unfold wE at h
  refine ⟨_, pe_ifExp (ptK x) (peK y) (peK z), ha X C ρ _ h F σ H _ S (fun d s ρ' q => let ⟨k, e, _⟩ := wE_bl q; ⟨k, e⟩) fun k s ρ1 F1 H1 q T S1 => ?_⟩
  cases k with
  | true => rw [if_pos rfl]; exact hb X C ρ1 Q q F1 σ H1 K S1 fun d s ρ2 F2 v H2 q T2 S2 r => P d s ρ2 F2 v H2 q (T.trans T2) S2 r
  | false => rw [if_neg Bool.false_ne_true]; exact hc X C ρ1 Q q F1 σ H1 K S1 fun d s ρ2 F2 v H2 q T2 S2 r => P d s ρ2 F2 v H2 q (T.trans T2) S2 r
theorem snd_neg {a : E} {x : Expr} {pos : Pos} (ha : SndE g b Γ c a x) : SndE g b Γ c (.neg a) (.UnaryOp .USub x pos) := by
  intro X C ρ Q h F σ H K S P
  unfold wE at h
  refine ⟨_, pe_un un_neg (peK x), ha X C ρ _ h F σ H _ S fun d s ρ1 F1 v H1 q T S1 r => ?_⟩
  cases d with
  | int i => exact ⟨i, r.rep rfl, P _ none ρ1 F1 _ H1 q T S1 rfl⟩
  | _ => exact q.elim
theorem snd_sub {a d : E} {x y : Expr} {pos : Pos} (ha : SndE g b Γ c a x) (hb : SndE g b Γ c d y) (hs : notSlice y = true) : SndE g b Γ c (.sub a d) (.Subscript x y pos) := by
  intro X C ρ Q h F σ H K S P
  unfold wE at h
  refine ⟨_, pe_ix (ixrK X) (peK x) (peK y) (slice_ok hs), two ha hb C h S fun d1 s1 d2 s2 ρ2 F2 v1 v2 H2 q T S2 r1 r2 => ?_⟩
  obtain ⟨e1, c1, q⟩ := bnd_some q
  obtain ⟨e2, c2, q⟩ := bnd_some q
  obtain ⟨d, ed, q⟩ := bnd_some q
  exact ixOk S2 (by rw [C.lk.K]; exact C.e.ty.gK) C.hu (S2.rd r1 c1) (S2.rd r2 c2) ed (P.out T q)
/-! parts of a slice -/
def OkP (X : Cx) (x : Option Expr) (σ : L2.St) (H : Hp) (K : Option Int → Hp → Prop) : Prop := ∃ t, PO X x t ∧ t σ H K
theorem poK (x : Option Expr) : PO X x (OkP X x) := ⟨fun pins s σ H Q I ⟨t, p, h⟩ => p.run pins s σ H Q I h⟩
def SndO (g : G) (b : BF) (Γ : Nat → Option Con) (c : Cfg) (e : O) (x : Option Expr) : Prop := ∀ X, CfgOk g b Γ X c → ∀ ρ (Q : Option D → List Sl → Prop), wO Γ e ρ Q → ∀ F σ H K, SR g F ρ σ H → (∀ d ρ', Q d ρ' → ∃ i, partD d = some i) →
  (∀ d i ρ' F' H', Q d ρ' → partD d = some i → Stp ρ σ F H ρ' σ F' H' → SR g F' ρ' σ H' → K i H') → OkP X x σ H K
theorem snd_ono : SndO g b Γ c .no none := fun X C ρ Q h F σ H K S _ P => ⟨_, po_none, P none none ρ F H h rfl .refl S⟩
theorem snd_oso {e : E} {x : Expr} (h : SndE g b Γ c e x) : SndO g b Γ c (.so e) (some x) := by
  intro X C ρ Q hw F σ H K S hq P
  unfold wO at hw
  refine ⟨_, po_some (peK x), h X C ρ _ hw F σ H _ S fun d s ρ1 F1 v H1 q T S1 r => ?_⟩
  obtain ⟨i, ei⟩ := hq _ _ q
  cases d with
  | int j => cases ei; exact ⟨j, r.rep rfl, P _ _ ρ1 F1 H1 q rfl T S1⟩
  | _ => cases ei
end
end FT

set_option Elab.async false
set_option linter.all false
set_option maxRecDepth 100000
set_option autoImplicit false
set_option maxHeartbeats 1000000
namespace FT
open PySem PySem.Spec PyProof.Rows L2
/-! ### raw values in a row -/
theorem cur_frz (s s' : Option Nat) (d : D) (ρ : List Sl) : cur s' d (frz s ρ) = cur s' d ρ := by
  cases s' with
  | none => rfl
  | some j =>
    cases s with
    | none => rfl
    | some i =>
      unfold frz
      dsimp only
      cases e : ρ[i]? with
      | none => rfl
      | some sl =>
        cases sl with
        | un => rfl
        | sh _ => rfl
        | ow x =>
          dsimp only
          unfold cur
          dsimp only
          by_cases z : i = j
          · subst z
            rw [List.getElem?_set_self (List.getElem?_eq_some_iff.mp e).1, e]
          · rw [List.getElem?_set_ne z]
theorem curs_frz (s : Option Nat) : ∀ (rs : List Raw) (ρ : List Sl), curs rs (frz s ρ) = curs rs ρ
  | [], _ => rfl
  | (d, t) :: rs, ρ => by
    unfold curs
    rw [cur_frz, curs_frz s rs]
theorem curs_len : ∀ {rs : List Raw} {ρ : List Sl} {ds : List D}, curs rs ρ = some ds → ds.length = rs.length
  | [], _, ds, h => by cases h; rfl
  | (d, s) :: rs, ρ, ds, h => by
    unfold curs at h
    split at h
    · obtain ⟨r, e, rfl⟩ := Option.map_eq_some_iff.mp h
      rw [List.length_cons, List.length_cons, curs_len e]
    · cases h
section
variable {g : G} {b : BF} {Γ : Nat → Option Con} {c : Cfg} {X : Cx}
theorem VRs.len {F : Hp} {σ : L2.St} : ∀ {rs : List Raw} {vs : List V}, VRs g F σ rs vs → vs.length = rs.length
  | [], _, r => by cases (show _ = [] from r); rfl
  | _ :: _, _, ⟨v, vr, e, _, r⟩ => by subst e; rw [List.length_cons, List.length_cons, VRs.len r]
theorem SR.rds {ρ : List Sl} {σ : L2.St} {F H : Hp} (S : SR g F ρ σ H) : ∀ {rs : List Raw} {vs : List V} {ds : List D}, VRs g F σ rs vs → curs rs ρ = some ds → RdVs g F H ds vs
  | [], _, ds, r, h => by cases h; exact r
  | (d, s) :: rs, _, ds, ⟨v, vr, e, q, r⟩, h => by
    subst e
    unfold curs at h
    split at h
    · rename_i d' ec
      obtain ⟨ds', e, rfl⟩ := Option.map_eq_some_iff.mp h
      exact ⟨v, vr, rfl, S.rd q ec, S.rds r e⟩
    · cases h
theorem SR.frzs {σ : L2.St} {H : Hp} : ∀ {rs : List Raw} {ρ : List Sl} {F : Hp} {vs : List V} {ds : List D}, SR g F ρ σ H → VRs g F σ rs vs → curs rs ρ = some ds →
    ∃ F', SR g F' (FT.frzs rs ρ) σ H ∧ Stp ρ σ F H (FT.frzs rs ρ) σ F' H ∧ RepL g F' ds vs
  | [], ρ, F, _, ds, S, r, h => by cases h; exact ⟨F, S, .refl, r⟩
  | (d, s) :: rs, ρ, F, _, ds, S, ⟨v, vr, e, q, r⟩, h => by
    subst e
    unfold curs at h
    split at h
    · rename_i d' ec
      obtain ⟨ds', e, rfl⟩ := Option.map_eq_some_iff.mp h
      obtain ⟨F1, S1, T1, q1⟩ := S.frz q ec
      obtain ⟨F2, S2, T2, q2⟩ := SR.frzs S1 (r.mono T1.sub) (by rw [curs_frz]; exact e)
      exact ⟨F2, S2, T1.trans T2, v, vr, rfl, q1.mono T2.sub, q2⟩
    · cases h
/-! ### arguments -/
theorem snd_anil : SndA g b Γ c .nil [] := fun X C ρ Q h F σ H K S P => ⟨_, pa_nil, P [] ρ F [] H rfl h .refl S rfl⟩
theorem snd_acons {e : E} {es : Es} {x : Expr} {xs : List Expr} (h1 : SndE g b Γ c e x) (h2 : SndA g b Γ c es xs) (hs : notStar x = true) : SndA g b Γ c (.cons e es) (x :: xs) := by
  intro X C ρ Q h F σ H K S P
  unfold wA at h
  refine ⟨_, pa_cons (peK x) (paK xs) (star1 hs), h1 X C ρ _ h F σ H _ S fun d s ρ1 F1 v H1 q T S1 r => ?_⟩
  exact h2 X C ρ1 _ q F1 σ H1 _ S1 fun rs ρ2 F2 vs H2 hn q T2 S2 r2 => P ((d, s) :: rs) ρ2 F2 (v :: vs) H2 (by rw [List.length_cons, List.length_cons, hn]) q (T.trans T2) S2 ⟨v, vs, rfl, r.mono T2.sub, r2⟩
theorem snd_knil : SndK g b Γ c .nil [] := fun X C ρ Q h F σ H K S P => ⟨_, pk_nil, P [] ρ F [] H rfl h .refl S rfl⟩
theorem snd_kcons {e : E} {es : Es} {n : Option Str} {p : Pos} {x : Expr} {xs : List Keyword} (h1 : SndE g b Γ c e x) (h2 : SndK g b Γ c es xs) : SndK g b Γ c (.cons e es) (⟨n, x, p⟩ :: xs) := by
  intro X C ρ Q h F σ H K S P
  unfold wA at h
  refine ⟨_, pk_cons (peK x) (pkK X xs), h1 X C ρ _ h F σ H _ S fun d s ρ1 F1 v H1 q T S1 r => ?_⟩
  exact h2 X C ρ1 _ q F1 σ H1 _ S1 fun rs ρ2 F2 vs H2 hn q T2 S2 r2 => P ((d, s) :: rs) ρ2 F2 (v :: vs) H2 (by rw [List.length_cons, List.length_cons, hn]) q (T.trans T2) S2 ⟨v, vs, rfl, r.mono T2.sub, r2⟩
/-! ### slices, displays -/
theorem snd_rev {a : E} {x : Expr} {k : Nat} {p1 p2 p3 pos : Pos} (ha : SndE g b Γ c a x) : SndE g b Γ c (.rev a) (.Subscript x (.Slice none none (some (.UnaryOp .USub (.Constant (.int 1) k p1) p2)) p3) pos) := by
  intro X C ρ Q h F σ H K S P
  unfold wE at h
  refine ⟨_, pe_revL (peK x), ha X C ρ _ h F σ H _ S fun d s ρ1 F1 v H1 q T S1 r => ?_⟩
  obtain ⟨d1, c1, q⟩ := bnd_some q
  cases d1 with
  | lst l =>
    obtain ⟨a, us, rfl, e1, l1, q1⟩ := S1.rd r c1
    refine ⟨a, us, rfl, .of e1, fun p hp => ?_⟩
    exact (P.out T q).lst S1 hp (by rw [List.length_reverse]; exact l1) q1.reverse
  | _ => exact q.elim
theorem snd_tup {es : Es} {xs : List Expr} {k : Nat} {pos : Pos} (ha : SndA g b Γ c es xs) (hl : xs.length < 1000) : SndE g b Γ c (.tup es) (.Tuple xs k pos) := by
  intro X C ρ Q h F σ H K S P
  unfold wE at h
  refine ⟨_, pe_tup (paK xs), ha X C ρ _ h F σ H _ S fun rs ρ1 F1 vs H1 hz q T S1 r => ?_⟩
  obtain ⟨ds, cs, q⟩ := bnd_some q
  obtain ⟨F2, S2, T2, q2⟩ := S1.frzs r cs
  have l1 := r.len
  have l2 := curs_len cs
  have hsz : 1000 ≤ sizeLine := by decide
  exact ⟨by omega, fun p hp => (P.out (T.trans T2) q).tup S2 hp (by omega) q2⟩
theorem snd_lst {es : Es} {xs : List Expr} {pos : Pos} (ha : SndA g b Γ c es xs) (hl : xs.length < 1000) : SndE g b Γ c (.lst es) (.List xs pos) := by
  intro X C ρ Q h F σ H K S P
  unfold wE at h
  refine ⟨_, pe_lst (paK xs), ha X C ρ _ h F σ H _ S fun rs ρ1 F1 vs H1 hz q T S1 r => ?_⟩
  obtain ⟨ds, cs, q⟩ := bnd_some q
  obtain ⟨F2, S2, T2, q2⟩ := S1.frzs r cs
  have l1 := r.len
  have l2 := curs_len cs
  have hsz : 1000 ≤ sizeLine := by decide
  exact ⟨by omega, fun p hp => (P.out (T.trans T2) q).lst S2 hp (by omega) q2⟩
/-! ### a value for a name: shared, or a new object -/
def SlV (g : G) (H0 F' H' : Hp) (ρ' : List Sl) (σ : L2.St) (s : Sl) (v : V) : Prop := match s with
  | .un => False
  | .sh d => Rep g F' d v
  | .ow d => ∃ a o, v = .ref a ∧ F' a = none ∧ H' a = some o ∧ RepO g F' d o ∧ ¬ OwnA ρ' σ a ∧ H0 a = none
def PostF (g : G) (ρ : List Sl) (σ : L2.St) (F H : Hp) (Q : Sl → List Sl → Prop) (K : VK) : Prop :=
  ∀ s ρ' F' v H', Q s ρ' → Stp ρ σ F H ρ' σ F' H' → SR g F' ρ' σ H' → SlV g H F' H' ρ' σ s v → K v H'
def SndF (g : G) (b : BF) (Γ : Nat → Option Con) (c : Cfg) (e : E) (x : Expr) : Prop := ∀ X, CfgOk g b Γ X c → ∀ ρ Q, wF Γ e ρ Q → ∀ F σ H K, SR g F ρ σ H → PostF g ρ σ F H Q K → OkE X x σ H K
theorem SlV.freeze {ρ ρ' : List Sl} {σ : L2.St} {F H F' H' : Hp} {s : Sl} {v : V} (T : Stp ρ σ F H ρ' σ F' H') (S : SR g F' ρ' σ H') (r : SlV g H F' H' ρ' σ s v) : ∃ F'', SR g F'' ρ' σ H' ∧ Stp ρ σ F H ρ' σ F'' H' ∧ Rep g F'' s.d v := by
  cases s with
  | un => exact r.elim
  | sh d => exact ⟨F', S, T, r⟩
  | ow d =>
    obtain ⟨a, o, rfl, h1, h2, h3, h4, h5⟩ := r
    refine ⟨upd F' a o, S.fix h2 h1 h4, ⟨T.sub.trans (same_upd h1), T.keep, fun z hz => ?_, T.own, T.grow⟩, RepO.rep upd_same (h3.mono (same_upd h1))⟩
    by_cases e : z = a
    · subst e; exact .inr (.inl h5)
    · rw [upd_ne e] at hz; exact T.newF z hz
theorem PostE.f {ρ : List Sl} {σ : L2.St} {F H : Hp} {Q : D → Option Nat → List Sl → Prop} {K : VK} (P : PostE g ρ σ F H Q K) : PostF g ρ σ F H (fun s ρ' => Q s.d none ρ') K := fun s ρ' F' v H' q T S r => by
  obtain ⟨F'', S'', T'', r''⟩ := r.freeze T S
  exact P s.d none ρ' F'' v H' q T'' S'' r''
/-- as a rule: what is read is shared -/
theorem snd_fdef {e : E} {x : Expr} (h : SndE g b Γ c e x) (he : ∀ ρ Q, wF Γ e ρ Q → wE Γ e ρ fun d s ρ1 => bnd (cur s d ρ1) fun d => Q (.sh d) (frz s ρ1)) : SndF g b Γ c e x := by
  intro X C ρ Q hw F σ H K S P
  refine h X C ρ _ (he ρ Q hw) F σ H K S fun d s ρ1 F1 v H1 q T S1 r => ?_
  obtain ⟨d1, c1, q⟩ := bnd_some q
  obtain ⟨F2, S2, T2, q2⟩ := S1.frz r c1
  exact P (.sh d1) _ F2 v H1 q (T.trans T2) S2 q2
/-- a new object at p, of nobody's -/
theorem PostF.new {ρ ρ1 : List Sl} {σ : L2.St} {F H F1 H1 : Hp} {Q : Sl → List Sl → Prop} {K : VK} (P : PostF g ρ σ F H Q K) (T : Stp ρ σ F H ρ1 σ F1 H1) (S1 : SR g F1 ρ1 σ H1) {d : D} (q : Q (.ow d) ρ1) {p : Addr} {o : HO} (hp : H1 p = none) (r : RepO g F1 d o) : K (.ref p) (upd H1 p o) := by
  obtain ⟨S2, T2⟩ := S1.newH (o := o) hp
  refine P (.ow d) ρ1 F1 _ _ q (T.trans T2) S2 ⟨p, o, rfl, S1.sub.free hp, upd_same, r, fun ⟨i, x, e1, e2⟩ => ?_, T.grow p hp⟩
  obtain ⟨a, y, q1, _, q3, _⟩ := S1.ow i x e1
  rw [e2] at q1; cases q1
  rw [hp] at q3; cases q3
theorem snd_lstF {es : Es} {xs : List Expr} {pos : Pos} (ha : SndA g b Γ c es xs) (hl : xs.length < 1000) : SndF g b Γ c (.lst es) (.List xs pos) := by
  intro X C ρ Q h F σ H K S P
  unfold wF at h
  refine ⟨_, pe_lst (paK xs), ha X C ρ _ h F σ H _ S fun rs ρ1 F1 vs H1 hz q T S1 r => ?_⟩
  obtain ⟨ds, cs, q⟩ := bnd_some q
  obtain ⟨F2, S2, T2, q2⟩ := S1.frzs r cs
  have l1 := r.len
  have l2 := curs_len cs
  have hsz : 1000 ≤ sizeLine := by decide
  exact ⟨by omega, fun p hp => P.new (T.trans T2) S2 q hp ⟨vs, rfl, by omega, q2⟩⟩
theorem binL {o : Operator} {F H : Hp} {d1 d2 : D} {v1 v2 : V} {l : List D} {K : VK} (h : binD o d1 d2 = some (.lst l)) (r1 : RdV g F H d1 v1) (r2 : RdV g F H d2 v2) (k : ∀ p vs, H p = none → l.length ≤ sizeLine → RepL g F l vs → K (.ref p) (upd H p (.lst vs))) : OkO X (binaryOp o) v1 v2 H K := by
  unfold binD at h
  split at h
  · cases h
  · rename_i a b
    cases e : FT.fits (a.length + b.length) <;> (rw [e] at h; cases h)
  · rename_i a b
    cases e : FT.fits (a.length + b.length) with
    | false => rw [e] at h; cases h
    | true =>
      rw [e] at h; cases h
      obtain ⟨p, vs, rfl, g1, l1, q1⟩ := r1; obtain ⟨p2, us, rfl, g2, l2, q2⟩ := r2
      have ef := fits_ok e
      refine ⟨_, op_cat, _, _, _, _, rfl, rfl, g1, g2, ?_, fun z hz => k z _ hz ?_ (q1.append q2)⟩
      · rw [q1.len, q2.len]; exact ef
      · rw [List.length_append]; exact ef
  · rename_i a b
    cases e : FT.fits (a.length + b.length) && !a.isEmpty && !b.isEmpty <;> (rw [e] at h; cases h)
  · cases h
  · rename_i i j
    cases e : decide (-(2 ^ 64) < i) && decide (i < 2 ^ 64) <;> (rw [e] at h; cases h)
  · rename_i xs n
    cases e : decide (0 ≤ n) && decide (n < 2 ^ 62) && FT.fits (xs.length * n.toNat) with
    | false => rw [e] at h; cases h
    | true =>
      rw [e] at h; cases h
      simp only [Bool.and_eq_true, decide_eq_true_eq] at e
      obtain ⟨⟨e0, e1⟩, e2⟩ := e
      obtain ⟨p, vs, rfl, g1, l1, q1⟩ := r1
      cases (show v2 = _ from r2)
      have ef := fits_ok e2
      refine ⟨_, op_rep, _, _, _, rfl, rfl, g1, by omega, by omega, ?_, fun z hz => k z _ hz ?_ (q1.flat _)⟩
      · rw [q1.len]; exact ef
      · rw [List.length_flatten, List.map_replicate, List.sum_replicate_nat, Nat.mul_comm]; exact ef
  · rename_i s i
    cases e : decide (0 ≤ i) && decide (i < 2 ^ 62) && FT.fits (s.length * i.toNat) <;> (rw [e] at h; cases h)
  · rename_i i j
    cases e : decide (j ≠ 0) && decide (j.natAbs < 1073741824) <;> (rw [e] at h; cases h)
  · rename_i i j
    cases e : decide (j ≠ 0) <;> (rw [e] at h; cases h)
  · rename_i i j
    cases e : decide (0 ≤ j) && decide (j ≤ 1000) && decide (i.natAbs < 2 ^ 200) <;> (rw [e] at h; cases h)
  · cases h
theorem snd_binF {o : Operator} {a d : E} {x y : Expr} {pos : Pos} (ha : SndE g b Γ c a x) (hb : SndE g b Γ c d y) : SndF g b Γ c (.bin o a d) (.BinOp x o y pos) := by
  intro X C ρ Q h F σ H K S P
  unfold wF wE at h
  refine ⟨_, pe_op (oprK _) (peK x) (peK y), two ha hb C h S fun d1 s1 d2 s2 ρ2 F2 v1 v2 H2 q T S2 r1 r2 => ?_⟩
  obtain ⟨e1, c1, q⟩ := bnd_some q
  obtain ⟨e2, c2, q⟩ := bnd_some q
  obtain ⟨d, ed, q⟩ := bnd_some q
  have r1 := S2.rd r1 c1
  have r2 := S2.rd r2 c2
  have sh : fresh d = .sh d → OkO X (binaryOp o) v1 v2 H2 K := fun e => by
    replace q : Q (fresh d) ρ2 := q
    rw [e] at q
    exact binAll S2 r1 r2 ed fun F' H' v T' S' r => P (.sh d) ρ2 F' v H' q (T.trans T') S' r
  cases d with
  | lst l => exact binL ed r1 r2 fun p vs hz hl r => P.new T S2 q hz ⟨_, rfl, hl, r⟩
  | _ => exact sh rfl
theorem snd_dic0F {pos : Pos} : SndF g b Γ c .dic0 (.Dict [] [] pos) := fun X C ρ Q h F σ H K S P => ⟨_, pe_dnewK, fun p hp => P.new .refl S h hp ⟨[], rfl, Nat.zero_le _, rfl⟩⟩
theorem snd_dic0 {pos : Pos} : SndE g b Γ c .dic0 (.Dict [] [] pos) := fun X C ρ Q h F σ H K S P => snd_dic0F (c := c) X C ρ (fun s ρ' => Q s.d none ρ') (show Q _ _ _ from h) F σ H K S P.f
theorem snd_dic1F {k v : E} {x y : Expr} {pos : Pos} (ha : SndE g b Γ c k x) (hb : SndE g b Γ c v y) : SndF g b Γ c (.dic1 k v) (.Dict [some x] [y] pos) := by
  intro X C ρ Q h F σ H K S P
  unfold wF wE at h
  refine ⟨_, pe_disp (pps_cons (peK x) (peK y) pps_nil) rfl rfl (fun z => nomatch z) (by show 1 ≤ 15; decide), fun p hp => ?_⟩
  obtain ⟨S0, T0⟩ := S.newH (o := .dK []) hp
  have nown : ¬ OwnA ρ σ p := fun ⟨i, x, e1, e2⟩ => by
    obtain ⟨a, y, q1, _, q3, _⟩ := S.ow i x e1
    rw [e2] at q1; cases q1
    rw [hp] at q3; cases q3
  refine two ha hb C h S0 fun d1 s1 d2 s2 ρ2 F2 v1 v2 H2 q T S2 r1 r2 => ?_
  obtain ⟨kk, ek, q⟩ := bnd_some q
  obtain ⟨e2, c2, q⟩ := bnd_some q
  have hp2 : H2 p = some (.dK []) := T.keep p _ upd_same nown
  have fp2 : F2 p = none := by
    cases e : F2 p with
    | none => rfl
    | some o =>
      rcases T.newF p (by rw [e]; exact fun z => nomatch z) with z | z | z
      · exact absurd (S.sub.free hp) z
      · rw [upd_same] at z; cases z
      · exact absurd z nown
  have no2 : ¬ OwnA ρ2 σ p := fun z => by
    rcases T.own p z with z | z
    · exact nown z
    · rw [upd_same] at z; cases z
  obtain ⟨F3, S3, T3, q3⟩ := S2.frz r2 c2
  have fp3 : F3 p = none := by
    cases e : F3 p with
    | none => rfl
    | some o =>
      rcases T3.newF p (by rw [e]; exact fun z => nomatch z) with z | z | z
      · exact absurd fp2 z
      · rw [hp2] at z; cases z
      · exact absurd z no2
  have no3 : ¬ OwnA (frz s2 ρ2) σ p := fun z => by
    rcases T3.own p z with z | z
    · exact no2 z
    · rw [hp2] at z; cases z
  have rk : v1 = kV kk := by
    have hc : d1.coll = false := by cases d1 <;> first | rfl | cases ek
    exact keyD_rep (r1.rep hc) ek
  refine ⟨hp2, [(kk, v2)], by rw [rk]; rfl, by show 1 ≤ 15; decide, ?_⟩
  have e0 : mergeK [] [(kk, v2)] = [(kk, v2)] := rfl
  rw [e0]
  have Tall : Stp ρ σ F H (frz s2 ρ2) σ F3 H2 := (T0.trans T).trans T3
  have S4 : SR g F3 (frz s2 ρ2) σ (upd H2 p (.dK [(kk, v2)])) := by
    refine ⟨fun z o hz => ?_, S3.len, S3.sh, fun i d e => ?_, S3.inj⟩
    · have : z ≠ p := fun e => by subst e; rw [fp3] at hz; cases hz
      rw [upd_ne this]; exact S3.sub _ _ hz
    · obtain ⟨a, o, e1, e2, e3, r⟩ := S3.ow i d e
      have : a ≠ p := fun z => no3 ⟨i, d, e, by rw [← z]; exact e1⟩
      exact ⟨a, o, e1, e2, by rw [upd_ne this]; exact e3, r⟩
  refine P (.ow (.dic [(kk, e2)])) _ F3 _ _ q ⟨Tall.sub, fun a o ha hn => ?_, Tall.newF, Tall.own, fun a ha => ?_⟩ S4 ⟨p, _, rfl, fp3, upd_same, ⟨_, rfl, by show 1 ≤ sizeLine; decide, v2, [], rfl, q3, rfl⟩, no3, hp⟩
  · have : a ≠ p := fun e => by subst e; rw [hp] at ha; cases ha
    rw [upd_ne this]; exact Tall.keep a o ha hn
  · by_cases e : a = p
    · subst e; rw [upd_same] at ha; cases ha
    · rw [upd_ne e] at ha; exact Tall.grow a ha
theorem snd_dic1 {k v : E} {x y : Expr} {pos : Pos} (ha : SndE g b Γ c k x) (hb : SndE g b Γ c v y) : SndE g b Γ c (.dic1 k v) (.Dict [some x] [y] pos) := fun X C ρ Q h F σ H K S P =>
  snd_dic1F (c := c) ha hb X C ρ (fun s ρ' => Q s.d none ρ') (by
    unfold wF
    unfold wE at h ⊢
    exact h) F σ H K S P.f
end
end FT

set_option Elab.async false
set_option linter.all false
set_option maxRecDepth 100000
set_option autoImplicit false
set_option maxHeartbeats 1000000
namespace FT
open PySem PySem.Spec PyProof.Rows L2
section
variable {g : G} {b : BF} {Γ : Nat → Option Con} {c : Cfg} {X : Cx}
theorem snd_slc {a : E} {lo hi : O} {x : Expr} {l h : Option Expr} {p2 pos : Pos} (ha : SndE g b Γ c a x) (h1 : SndO g b Γ c lo l) (h2 : SndO g b Γ c hi h) : SndE g b Γ c (.slc a lo hi) (.Subscript x (.Slice l h none p2) pos) := by
  intro X C ρ Q hw F σ H K S P
  unfold wE at hw
  have hK : g.K = X.K := by rw [C.lk.K]; exact C.e.ty.gK
  refine ⟨_, pe_slice (slrK X) (peK x) (poK l) (poK h), ha X C ρ _ hw F σ H _ S fun d1 s1 ρ1 F1 v H1 q T S1 r => ?_⟩
  refine h1 X C ρ1 _ q F1 σ H1 _ S1 (fun d ρ' q => let ⟨i, e, _⟩ := bnd_some q; ⟨i, e⟩) fun d i ρ2 F2 H2 q e1 T2 S2 => ?_
  obtain ⟨i', e', q⟩ := bnd_some q
  rw [e1] at e'; cases e'
  refine h2 X C ρ2 _ q F2 σ H2 _ S2 (fun d ρ' q => let ⟨i, e, _⟩ := bnd_some q; ⟨i, e⟩) fun d' j ρ3 F3 H3 q e2 T3 S3 => ?_
  obtain ⟨j', e', q⟩ := bnd_some q
  rw [e2] at e'; cases e'
  obtain ⟨dd, cc, q⟩ := bnd_some q
  obtain ⟨d, ed, q⟩ := bnd_some q
  exact slOk S3 hK (S3.rd (r.mono (T2.trans T3).sub) cc) ed (P.out ((T.trans T2).trans T3) q)
/-! ### built-in functions -/
theorem outS_f {ρ ρ1 : List Sl} {σ : L2.St} {F H F1 H1 : Hp} {Q : Sl → List Sl → Prop} {K : VK} {s : Sl} (P : PostF g ρ σ F H Q K) (T : Stp ρ σ F H ρ1 σ F1 H1) (S1 : SR g F1 ρ1 σ H1) (q : Q s ρ1) (hs : ∃ d, s = .sh d ∨ s = .ow d) : OutS g ρ1 σ F1 H1 s K := by
  obtain ⟨d, rfl | rfl⟩ := hs
  · exact fun F' H' v T' S' r => P (.sh d) ρ1 F' v H' q (T.trans T') S' r
  · exact fun p o hp r => P.new T S1 q hp r
theorem biD_kind {bi : BI} {ds : List D} {s : Sl} (h : biD bi ds = some s) : ∃ d, s = .sh d ∨ s = .ow d := by
  cases s with
  | un =>
    unfold biD at h
    split at h
    all_goals first
      | (cases h; done)
      | (obtain ⟨x, e, h⟩ := Option.map_eq_some_iff.mp h; cases h; done)
      | (obtain ⟨x, e, h⟩ := Option.bind_eq_some_iff.mp h; obtain ⟨y, e, h⟩ := Option.map_eq_some_iff.mp h; cases h; done)
      | skip
    all_goals
      rename_i j
      first
        | (cases e : showB j with
           | true => rw [e] at h; cases h
           | false => rw [e] at h; cases h)
        | (cases e : decide (0 ≤ j) && decide (j ≤ 1000000) with
           | true => rw [e] at h; cases h
           | false => rw [e] at h; cases h)
        | (cases e : decide (0 ≤ j) && decide (j < 1000) with
           | true => rw [e] at h; cases h
           | false => rw [e] at h; cases h)
  | sh d => exact ⟨d, .inl rfl⟩
  | ow d => exact ⟨d, .inr rfl⟩
theorem biBoot : ∀ {bi : BI}, (bootBuiltins bi.name = some (biF bi)) := by
  intro bi
  cases bi <;> decide +kernel
theorem biTy (bi : BI) : (∃ id, biF bi = .builtin id) ∨ ∃ T, biF bi = .type T := by
  cases bi <;> first | exact .inl ⟨_, rfl⟩ | exact .inr ⟨_, rfl⟩
theorem pe_bi {bi : BI} {x : Str} {e : Expr} {es : List Expr} {p pos : Pos} {t : TA} {r : List V → Hp → VK → Prop} (hc : CallR X (biF bi) r) (hg : Gl X x) (hm : X.mg x = none) (hx : x = bi.name) (hn : x ≠ "__name__") (hd : (x == ("__debug__" : Str)) = false) (ha : PA X (e :: es) t) (hs : notStars (e :: es) = true) :
    PE X (.Call (.Name x p) (e :: es) [] pos) (tCB r t) := by
  subst hx
  have hs' : (notStar e && notStars es) = true := hs
  rw [Bool.and_eq_true] at hs'
  rcases biTy bi with ⟨id, e1⟩ | ⟨T, e1⟩
  · rw [e1] at hc
    exact pe_callB hc hg hm (by rw [← e1]; exact biBoot) ha hn hd (star1 hs'.1) (stars_any hs'.2)
  · rw [e1] at hc
    exact pe_callTy hc hg hm (by rw [← e1]; exact biBoot) ha hn hd (star1 hs'.1) (stars_any hs'.2)
theorem snd_biF {bi : BI} {es : Es} {y : Str} {x : Expr} {xs : List Expr} {p pos : Pos} (hb : bi ≠ .lrng1) (hd : bi ≠ .reprD) (hy : y = bi.name) (hg : c.bt y = true) (ha : SndA g b Γ c es (x :: xs)) (hs : notStars (x :: xs) = true) : SndF g b Γ c (.bi bi es) (.Call (.Name y p) (x :: xs) [] pos) := by
  intro X C ρ Q h F σ H K S P
  unfold wF at h
  obtain ⟨h1, h2, h3, h4⟩ := C.bt hg
  have hK : g.K = X.K := by rw [C.lk.K]; exact C.e.ty.gK
  refine ⟨_, pe_bi (callK X _) h1 h2 hy h4 h3 (paK _) hs, ha X C ρ _ h F σ H _ S fun rs ρ1 F1 vs H1 _ q T S1 r => ?_⟩
  obtain ⟨ds, cs, q⟩ := bnd_some q
  obtain ⟨s, es, q⟩ := bnd_some q
  exact biOk S1 hK C.lk.calm (S1.rds r cs) es hb hd (outS_f P T S1 q (biD_kind es))
theorem snd_bi {bi : BI} {es : Es} {y : Str} {x : Expr} {xs : List Expr} {p pos : Pos} (hb : bi ≠ .lrng1) (hd : bi ≠ .reprD) (hy : y = bi.name) (hg : c.bt y = true) (ha : SndA g b Γ c es (x :: xs)) (hs : notStars (x :: xs) = true) : SndE g b Γ c (.bi bi es) (.Call (.Name y p) (x :: xs) [] pos) :=
  fun X C ρ Q h F σ H K S P => snd_biF hb hd hy hg ha hs X C ρ (fun s ρ' => Q s.d none ρ') (by unfold wF; unfold wE at h; exact h) F σ H K S P.f
theorem snd_rpF {es : Es} {y : Str} {x : Expr} {xs : List Expr} {p pos : Pos} (hgd : c.gd = true) (hy : y = "repr") (hg : c.bt y = true) (ha : SndA g b Γ c es (x :: xs)) (hs : notStars (x :: xs) = true) : SndF g b Γ c (.bi .reprD es) (.Call (.Name y p) (x :: xs) [] pos) := by
  intro X C ρ Q h F σ H K S P
  unfold wF at h
  obtain ⟨h1, h2, h3, h4⟩ := C.bt hg
  have hK : g.K = X.K := by rw [C.lk.K]; exact C.e.ty.gK
  have hu : X.A.units + 70 < cLine := by
    rw [C.lk.A]
    have := C.e.room.un
    omega
  refine ⟨_, pe_bi (bi := .reprD) (callK X _) h1 h2 hy h4 h3 (paK _) hs, ha X C ρ _ h F σ H _ S fun rs ρ1 F1 vs H1 _ q T S1 r => ?_⟩
  obtain ⟨ds, cs, q⟩ := bnd_some q
  obtain ⟨s, es, q⟩ := bnd_some q
  exact biOkD (by rw [C.lk.K]; exact C.e.ty) S1 hK (C.gd hgd) hu (S1.rds r cs) es (outS_f P T S1 q (biD_kind es))
theorem snd_rp {es : Es} {y : Str} {x : Expr} {xs : List Expr} {p pos : Pos} (hgd : c.gd = true) (hy : y = "repr") (hg : c.bt y = true) (ha : SndA g b Γ c es (x :: xs)) (hs : notStars (x :: xs) = true) : SndE g b Γ c (.bi .reprD es) (.Call (.Name y p) (x :: xs) [] pos) :=
  fun X C ρ Q h F σ H K S P => snd_rpF hgd hy hg ha hs X C ρ (fun s ρ' => Q s.d none ρ') (by unfold wF; unfold wE at h; exact h) F σ H K S P.f
theorem RepL.of_rng (lo : Int) (F : Hp) : ∀ l : List Nat, RepL g F (l.map fun i => D.int (lo + (i : Nat))) (l.map fun i => V.int (lo + (i : Nat)))
  | [] => rfl
  | i :: l => ⟨_, _, rfl, rfl, RepL.of_rng lo F l⟩
theorem snd_lrF {a : Es} {y r : Str} {z : Expr} {zs : List Expr} {p p2 p3 pos : Pos} (hy : y = "list") (hg : c.bt y = true) (hr : r = "range") (hg2 : c.bt r = true) (ha : SndA g b Γ c a (z :: zs)) (hs : notStars (z :: zs) = true) (h1 : zs = []) (hE : ∀ e, a = .cons e .nil → SndE g b Γ c e z) (hA : ∃ e, a = .cons e .nil) :
    SndF g b Γ c (.bi .lrng1 a) (.Call (.Name y p) [.Call (.Name r p2) (z :: zs) [] p3] [] pos) := by
  subst hy hr h1
  obtain ⟨e, rfl⟩ := hA
  intro X C ρ Q h F σ H K S P
  unfold wF wA wA at h
  obtain ⟨g1, g2, _, _⟩ := C.bt hg
  obtain ⟨g3, g4, _, _⟩ := C.bt hg2
  have hs' : notStar z = true := by
    have : (notStar z && notStars []) = true := hs
    rw [Bool.and_eq_true] at this
    exact this.1
  refine ⟨_, pe_listRg C.lk.calm g1 g2 (prg_1 g3 g4 (peK z) (star1 hs')), hE e rfl X C ρ _ h F σ H _ S fun d s ρ1 F1 v H1 q T S1 r => ?_⟩
  obtain ⟨ds, cs, q⟩ := bnd_some q
  obtain ⟨sl, es, q⟩ := bnd_some q
  unfold curs at cs
  split at cs
  · rename_i d' cd
    cases cs
    have hj' : ∃ j, d' = .int j := by
      cases d' with
      | int j => exact ⟨j, rfl⟩
      | _ => cases es
    obtain ⟨j, rfl⟩ := hj'
    unfold biD at es
    dsimp only at es
    cases hj : decide (0 ≤ j) && decide (j ≤ 1000000) with
    | false => rw [hj] at es; cases es
    | true =>
      rw [hj] at es; cases es
      simp only [Bool.and_eq_true, decide_eq_true_eq] at hj
      have rv := S1.rd r cd
      have hv : v = .int j := rv
      refine ⟨j, hv, ⟨by omega, by omega, by omega, by omega, by omega⟩, fun p hp => P.new T S1 q hp ⟨_, rfl, ?_, ?_⟩⟩
      · rw [List.length_map, List.length_range]
        have : (1000000 : Nat) ≤ sizeLine := by decide
        omega
      · have e1 := RepL.of_rng (g := g) 0 F1 (List.range j.toNat)
        have e2 : ((List.range j.toNat).map fun i => D.int (0 + (i : Nat))) = (List.range j.toNat).map fun i => D.int (i : Nat) := List.map_congr_left fun i _ => by rw [Int.zero_add]
        rw [e2] at e1
        have e3 : rgV 0 j = (List.range j.toNat).map fun i => V.int (0 + (i : Nat)) := by
          unfold rgV
          rw [Int.sub_zero]
        rw [e3]
        exact e1
  · cases cs
/-! ### methods -/
theorem few_ok {cpos : Pos} {env : Env} {es : List Expr} (hs : notStars es = true) (hl : es.length < 20) : ((backTo cpos (starEach es env)).all (fun x => !x.1) && (backToKw cpos (keywordEach [] env)).all (fun x => x.1.isSome)
      && decide (es.length + ([] : List Keyword).length + (if ([] : List Keyword).isEmpty then 0 else 1) < 30)) = true := by
  rw [stars_all hs]
  show (true && true && decide (es.length + 0 + 0 < 30)) = true
  rw [decide_eq_true (by omega)]
  rfl
theorem meSlot (m : ME) (hm : m ≠ .count) : PlainAttrs (meT m) ∧ Slot (meT m) m.name (meId m) ∧ typeOf (.builtin (meId m)) = pure (.type "method_descriptor") := by
  cases m with
  | index => exact ⟨PySem.F.plainAttrs_list, PySem.F.slot_list_index, PySem.F.type_list_index⟩
  | join => exact ⟨PySem.F.plainAttrs_str, PySem.F.slot_str_join, PySem.F.type_str_join⟩
  | get => exact ⟨PySem.F.plainAttrs_dict, PySem.F.slot_dict_get, PySem.F.type_dict_get⟩
  | count => exact (hm rfl).elim
theorem mtSlot (m : MT) (hm : m ≠ .reverse) : PlainAttrs (mtT m) ∧ Slot (mtT m) m.name (mtId m) ∧ typeOf (.builtin (mtId m)) = pure (.type "method_descriptor") := by
  cases m with
  | append => exact ⟨PySem.F.plainAttrs_list, PySem.F.slot_list_append, PySem.F.type_list_append⟩
  | pop => exact ⟨PySem.F.plainAttrs_list, PySem.F.slot_list_pop, PySem.F.type_list_pop⟩
  | update => exact ⟨PySem.F.plainAttrs_dict, PySem.F.slot_dict_update, PySem.F.type_dict_update⟩
  | reverse => exact (hm rfl).elim
end
end FT

set_option Elab.async false
set_option linter.all false
set_option maxRecDepth 100000
set_option autoImplicit false
set_option maxHeartbeats 1000000
namespace FT
open PySem PySem.Spec PyProof.Rows L2
section
variable {g : G} {b : BF} {Γ : Nat → Option Con} {c : Cfg} {X : Cx}
theorem me_tyV {m : ME} {F H : Hp} {d : D} {v : V} (h : meTy m d = true) (r : RdV g F H d v) : tyV X.K (meT m) v H ∧ m ≠ .count := by
  unfold meTy at h
  split at h
  · obtain ⟨a, us, rfl, e, _⟩ := r; exact ⟨.inl ⟨rfl, us, .of e⟩, fun z => nomatch z⟩
  · obtain ⟨rfl, _⟩ := r; exact ⟨rfl, fun z => nomatch z⟩
  · obtain ⟨a, us, rfl, e, _⟩ := r; exact ⟨.inr (.inr (.inl ⟨rfl, .inl ⟨us, e⟩⟩)), fun z => nomatch z⟩
  · cases h
theorem bif_t {q : Bool} {A : Prop} (h : bif q then A else False) : q = true ∧ A := by
  cases q with
  | true => exact ⟨rfl, h⟩
  | false => exact h.elim
theorem snd_me {m : ME} {a : E} {es : Es} {y : Str} {o x : Expr} {xs : List Expr} {p q : Pos} (hm : m ≠ .count) (hy : y = m.name) (ha : SndE g b Γ c a o) (hb : SndA g b Γ c es (x :: xs)) (hs : notStars (x :: xs) = true) (hl : (x :: xs).length < 20) (ho : notSuper o = true) (hline : (p.endLine == q.line) = true) :
    SndE g b Γ c (.me m a es) (.Call (.Attribute o y p) (x :: xs) [] q) := by
  subst hy
  intro X C ρ Q h F σ H K S P
  unfold wE at h
  obtain ⟨s1, s2, s3⟩ := meSlot m hm
  have hK : g.K = X.K := by rw [C.lk.K]; exact C.e.ty.gK
  have hs' : (notStar x && notStars xs) = true := hs
  rw [Bool.and_eq_true] at hs'
  refine ⟨_, pe_bm s1 s2 s3 (mtrK X _) (peK o) (paK (x :: xs)) (super_ok ho) (few_ok hs hl) hline (star1 hs'.1) (stars_any hs'.2), ha X C ρ _ h F σ H _ S fun d1 t1 ρ1 F1 v1 H1 q T S1 r1 => ?_⟩
  obtain ⟨d0, c0, q⟩ := bnd_some q
  obtain ⟨ht, q⟩ := bif_t q
  refine ⟨(me_tyV ht (S1.rd r1 c0)).1, hb X C ρ1 _ q F1 σ H1 _ S1 fun rs ρ2 F2 vs H2 _ q T2 S2 r2 => ?_⟩
  obtain ⟨d1', c1, q⟩ := bnd_some q
  obtain ⟨ds, cs, q⟩ := bnd_some q
  obtain ⟨d, ed, q⟩ := bnd_some q
  exact (meOk S2 hK C.hu (S2.rd (r1.mono T2.sub) c1) (S2.rds r2 cs) ed (P.out (T.trans T2) q)).2
theorem mt_tyV {m : MT} {ρ : List Sl} {σ : L2.St} {F H : Hp} {d : D} {i : Nat} {v : V} (h : mtTy m d = true) (S : SR g F ρ σ H) (e : ρ[i]? = some (.ow d)) (ev : σ[i]? = some (some v)) : tyV X.K (mtT m) v H := by
  obtain ⟨a, o, e1, _, e3, r⟩ := S.ow i d e
  rw [ev] at e1; cases e1
  unfold mtTy at h
  split at h
  · obtain ⟨us, rfl, _⟩ := r; exact .inl ⟨rfl, us, .of e3⟩
  · obtain ⟨us, rfl, _⟩ := r; exact .inl ⟨rfl, us, .of e3⟩
  · obtain ⟨us, rfl, _⟩ := r; exact .inr (.inr (.inl ⟨rfl, .inl ⟨us, e3⟩⟩))
  · cases h
theorem mt_not {m : MT} {d : D} (h : mtTy m d = true) : m ≠ .reverse := by
  rintro rfl
  cases d <;> cases h
theorem mt_core {m : MT} {i : Nat} {es : Es} {o : Expr} {xs : List Expr} (C : CfgOk g b Γ X c) (hb : SndA g b Γ c es xs) {ρ : List Sl} {Q : D → Option Nat → List Sl → Prop} (h : wE Γ (.mt m i es) ρ Q) {F H : Hp} {σ : L2.St} {K : VK} (S : SR g F ρ σ H) (P : PostE g ρ σ F H Q K) :
    ∃ v, σ[i]? = some (some v) ∧ m ≠ .reverse ∧ tyV X.K (mtT m) v H ∧ OkA X xs σ H fun vs H2 => OkM X (mtId m) v vs H2 K := by
  unfold wE at h
  split at h
  · rename_i d0 e0
    obtain ⟨ht, h⟩ := bif_t h
    obtain ⟨a, o, ea, _, _, _⟩ := S.ow i d0 e0
    refine ⟨.ref a, ea, mt_not ht, mt_tyV ht S e0 ea, hb X C ρ _ h F σ H _ S fun rs ρ2 F2 vs H2 _ q T2 S2 r2 => ?_⟩
    obtain ⟨ds, cs, q⟩ := bnd_some q
    split at q
    · rename_i d ed
      obtain ⟨r, er, q⟩ := bnd_some q
      obtain ⟨F3, S3, T3, q3⟩ := S2.frzs r2 cs
      refine (mtOk S3 ed ea q3 er fun F' ρ' H' w e T' S' rw' => ?_).2
      subst e
      exact P r.1 none _ F' w H' q ((T2.trans T3).trans T') S' rw'
    · exact q.elim
  · exact h.elim
theorem snd_mt {m : MT} {i : Nat} {es : Es} {y o : Str} {xs : List Expr} {op p q : Pos} (hy : y = m.name) (hv : c.vis o i = true) (hb : SndA g b Γ c es xs) (hs : notStars xs = true) (hl : xs.length < 20) (hline : (p.endLine == q.line) = true) (hn : xs = [] → es = .nil) :
    SndE g b Γ c (.mt m i es) (.Call (.Attribute (.Name o op) y p) xs [] q) := by
  subst hy
  intro X C ρ Q h F σ H K S P
  obtain ⟨v, ev, nr, ty, ok⟩ := mt_core (o := .Name o op) C hb h S P
  obtain ⟨s1, s2, s3⟩ := mtSlot m nr
  obtain ⟨n1, n2, n3, n4⟩ := C.vis hv
  cases xs with
  | nil =>
    obtain ⟨t, pt, ht⟩ := ok
    -- no arguments
    refine ⟨_, pe_bm0 s1 s2 s3 (mtrK X _) (pe_var n1 n2 n3 n4) (super_ok rfl) hline, v, ev, ty, ?_⟩
    have hb0 := hb
    unfold wE at h
    split at h
    · rename_i d0 e0
      obtain ⟨htt, h⟩ := bif_t h
      cases es with
      | nil =>
        unfold wA at h
        obtain ⟨ds, cs, q⟩ := bnd_some h
        cases cs
        split at q
        · rename_i d ed
          obtain ⟨r, er, q⟩ := bnd_some q
          refine (mtOk S ed ev (show RepL g F [] [] from rfl) er fun F' ρ' H' w e T' S' rw' => ?_).2
          subst e
          exact P r.1 none _ F' w H' q T' S' rw'
        · exact q.elim
      | cons e es => cases hn rfl
    · exact h.elim
  | cons x xs =>
    have hs' : (notStar x && notStars xs) = true := hs
    rw [Bool.and_eq_true] at hs'
    exact ⟨_, pe_bm s1 s2 s3 (mtrK X _) (pe_var n1 n2 n3 n4) (paK (x :: xs)) (super_ok rfl) (few_ok hs hl) hline (star1 hs'.1) (stars_any hs'.2), v, ev, ty, ok⟩
end
end FT

set_option Elab.async false
set_option linter.all false
set_option maxRecDepth 100000
set_option autoImplicit false
set_option maxHeartbeats 1000000
namespace FT
open PySem PySem.Spec PyProof.Rows L2
section
variable {g : G} {b : BF} {Γ : Nat → Option Con} {c : Cfg} {X : Cx}
theorem RepF.look {F : Hp} {f : Str} : ∀ {ds : List (Str × D)} {vs : List (Str × V)} {d : D}, RepF g F ds vs → ds.lookup f = some d → ∃ v, vs.lookup f = some v ∧ Rep g F d v
  | [], _, d, _, h => by cases h
  | (k, d') :: ds, _, d, ⟨v, vr, e, q, r⟩, h => by
    subst e
    rw [List.lookup_cons] at h ⊢
    cases hk : f == k with
    | true => rw [hk] at h; cases h; exact ⟨v, rfl, q⟩
    | false => rw [hk] at h; exact RepF.look r h
/-- e.f of an own instance, e.value of an own exception -/
theorem pe_fldX {X : Cx} {e : Expr} {f : Str} {pos : Pos} {ta : TE} (he : PE X e ta) (hb : attributeBase e f X.env (eval e X.env) = eval e X.env) :
    PE X (.Attribute e f pos) (fun σ H Q => ta σ H fun x H1 => (∃ a C dx fs v, x = .ref a ∧ H1 a = some (.ins C dx fs) ∧ Cls X.K C ∧ NoAttr X.K C f ∧ fs.lookup f = some v ∧ Q v H1) ∨
      (∃ a C dx v, x = .ref a ∧ f = "value" ∧ H1 a = some (exo a C (some dx)) ∧ H1 dx = some (exd dx [("value", v)]) ∧ XfC X.K C ∧ PySem.W.findIn X.K (.ref C) "value" = some none ∧ Q v H1)) := by
  refine ⟨fun pins s σ H Q I h => ?_⟩
  refine attr_of hb (thn (he.run pins s σ H _ I h) fun u s1 ⟨x, H1, I1, rx, alt⟩ => ?_)
  rcases alt with ⟨a, C, dx, fs, v, ex, ea, c, n, l, q⟩ | ⟨a, C, dx, v, ex, ef, ea, ed, xf, no, q⟩
  · subst ex
    obtain rfl : u = Value.ref a := rx
    exact getattr_ok I1 ea c n l fun u' s2 I2 ru => ⟨v, H1, I2, ru, q⟩
  · subst ex
    subst ef
    obtain rfl : u = Value.ref a := rx
    obtain ⟨t1, ho⟩ := exo_at I1.hok ea
    obtain ⟨mA, hns, rel⟩ := exd_at I1.hok ed
    obtain ⟨od, ho2, hl⟩ := lookIn_ns hns
    obtain ⟨u', hu, ru'⟩ := RelO.some_of (v := v) (o := mA "value") (by have := rel "value"; rw [lookup_put, if_pos rfl] at this; exact this)
    have IA : PySem.W.InstAt s1.heap a _ C (some od) := ⟨ho, rfl, rfl, ho2⟩
    exact PySem.HandSPX.exc_get I1.kIn IA xf.ga xf.gg xf.exC (PySem.W.findObj_own xf.hdC no rfl (by rw [hl, hu])) (handed_of ru') ⟨v, H1, I1.tok _, ru', q⟩
theorem snd_fld {a : E} {f : Str} {o : Expr} {p : Pos} (hf : isFld f = true) (ha : SndE g b Γ c a o) (ho : notSuper o = true) : SndE g b Γ c (.fld a f) (.Attribute o f p) := by
  intro X C ρ Q h F σ H K S P
  unfold wE at h
  refine ⟨_, pe_fldX (peK o) (super_ok ho), ha X C ρ _ h F σ H _ S fun d s ρ1 F1 v H1 q T S1 r => ?_⟩
  cases d with
  | ins n fs =>
    obtain ⟨d, ed, q⟩ := bnd_some q
    obtain ⟨a, dx, vs, rfl, e1, en, rf⟩ := r.rep rfl
    obtain ⟨x, ex⟩ := Option.isSome_iff_exists.mp en
    obtain ⟨v, ev, rv⟩ := rf.look ed
    have hT := C.e.ty
    rw [← C.lk.K] at hT
    exact .inl ⟨a, g.cl n, dx, vs, v, rfl, S1.sub _ _ e1, (hT.cls n x ex).1, hT.flds n x ex f hf, ev, P d none ρ1 F1 v H1 q T S1 rv⟩
  | exc n d =>
    obtain ⟨a, dx, u, rfl, e1, e2, en, rd⟩ := r.rep rfl
    obtain ⟨x, ex⟩ := Option.isSome_iff_exists.mp en
    have q : (bif decide (f = "value") then Q d none ρ1 else False) := q
    cases hv : decide (f = "value") with
    | false => rw [hv] at q; exact q.elim
    | true =>
      rw [hv] at q
      have hT := C.e.ty
      rw [← C.lk.K] at hT
      rcases hT.xcs with no | E
      · rw [no] at ex; cases ex
      · exact .inr ⟨a, exA g n, dx, u, rfl, of_decide_eq_true hv, S1.sub _ _ e1, S1.sub _ _ e2, E.xf n x ex, E.no n x ex, P d none ρ1 F1 u H1 q T S1 rd⟩
  | _ => exact q.elim
/-! ### isinstance -/
theorem snd_isi {a : E} {t : TyN} {y w : Str} {z : Expr} {p pw pos : Pos} (hy : y = "isinstance") (hg : c.bt y = true) (ha : SndE g b Γ c a z) (hz : notStar z = true) (old : t.old = true) (ht : t.name c.cn = some w) (hw : c.gl w = true) (hf : match t with | .own _ => true = true | _ => c.free.contains w = true) :
    SndE g b Γ c (.isi a t) (.Call (.Name y p) [z, .Name w pw] [] pos) := by
  subst hy
  intro X C ρ Q h F σ H K S P
  unfold wE at h
  obtain ⟨g1, g2, g3, g4⟩ := C.bt hg
  obtain ⟨k1, k2, k3⟩ := C.gl hw
  have hT := C.e.ty
  rw [← C.lk.K] at hT
  have key : ∃ (cv : V) (u : Value), PE X (.Name w pw) (tC cv) ∧ tyV' t cv u g ∧ ∀ n, t = .own n → ∃ x, g.cn n = some x := by
    cases t with
    | own n =>
      have e : c.cn n = some w := ht
      rw [C.e.cnE] at e
      have em := (hT.cls n w e).2.1
      rw [← C.lk.mg] at em
      exact ⟨.ref (g.cl n), _, pe_glob k1 em rfl k2, ⟨rfl, rfl⟩, fun m hm => by cases hm; exact ⟨w, e⟩⟩
    | exc _ => cases old
    | fte => cases old
    | ve => cases old
    | str => cases ht; exact ⟨.ty "str", _, pe_bltn k1 (by rw [C.lk.mg]; exact C.e.free _ (List.contains_iff_mem.mp hf)) boot_str rfl k3 k2, ⟨rfl, rfl⟩, fun m hm => nomatch hm⟩
    | list => cases ht; exact ⟨.ty "list", _, pe_bltn k1 (by rw [C.lk.mg]; exact C.e.free _ (List.contains_iff_mem.mp hf)) boot_list rfl k3 k2, ⟨rfl, rfl⟩, fun m hm => nomatch hm⟩
    | tuple => cases ht; exact ⟨.ty "tuple", _, pe_bltn k1 (by rw [C.lk.mg]; exact C.e.free _ (List.contains_iff_mem.mp hf)) boot_tuple rfl k3 k2, ⟨rfl, rfl⟩, fun m hm => nomatch hm⟩
    | dict => cases ht; exact ⟨.ty "dict", _, pe_bltn k1 (by rw [C.lk.mg]; exact C.e.free _ (List.contains_iff_mem.mp hf)) boot_dict rfl k3 k2, ⟨rfl, rfl⟩, fun m hm => nomatch hm⟩
  obtain ⟨cv, u, pc, tv, ow⟩ := key
  refine ⟨_, pe_callB (callK X _) g1 g2 boot_isinstance (pa_cons (peK z) (pa_cons pc pa_nil rfl) (star1 hz)) g4 g3 (star1 hz) rfl, ha X C ρ _ h F σ H _ S fun d s ρ1 F1 v H1 q T S1 r => ?_⟩
  obtain ⟨d1, c1, q⟩ := bnd_some q
  obtain ⟨k, ek, q⟩ := bnd_some q
  exact isiOk hT ow S1 (S1.rd r c1) old ek tv (P _ none ρ1 F1 _ H1 q T S1 rfl)
theorem isi_new {d : D} {t : TyN} {k : Bool} (h : isiD d t = some k) (o : t.old = false) : ∃ c x, d = .exc c x := by
  cases d with
  | exc c x => exact ⟨c, x, rfl⟩
  | _ => cases t <;> first | (cases o; done) | (cases h; done)
theorem isiOkX {X : Cx} {ρ : List Sl} {σ : L2.St} {F H : Hp} {K : VK} {mg : Str → Option Value} {n : Nat} {x : D} {v c : V} {u : Value} {t : TyN} {b : Bool} (T : Ty g X.K mg) (E : ExcTy g X.K mg) (S : SR g F ρ σ H)
    (r : Rep g F (.exc n x) v) (h : isiD (.exc n x) t = some b) (ht : tyV' t c u g) (hc : ∀ m, t = .exc m → (g.xc m).isSome = true) (cv : ClsV c u) (k : K (.bl b) H) : OkCall X (.builtin "isinstance") [v, c] H K := by
  obtain ⟨a, dx, w, rfl, e1, e2, en, rd⟩ := r
  obtain ⟨y, ey⟩ := Option.isSome_iff_exists.mp en
  have ko : PySem.W.kitOne X.K (.ref (exA g n)) u = some b := by
    cases t with
    | exc m =>
      cases h
      rw [ht.2]
      obtain ⟨z, ez⟩ := Option.isSome_iff_exists.mp (hc m rfl)
      exact E.kit n m y z ey ez
    | fte => cases h; rw [ht.2, T.gK]; exact E.kitF n y ey
    | ve => cases h; rw [ht.2]; exact E.kitV n y ey
    | _ => cases h
  refine ⟨fun xs H' Q' => xs = [.ref a, c] ∧ H' = H ∧ Q' = K, ?_, rfl, rfl, rfl⟩
  intro pins s σ' H' xs us Q I rx hq
  obtain ⟨rfl, rfl, rfl⟩ := hq
  obtain ⟨u1, u2, rfl, r1, r2⟩ := vals2 rx
  obtain rfl : u1 = Value.ref a := r1
  have e3 := cv.eq r2
  subst e3
  obtain ⟨t1, ho⟩ := exo_at I.hok (S.sub _ _ e1)
  obtain ⟨mA, hns, rel⟩ := exd_at I.hok (S.sub _ _ e2)
  obtain ⟨od, ho2, hl⟩ := lookIn_ns hns
  have IA : PySem.W.InstAt s.heap a _ (exA g n) (some od) := ⟨ho, rfl, rfl, ho2⟩
  have xf := E.xf n y ey
  exact PySem.W.kia_one (PySem.W.kitx_exc (E.cls n y ey) xf.ga xf.gg xf.exC (E.ca n y ey) T.co1 T.co2 (E.mo n y ey)) I.kIn IA ko (fun z => nomatch z) fun tk => ⟨.bl b, H', I.tok tk, rfl, k⟩
theorem snd_isiX {a : E} {t : TyN} {y w : Str} {z : Expr} {p pw pos : Pos} (hy : y = "isinstance") (hg : c.bt y = true) (ha : SndE g b Γ c a z) (hz : notStar z = true) (new : t.old = false) (ht : t.name c.cn = some w) (hw : c.gl w = true) (hf : t = .ve → c.free.contains w = true) :
    SndE g b Γ c (.isi a t) (.Call (.Name y p) [z, .Name w pw] [] pos) := by
  subst hy
  intro X C ρ Q h F σ H K S P
  unfold wE at h
  obtain ⟨g1, g2, g3, g4⟩ := C.bt hg
  obtain ⟨k1, k2, k3⟩ := C.gl hw
  have hT := C.e.ty
  rw [← C.lk.K] at hT
  rcases hT.xcs with no | E
  · refine ⟨_, pe_callB (callK X _) g1 g2 boot_isinstance (pa_cons (peK z) (pa_cons (peK (.Name w pw)) pa_nil rfl) (star1 hz)) g4 g3 (star1 hz) rfl, ha X C ρ _ h F σ H _ S fun d s ρ1 F1 v H1 q T S1 r => ?_⟩
    obtain ⟨d1, c1, q⟩ := bnd_some q
    obtain ⟨k, ek, q⟩ := bnd_some q
    obtain ⟨n, x, rfl⟩ := isi_new ek new
    have r1 := S1.rd r c1
    obtain ⟨_, _, _, _, _, _, en, _⟩ := (show Rep g F1 (.exc n x) v from r1)
    rw [no] at en
    cases en
  · have key : ∃ (cv : V) (u : Value), PE X (.Name w pw) (tC cv) ∧ tyV' t cv u g ∧ ClsV cv u ∧ ∀ m, t = .exc m → (g.xc m).isSome = true := by
      have mg : ∀ x v, b.mg x = v → X.mg x = v := fun x v e => by rw [C.lk.mg]; exact e
      cases t with
      | exc m =>
        have ex := E.on m w ht
        exact ⟨.ref (exA g m), _, pe_glob k1 (mg _ _ (E.mgX m w ex)) rfl k2, ⟨rfl, rfl⟩, .own _, fun m' hm => by cases hm; rw [ex]; rfl⟩
      | fte => cases ht; exact ⟨.ref (He.ga g.K "FitTreesError"), _, pe_glob k1 (mg _ _ E.mgF) (by rw [hT.gK]; rfl) k2, ⟨rfl, rfl⟩, .own _, fun m hm => nomatch hm⟩
      | ve => cases ht; exact ⟨.ty "ValueError", _, pe_bltn k1 (by rw [C.lk.mg]; exact C.e.free _ (List.contains_iff_mem.mp (hf rfl))) (by first | exact PyProof.Rows.Boot.«ValueError» | rfl) rfl k3 k2, ⟨rfl, rfl⟩, .ty _, fun m hm => nomatch hm⟩
      | _ => cases new
    obtain ⟨cv, u, pc, tv, kc, hc⟩ := key
    refine ⟨_, pe_callB (callK X _) g1 g2 boot_isinstance (pa_cons (peK z) (pa_cons pc pa_nil rfl) (star1 hz)) g4 g3 (star1 hz) rfl, ha X C ρ _ h F σ H _ S fun d s ρ1 F1 v H1 q T S1 r => ?_⟩
    obtain ⟨d1, c1, q1⟩ := bnd_some q
    obtain ⟨k, ek, q2⟩ := bnd_some q1
    clear q q1
    obtain ⟨n, x, rfl⟩ := isi_new ek new
    exact isiOkX hT E S1 (S1.rd r c1) ek tv hc kc (P _ none ρ1 F1 _ H1 q2 T S1 rfl)
/-! ### calls by their contracts -/
theorem CStp.sr {ρ : List Sl} {σ : L2.St} {F H F' H' : Hp} (S : SR g F ρ σ H) (T : CStp F H F' H' fun _ => False) : SR g F' ρ σ H' ∧ Stp ρ σ F H ρ σ F' H' := by
  refine ⟨⟨T.sub2, S.len, fun i d e => ?_, fun i d e => ?_, S.inj⟩, ⟨T.sub, fun a o h _ => T.keep a o h id, fun a h => ?_, fun a h => .inl h, T.grow⟩⟩
  · obtain ⟨v, e1, r⟩ := S.sh i d e; exact ⟨v, e1, r.mono T.sub⟩
  · obtain ⟨a, o, e1, e2, e3, r⟩ := S.ow i d e
    refine ⟨a, o, e1, ?_, T.keep a o e3 id, r.mono T.sub⟩
    cases z : F' a with
    | none => rfl
    | some y =>
      rcases T.newF a (by rw [z]; exact fun q => nomatch q) with q | q
      · exact absurd e2 q
      · rw [e3] at q; cases q
  · rcases T.newF a h with q | q
    · exact .inl q
    · exact .inr (.inl q)
theorem RetR.slv {r : RK} {ρ : List Sl} {σ : L2.St} {H0 H F' H' : Hp} {d : D} {v : V} (S : ∀ a, OwnA ρ σ a → H a ≠ none) (hg : ∀ a, H a = none → H0 a = none) (q : RetR g r F' H H' d v) : SlV g H0 F' H' ρ σ (r.sl d) v := by
  cases r with
  | nor => exact q
  | flt => exact q.2
  | fre =>
    rcases q with ⟨h1, q⟩ | ⟨h1, a, o, e, h2, h3, h4, h5⟩
    · show SlV g H0 F' H' ρ σ (bif d.flat then .sh d else .ow d) v
      rw [h1]; exact q
    · show SlV g H0 F' H' ρ σ (bif d.flat then .sh d else .ow d) v
      rw [h1]
      exact ⟨a, o, e, h2, h4, h5, fun z => S a z h3, hg a h3⟩
theorem SR.own_some {ρ : List Sl} {σ : L2.St} {F H : Hp} (S : SR g F ρ σ H) (a : Addr) (h : OwnA ρ σ a) : H a ≠ none := by
  obtain ⟨i, d, e, es⟩ := h
  obtain ⟨b, o, q1, _, q3, _⟩ := S.ow i d e
  rw [es] at q1; cases q1
  rw [q3]; exact fun z => nomatch z
theorem wCon_ok {k : Con} {rs : List Raw} {vs : List V} {ρ0 ρ : List Sl} {σ : L2.St} {F0 H0 F H : Hp} {Q : Sl → List Sl → Prop} {K : VK} (S : SR g F ρ σ H) (T0 : Stp ρ0 σ F0 H0 ρ σ F H) (r : VRs g F σ rs vs) (h : wCon k rs ρ Q) (P : PostF g ρ0 σ F0 H0 Q K) : k.sp g vs H K := by
  unfold wCon at h
  unfold Con.sp
  cases ei : k.io with
  | false =>
    rw [ei] at h
    dsimp only at h ⊢
    obtain ⟨ds, cs, h⟩ := bnd_some h
    obtain ⟨F1, S1, T1, q1⟩ := S.frzs r cs
    refine ⟨F1, ds, S1.sub, q1, ?_⟩
    obtain ⟨i, e1, e2, h⟩ := h
    refine ⟨i, e1, e2, fun d o hp F' H' v T rr => ?_⟩
    have q := h d o hp
    cases er : k.ret with
    | flt =>
      rw [er] at q rr
      dsimp only at q
      -- what was lent is given back
      have S2 : SR g F ρ σ H' := by
        refine ⟨(T1.sub.trans T.sub).trans T.sub2, S.len, S.sh, fun i d e => ?_, S.inj⟩
        obtain ⟨a, o, e1, e2, e3, r⟩ := S.ow i d e
        exact ⟨a, o, e1, e2, T.keep a o e3 id, r⟩
      have T2 : Stp ρ σ F H ρ σ F H' := ⟨Same.refl _, fun a o h _ => T.keep a o h id, fun a h => .inl h, fun a h => .inl h, T.grow⟩
      exact P (.sh d) ρ F v H' q (T0.trans T2) S2 (Rep.flat rr.1 rr.2)
    | nor =>
      rw [er] at q rr
      obtain ⟨S2, T2⟩ := T.sr S1
      exact P _ _ F' v H' q ((T0.trans T1).trans T2) S2 rr
    | fre =>
      rw [er] at q rr
      obtain ⟨S2, T2⟩ := T.sr S1
      exact P _ _ F' v H' q ((T0.trans T1).trans T2) S2 (RetR.slv S1.own_some (fun a z => T0.grow a z) rr)
  | true =>
    rw [ei] at h
    dsimp only at h ⊢
    cases rs with
    | nil => exact h.elim
    | cons r0 rs =>
      obtain ⟨d0', s0⟩ := r0
      cases s0 with
      | none => exact h.elim
      | some i =>
        dsimp only at h
        obtain ⟨v0, vr, rfl, rv, rr0⟩ := r
        split at h
        · rename_i d0 e0
          obtain ⟨ds, cs, h⟩ := bnd_some h
          obtain ⟨F1, S1, T1, q1⟩ := S.frzs rr0 cs
          obtain ⟨a, o, ea, ef, eh, ro⟩ := S1.ow i d0 e0
          have ev : σ[i]? = some (some v0) := rv.1
          rw [ev] at ea; cases ea
          refine ⟨F1, d0, ds, a, o, vr, rfl, S1.sub, ef, eh, ro, q1, ?_⟩
          obtain ⟨j, e1, e2, h⟩ := h
          refine ⟨j, e1, e2, fun d out hp F' H' v o' T ef' eh' ro' rr => ?_⟩
          have q := h d out hp
          have hi : i < (FT.frzs rs ρ).length := (List.getElem?_eq_some_iff.mp e0).1
          have S2 : SR g F' ((FT.frzs rs ρ).set i (.ow out)) σ H' := by
            refine ⟨T.sub2, by rw [List.length_set]; exact S1.len, fun m d e => ?_, fun m d e => ?_, fun m n d1 d2 z em en es et => ?_⟩
            · by_cases zz : i = m
              · subst zz; rw [List.getElem?_set_self hi] at e; cases e
              · rw [List.getElem?_set_ne zz] at e
                obtain ⟨u, q1, q2⟩ := S1.sh m d e; exact ⟨u, q1, q2.mono T.sub⟩
            · by_cases zz : i = m
              · subst zz
                rw [List.getElem?_set_self hi] at e; cases e
                exact ⟨a, o', ev, ef', eh', ro'⟩
              · rw [List.getElem?_set_ne zz] at e
                obtain ⟨b', y, q1, q2, q3, q4⟩ := S1.ow m d e
                have ne : ¬ b' = a := fun y => zz (S1.inj i m d0 d a e0 e ev (by rw [← y]; exact q1))
                refine ⟨b', y, q1, ?_, T.keep b' y q3 ne, q4.mono T.sub⟩
                cases zf : F' b' with
                | none => rfl
                | some w =>
                  rcases T.newF b' (by rw [zf]; exact fun q => nomatch q) with q | q
                  · exact absurd q2 q
                  · rw [q3] at q; cases q
            · have key : ∀ (t : Nat) (dt : D), ((FT.frzs rs ρ).set i (.ow out))[t]? = some (.ow dt) → ∃ dt', (FT.frzs rs ρ)[t]? = some (.ow dt') := fun t dt et => by
                by_cases zz : i = t
                · subst zz; exact ⟨d0, e0⟩
                · rw [List.getElem?_set_ne zz] at et; exact ⟨_, et⟩
              obtain ⟨_, em'⟩ := key m _ em
              obtain ⟨_, en'⟩ := key n _ en
              exact S1.inj m n _ _ z em' en' es et
          have own2 : ∀ z, OwnA ((FT.frzs rs ρ).set i (.ow out)) σ z → OwnA (FT.frzs rs ρ) σ z := fun z ⟨m, dm, em, es⟩ => by
            by_cases zz : i = m
            · subst zz; exact ⟨i, d0, e0, es⟩
            · rw [List.getElem?_set_ne zz] at em; exact ⟨m, dm, em, es⟩
          have T2 : Stp (FT.frzs rs ρ) σ F1 H ((FT.frzs rs ρ).set i (.ow out)) σ F' H' := by
            refine ⟨T.sub, fun z y hz nz => T.keep z y hz fun e => nz ⟨i, d0, e0, by rw [e]; exact ev⟩, fun z hz => ?_, fun z hz => .inl (own2 z hz), T.grow⟩
            rcases T.newF z hz with q | q
            · exact .inl q
            · exact .inr (.inl q)
          exact P _ _ F' v H' q ((T0.trans T1).trans T2) S2 (RetR.slv (fun z hz => S1.own_some z (own2 z hz)) (fun z hz => T0.grow z hz) rr)
        · exact h.elim
theorem snd_callF {f : Nat} {es : Es} {y : Str} {x : Expr} {xs : List Expr} {p pos : Pos} (hf : c.fn f = some y) (hg : c.gl y = true) (ha : SndA g b Γ c es (x :: xs)) (hs : notStars (x :: xs) = true) : SndF g b Γ c (.call f es) (.Call (.Name y p) (x :: xs) [] pos) := by
  intro X C ρ Q h F σ H K S P
  unfold wF at h
  dsimp only at h
  obtain ⟨h1, _, _⟩ := C.gl hg
  cases ek : Γ f with
  | none => rw [ek] at h; exact h.elim
  | some k =>
    rw [ek] at h
    exact C.e.call f k y ek hf X C.lk h1 x xs p pos σ H K hs (ha X C ρ _ h F σ H _ S fun rs ρ1 F1 vs H1 _ q T S1 r => wCon_ok S1 T r q P)
theorem snd_call {f : Nat} {es : Es} {y : Str} {x : Expr} {xs : List Expr} {p pos : Pos} (hf : c.fn f = some y) (hg : c.gl y = true) (ha : SndA g b Γ c es (x :: xs)) (hs : notStars (x :: xs) = true) : SndE g b Γ c (.call f es) (.Call (.Name y p) (x :: xs) [] pos) :=
  fun X C ρ Q h F σ H K S P => snd_callF hf hg ha hs X C ρ (fun s ρ' => Q s.d none ρ') (by unfold wF; unfold wE at h; exact h) F σ H K S P.f
theorem snd_call0F {f : Nat} {y : Str} {p pos : Pos} (hf : c.fn f = some y) (hg : c.gl y = true) : SndF g b Γ c (.call f .nil) (.Call (.Name y p) [] [] pos) := by
  intro X C ρ Q h F σ H K S P
  unfold wF at h
  dsimp only at h
  obtain ⟨h1, _, _⟩ := C.gl hg
  cases ek : Γ f with
  | none => rw [ek] at h; exact h.elim
  | some k =>
    rw [ek] at h
    unfold wA at h
    exact C.e.call0 f k y ek hf X C.lk h1 p pos σ H K (wCon_ok (rs := []) (vs := []) S .refl (show VRs g F σ [] [] from rfl) h P)
theorem snd_call0 {f : Nat} {y : Str} {p pos : Pos} (hf : c.fn f = some y) (hg : c.gl y = true) : SndE g b Γ c (.call f .nil) (.Call (.Name y p) [] [] pos) :=
  fun X C ρ Q h F σ H K S P => snd_call0F hf hg X C ρ (fun s ρ' => Q s.d none ρ') (by unfold wF; unfold wE at h; exact h) F σ H K S P.f
theorem snd_callKF {f : Nat} {es : Es} {y : Str} {ns : List Str} {ks : List Keyword} {p pos : Pos} (hf : c.kn f = some (y, some ns)) (hn : kwNs ks = some ns) (hg : c.gl y = true) (ha : SndK g b Γ c es ks) : SndF g b Γ c (.call f es) (.Call (.Name y p) [] ks pos) := by
  intro X C ρ Q h F σ H K S P
  unfold wF at h
  dsimp only at h
  obtain ⟨h1, _, _⟩ := C.gl hg
  cases ek : Γ f with
  | none => rw [ek] at h; exact h.elim
  | some k =>
    rw [ek] at h
    exact C.e.callK f k y ns ek hf X C.lk h1 ks p pos σ H K hn (ha X C ρ _ h F σ H _ S fun rs ρ1 F1 vs H1 _ q T S1 r => wCon_ok S1 T r q P)
theorem snd_callK {f : Nat} {es : Es} {y : Str} {ns : List Str} {ks : List Keyword} {p pos : Pos} (hf : c.kn f = some (y, some ns)) (hn : kwNs ks = some ns) (hg : c.gl y = true) (ha : SndK g b Γ c es ks) : SndE g b Γ c (.call f es) (.Call (.Name y p) [] ks pos) :=
  fun X C ρ Q h F σ H K S P => snd_callKF hf hn hg ha X C ρ (fun s ρ' => Q s.d none ρ') (by unfold wF; unfold wE at h; exact h) F σ H K S P.f
theorem snd_exvF {f : Nat} {e : E} {y : Str} {x : Expr} {p p2 kp pos : Pos} (hf : c.kn f = some (y, none)) (hg : c.gl y = true) (ha : SndE g b Γ c e x) : SndF g b Γ c (.call f (.cons e .nil)) (.Attribute (.Call (.Name y p) [] [⟨some "value", x, kp⟩] p2) "value" pos) := by
  intro X C ρ Q h F σ H K S P
  unfold wF at h
  dsimp only at h
  obtain ⟨h1, _, _⟩ := C.gl hg
  cases ek : Γ f with
  | none => rw [ek] at h; exact h.elim
  | some k =>
    rw [ek] at h
    unfold wA at h
    exact C.e.exv f k y ek hf X C.lk h1 x p p2 kp pos σ H K (ha X C ρ _ h F σ H _ S fun d s ρ1 F1 v H1 q T S1 r => wCon_ok (rs := [(d, s)]) (vs := [v]) S1 T ⟨v, [], rfl, r, rfl⟩ (by unfold wA at q; exact q) P)
theorem snd_exv {f : Nat} {e : E} {y : Str} {x : Expr} {p p2 kp pos : Pos} (hf : c.kn f = some (y, none)) (hg : c.gl y = true) (ha : SndE g b Γ c e x) : SndE g b Γ c (.call f (.cons e .nil)) (.Attribute (.Call (.Name y p) [] [⟨some "value", x, kp⟩] p2) "value" pos) :=
  fun X C ρ Q h F σ H K S P => snd_exvF hf hg ha X C ρ (fun s ρ' => Q s.d none ρ') (by unfold wF; unfold wE at h; exact h) F σ H K S P.f
theorem snd_prp {a : E} {f : Nat} {y : Str} {o : Expr} {p : Pos} (hf : c.pn f = some y) (hy : y ≠ "__eq__") (ha : SndE g b Γ c a o) (ho : notSuper o = true) : SndE g b Γ c (.prp a f) (.Attribute o y p) := by
  intro X C ρ Q h F σ H K S P
  unfold wE at h
  cases ek : Γ f with
  | none => rw [ek] at h; exact h.elim
  | some k =>
    rw [ek] at h
    exact C.e.prop f k y ek hf hy X C.lk o p σ H K ho (ha X C ρ _ h F σ H _ S fun d s ρ1 F1 v H1 q T S1 r => wCon_ok (rs := [(d, s)]) (vs := [v]) S1 T ⟨v, [], rfl, r, rfl⟩ q P.f)
theorem snd_eqT {n : Bool} {f : Nat} {a d : E} {x y : Expr} {p : Pos} (hf : c.pn f = some "__eq__") (ha : SndE g b Γ c a x) (hb : SndE g b Γ c d y) : SndE g b Γ c (.eqT n f a d) (.Compare x [bif n then .NotEq else .Eq] [y] p) := by
  intro X C ρ Q h F σ H K S P
  unfold wE at h
  cases ek : Γ f with
  | none => rw [ek] at h; exact h.elim
  | some k =>
    rw [ek] at h
    refine ⟨_, pe_cmpR (oprK _) (peK x) (peK y) (by cases n <;> exact nomark _), two ha hb C h S fun d1 s1 d2 s2 ρ2 F2 v1 v2 H2 q T S2 r1 r2 => ?_⟩
    refine C.e.eq f k ek hf X C.lk n v1 v2 H2 K (wCon_ok (rs := [(d1, s1), (d2, s2)]) (vs := [v1, v2]) S2 T ⟨v1, [v2], rfl, r1, v2, [], rfl, r2, rfl⟩ q fun s ρ3 F3 v H3 q T3 S3 r3 => ?_)
    obtain ⟨F4, S4, T4, r4⟩ := r3.freeze T3 S3
    obtain ⟨k, ek, q⟩ := wE_bl q
    rw [ek] at r4
    exact ⟨k, r4, P _ none ρ3 F4 _ H3 q T4 S4 rfl⟩
theorem snd_eqTT {n : Bool} {f : Nat} {a d : E} {x y : Expr} {p : Pos} (hf : c.pn f = some "__eq__") (ha : SndE g b Γ c a x) (hb : SndE g b Γ c d y) : SndT g b Γ c (.eqT n f a d) (.Compare x [bif n then .NotEq else .Eq] [y] p) := by
  intro X C ρ Q h F σ H K S hq P
  unfold wE at h
  cases ek : Γ f with
  | none => rw [ek] at h; exact h.elim
  | some k =>
    rw [ek] at h
    refine ⟨_, pt_cmpR (oprK _) (peK x) (peK y) (by cases n <;> exact nomark _), two ha hb C h S fun d1 s1 d2 s2 ρ2 F2 v1 v2 H2 q T S2 r1 r2 => ?_⟩
    refine C.e.eq f k ek hf X C.lk n v1 v2 H2 _ (wCon_ok (rs := [(d1, s1), (d2, s2)]) (vs := [v1, v2]) S2 T ⟨v1, [v2], rfl, r1, v2, [], rfl, r2, rfl⟩ q fun s ρ3 F3 v H3 q T3 S3 r3 => ?_)
    obtain ⟨F4, S4, T4, r4⟩ := r3.freeze T3 S3
    obtain ⟨k, ek, q⟩ := wE_bl q
    rw [ek] at r4
    exact ⟨k, r4, _, rfl, P _ none ρ3 F4 H3 q T4 S4⟩
end
end FT

set_option Elab.async false
set_option linter.all false
set_option maxRecDepth 100000
set_option autoImplicit false
set_option maxHeartbeats 2000000
namespace FT
open PySem PySem.Spec PyProof.Rows L2
/-! ### enumerate of a text; zip of lists and texts -/
section
variable {X : Cx} {pins : List (Addr × Obj)} {σ : L2.St} {H : Hp} {s : Shared}
/-- what is drawn from: a list that stands, a text -/
inductive Src where
  | l (a : Addr) | t (x : Str)
def Src.v : Src → V
  | .l a => .ref a | .t x => .str x
def Src.at (K : PySem.W.Frag) (H : Hp) (n : Nat) (f : Nat → V) : Src → Prop
  | .l a => ∃ vs, SqL K H a vs ∧ n = vs.length ∧ ∀ i, i < n → vs[i]? = some (f i)
  | .t x => n = x.cps.size ∧ ∀ i, i < n → ∃ c, x.cps[i]? = some c ∧ f i = .str ⟨#[c]⟩
def Src.own (tk : Tok) (it : Addr) (i : Nat) (h : Heap) : Src → Prop
  | .l a => h.IsListIter it a i
  | .t x => h.IsStrIter it (strIterType x) x tk i
/-- what the machine draws -/
structure SD (P : Program) (w : World) (A : Around) (it : Addr) (tk : Tok) (src : Src) (n : Nat) (f : Nat → V) (H : Hp) (h : Heap) : Type where
  fp : List Addr
  Pv : Nat → Value → Prop
  St : Nat → Heap → Prop
  D : Draws P w A it fp n Pv St
  rel : ∀ i u, i < n → Pv i u → RelV (f i) u
  mem : it ∈ fp
  lt : ∀ b ∈ fp, b = it ∨ b < h.objs.size
  get : ∀ i h', (∀ b o, b ≠ it → h.get? b = some o → h'.get? b = some o) → src.own tk it i h' → St i h'
  put : ∀ i h', St i h' → src.own tk it i h'
  oth : ∀ b ∈ fp, b ≠ it → H b ≠ none ∨ ∃ a, src = .l a ∧ b = a
theorem srcD {src : Src} {it : Addr} {tk : Tok} {n : Nat} {f : Nat → V} (I : Inv X pins σ H s) (hh : X.A.handled = none) (ha : src.at X.K H n f) (hit : src.own tk it 0 s.heap ∨ True) (hne : ∀ a, src = .l a → a ≠ it) (hnw : ∀ a, src = .l a → a < s.heap.objs.size) :
    ∀ A : Around, A.handled = none → Nonempty (SD X.prog X.w A it tk src n f H s.heap) := by
  intro A hA
  cases src with
  | l a =>
    obtain ⟨vs, hq, en, hv⟩ := ha
    obtain ⟨its, r, p, hz⟩ := I.list hq
    have hl := r.length
    have hsz : its.toArray.size = n := by rw [List.size_toArray, en, hl]
    have D0 := Draws.list (prog := X.prog) (w := X.w) (A := A) hA it a (hne a rfl) its.toArray
    rw [hsz] at D0
    refine ⟨⟨[it, a], _, _, D0, fun i u hi hu => ?_, by simp, fun b hb => ?_, fun i h' k o => ⟨o, p.isList.at fun ob e => k a ob (hne a rfl) e⟩, fun i h' st => st.1, fun b hb hbn => ?_⟩⟩
    · obtain ⟨u', e1, r1⟩ := r.get (hv i hi)
      have : its.toArray[i]? = some u := hu
      rw [List.getElem?_toArray] at this
      rw [e1] at this
      cases this
      exact r1
    · have : b = it ∨ b = a := by simpa using hb
      rcases this with e | e
      · exact .inl e
      · exact .inr (by rw [e]; exact hnw a rfl)
    · have : b = it ∨ b = a := by simpa using hb
      rcases this with e | e
      · exact absurd e hbn
      · exact .inr ⟨a, rfl, e⟩
  | t x =>
    obtain ⟨en, hv⟩ := ha
    have D0 := Draws.text (prog := X.prog) (w := X.w) (A := A) hA it x tk
    rw [← en] at D0
    refine ⟨⟨[it], _, _, D0, fun i u hi hu => ?_, by simp, fun b hb => .inl (by simpa using hb), fun i h' k o => o, fun i h' st => st, fun b hb hbn => absurd (by simpa using hb) hbn⟩⟩
    obtain ⟨c, u', e1, e2⟩ := hu
    obtain ⟨c', e3, e4⟩ := hv i hi
    rw [e1] at e3
    cases e3
    rw [e4, e2]
    exact ⟨u', rfl⟩
theorem Src.own_obj {src : Src} {tk : Tok} {it : Addr} {i : Nat} {h : Heap} (o : src.own tk it i h) : ∃ ob, h.get? it = some ob ∧ ∀ v, ob.data ≠ .cell v := by
  cases src with
  | l a => obtain ⟨ob, e, _, d⟩ := o; exact ⟨ob, e, fun v z => by rw [d] at z; cases z⟩
  | t x => obtain ⟨ob, e, _, d⟩ := o; exact ⟨ob, e, fun v z => by rw [d] at z; cases z⟩
theorem Src.own_at {src : Src} {tk : Tok} {it : Addr} {i : Nat} {h h' : Heap} (o : src.own tk it i h) (k : ∀ ob, h.get? it = some ob → h'.get? it = some ob) : src.own tk it i h' := by
  cases src with
  | l a => exact Heap.IsListIter.at o k
  | t x => obtain ⟨ob, e, c, d⟩ := o; exact ⟨ob, k ob e, c, d⟩
/-- pairs of the counted and the drawn -/
def ItN (K : PySem.W.Frag) (src : Src) : L2.It :=
  ⟨fun i H => ∃ n f, src.at K H n f ∧ i < n, fun i H v H' => ∃ T x, v = .ref T ∧ H T = none ∧ H' = upd H T (.tup [.int (i : Nat), x]) ∧ ∀ n f, src.at K H n f → x = f i, fun i H => ∃ f, src.at K H i f⟩
theorem Src.at_inj {src : Src} {n n' : Nat} {f f' : Nat → V} (I : Inv X pins σ H s) (h : src.at X.K H n f) (h' : src.at X.K H n' f') : n = n' ∧ ∀ i, i < n → f i = f' i := by
  cases src with
  | l a =>
    obtain ⟨vs, q, e, hv⟩ := h
    obtain ⟨vs', q', e', hv'⟩ := h'
    cases I.list_inj q q'
    refine ⟨e.trans e'.symm, fun i hi => ?_⟩
    have h1 := hv i hi
    have h2 := hv' i (by omega)
    rw [h1] at h2
    exact Option.some.inj h2
  | t x =>
    obtain ⟨e, hv⟩ := h
    obtain ⟨e', hv'⟩ := h'
    refine ⟨e.trans e'.symm, fun i hi => ?_⟩
    obtain ⟨c, h1, h2⟩ := hv i hi
    obtain ⟨c', h3, h4⟩ := hv' i (by omega)
    rw [h1] at h3; cases h3
    rw [h2, h4]
theorem Src.lt {src : Src} {n : Nat} {f : Nat → V} (I : Inv X pins σ H s) (h : src.at X.K H n f) : ∀ a, src = .l a → a < s.heap.objs.size := fun a e => by
  subst e
  obtain ⟨vs, q, _, _⟩ := h
  obtain ⟨its, _, p, _⟩ := I.list q
  exact p.lt
theorem turn_enumN {P : Program} {w : World} {K : PySem.W.Frag} {elts : List Expr} {kk : Nat} {tpos : Pos} (src : Src) (tk : Tok) (e it : Addr) (hne : e ≠ it) (ha : ∀ a, src = .l a → a ≠ it ∧ a ≠ e) :
    Turn P w K (.Tuple elts kk tpos) (ItN K src) [e, it] e (fun i h => (∃ old, IsEnum h e it (0 + (i : Int)) old) ∧ src.own tk it i h) where
  mem := by simp
  obj := fun i h st b hb => by
    have eb : b = e ∨ b = it := by simpa using hb
    obtain ⟨⟨old, he⟩, ho⟩ := st
    rcases eb with rfl | rfl
    · exact ⟨_, he, fun v z => nomatch z⟩
    · exact Src.own_obj ho
  keep := fun i h h' st k => by
    obtain ⟨⟨old, he⟩, ho⟩ := st
    exact ⟨⟨old, k e (by simp) _ he⟩, Src.own_at ho fun ob q => k it (by simp) ob q⟩
  item := by
    intro X hP hw hK hc i pins s σ H E I hf st hg
    subst hP hw hK
    obtain ⟨⟨old, he⟩, ho⟩ := st
    obtain ⟨n, f, hat, hi⟩ := hg
    have hh := I.ok.hd hc
    obtain ⟨S⟩ := srcD (it := it) (tk := tk) I hh hat (.inr trivial) (fun a ea => (ha a ea).1) (Src.lt I hat) X.A.in1 hh
    have hle : e < s.heap.objs.size := Heap.lt_size he
    have hef : e ∉ S.fp := fun z => by
      by_cases q : e = it
      · exact hne q
      · rcases S.oth e z q with h1 | ⟨a, e1, e2⟩
        · exact h1 ((hf e (by simp)).1)
        · exact (ha a e1).2 e2.symm
    have W := WalksT.enumFrom (A := X.A) 0 S.D e hne hef S.mem
    refine W.item i s _ _ hi ⟨⟨old, he⟩, S.get i s.heap (fun b o _ q => q) ho⟩ fun T vals h' tk' hP hT0 hT hm hk => ?_
    obtain ⟨t, u, hu, rfl⟩ := hP
    have hwr : ∀ b : Addr, b ∉ [e, it] → ∀ o, s.heap.get? b = some o → h'.get? b = some o := fun b hb o q => hk b o hb q
    refine ⟨_, rfl, W.go elts kk tpos i T { s with heap := h', toks := tk' } _ _ hm fun h'' st'' hk'' => ?_⟩
    have hTt : IsTup h'' T #[.int (0 + (i : Int)) t, u] := by
      obtain ⟨o, e1, e2, e3⟩ := hT
      refine ⟨o, hk'' T o (fun z => ?_) e1, e2, e3⟩
      have zz : T = e ∨ T = it := by simpa using z
      rcases zz with rfl | rfl
      · exact Nat.lt_irrefl _ (Nat.lt_of_lt_of_le hle hT0)
      · exact Nat.lt_irrefl _ (Nat.lt_of_lt_of_le (Heap.lt_size (Src.own_obj ho).choose_spec.1) hT0)
    have rel : RelV (f i) u := S.rel i u hi hu
    have new : ObjOk X.prog X.w (upd H T (.tup [.int (i : Nat), f i])) h'' T (.tup [.int (i : Nat), f i]) :=
      ⟨by show 2 ≤ sizeLine; decide, [.int (0 + (i : Int)) t, u], .cons ⟨t, by rw [Int.zero_add]⟩ (.cons rel .nil), hTt⟩
    have I1 : Inv X pins σ (upd H T (.tup [.int (i : Nat), f i])) { s with heap := h'', toks := tk' } :=
      I.turnedNew (ch := [e, it]) (fun b o hb q => hk'' b o hb (hk b o hb q)) hf hT0 new
    refine ⟨.ref T, _, I1, rfl, ⟨T, f i, rfl, I.hok.fresh hT0, rfl, fun n' f' h'' => (Src.at_inj I hat h'').2 i hi⟩, ⟨st''.1, S.put _ _ st''.2⟩, fun b hb => ?_⟩
    have hlt : b < s.heap.objs.size := by
      have eb : b = e ∨ b = it := by simpa using hb
      rcases eb with rfl | rfl
      · exact hle
      · exact Heap.lt_size (Src.own_obj ho).choose_spec.1
    rw [upd_ne (Nat.ne_of_lt (Nat.lt_of_lt_of_le hlt hT0))]
    exact (hf b hb).1
  done := by
    intro X hP hw hK hc i pins s σ H E I hf st hg
    subst hP hw hK
    obtain ⟨⟨old, he⟩, ho⟩ := st
    obtain ⟨f, hat⟩ := hg
    have hh := I.ok.hd hc
    obtain ⟨S⟩ := srcD (it := it) (tk := tk) I hh hat (.inr trivial) (fun a ea => (ha a ea).1) (Src.lt I hat) X.A.in1 hh
    have hef : e ∉ S.fp := fun z => by
      by_cases q : e = it
      · exact hne q
      · rcases S.oth e z q with h1 | ⟨a, e1, e2⟩
        · exact h1 ((hf e (by simp)).1)
        · exact (ha a e1).2 e2.symm
    have W := WalksT.enumFrom (A := X.A) 0 S.D e hne hef S.mem
    exact W.done s _ _ ⟨⟨old, he⟩, S.get i s.heap (fun b o _ q => q) ho⟩ fun h' tk' hk => ⟨rfl, I.turnedL (ch := [e, it]) (fun b o hb q => hk b o hb q) hf⟩
  self := fun A i s Q E st h => by
    obtain ⟨⟨old, he⟩, _⟩ := st
    exact wpAny_pyIter_enum he h
theorem pi_enumN {X : Cx} {e : Expr} {ta : TA} {p pos tpos : Pos} {elts : List Expr} {kk : Nat} (hg : Gl X "enumerate") (hm : X.mg "enumerate" = none) (ha : PA X [e] ta) (hs : starEach [e] X.env = [(false, eval e X.env)]) :
    PI X (.Tuple elts kk tpos) (.Call (.Name "enumerate" p) [e] [] pos) (fun σ H R => ta σ H fun vs H1 => ∃ src n f, vs = [src.v] ∧ src.at X.K H1 n f ∧ R (ItN X.K src) H1) := by
  refine ⟨fun pins s σ H R I h => ?_⟩
  refine Call_ (ld_blt I hg hm boot_enumerate (PyProof.Rows.callWith_type1 (thn (ha.run pos pins s σ H _ I h) fun us s1 ⟨vs, H1, I1, r1, q1⟩ => ?_) hs rfl))
  obtain ⟨src, n, f, ex, hat, q⟩ := q1
  subst ex
  cases r1 with
  | cons r rr =>
    cases rr
    have fin : ∀ (h' : Heap) (tk : Tok), IsEnum h' (s1.heap.objs.size + 1) s1.heap.objs.size 0 .none → src.own tk s1.heap.objs.size 0 h' → (∀ b o, s1.heap.get? b = some o → h'.get? b = some o) →
        PIE X pins σ (.Tuple elts kk tpos) R (.ref (s1.heap.objs.size + 1)) { s1 with heap := h' } := fun h' tk he ho hk => by
      have I2 : Inv X pins σ H1 { s1 with heap := h' } := I1.kept (t' := s1.toks) hk
      refine ⟨s1.heap.objs.size + 1, [s1.heap.objs.size + 1, s1.heap.objs.size], _, _, H1, rfl, I2, turn_enumN src tk (s1.heap.objs.size + 1) s1.heap.objs.size (Nat.succ_ne_self _) fun a ea => ?_, ⟨⟨.none, he⟩, ho⟩, fun b hb => ?_, q⟩
      · have := Src.lt I1 hat a ea
        exact ⟨Nat.ne_of_lt this, Nat.ne_of_lt (Nat.lt_succ_of_lt this)⟩
      · have eb : b = s1.heap.objs.size + 1 ∨ b = s1.heap.objs.size := by simpa using hb
        have hle : s1.heap.objs.size ≤ b := by
          rcases eb with z | z
          · rw [z]; exact Nat.le_succ _
          · rw [z]; exact Nat.le_refl _
        exact I1.fpOk hle (I1.hok.fresh hle)
    cases src with
    | l a =>
      cases (show _ = Value.ref a from r)
      obtain ⟨vs, hq, _, _⟩ := id hat
      obtain ⟨its, rv, p', hz⟩ := I1.list hq
      exact call_enumerate_list p'.isList fun h' he hit hsz hk => wpAny_pyIter_enum he (fin h' 0 he hit hk)
    | t x =>
      obtain ⟨tk, rfl⟩ := r
      exact call_enumerate_str fun h' he hit hsz hk => wpAny_pyIter_enum he (fin h' tk he hit hk)
/-- pairs of what both draw -/
def ItZ (K : PySem.W.Frag) (s1 s2 : Src) : L2.It :=
  ⟨fun i H => ∃ n1 f1 n2 f2, s1.at K H n1 f1 ∧ s2.at K H n2 f2 ∧ i < n1 ∧ i < n2,
    fun i H v H' => ∃ T x y, v = .ref T ∧ H T = none ∧ H' = upd H T (.tup [x, y]) ∧ (∀ n f, s1.at K H n f → x = f i) ∧ ∀ n f, s2.at K H n f → y = f i,
    fun i H => ∃ n1 f1 n2 f2, s1.at K H n1 f1 ∧ s2.at K H n2 f2 ∧ i = min n1 n2⟩
theorem turn_zipN {P : Program} {w : World} {K : PySem.W.Frag} {elts : List Expr} {kk : Nat} {tpos : Pos} (s1 s2 : Src) (t1 t2 : Tok) (N : Nat) (ha1 : ∀ a, s1 = .l a → a < N) (ha2 : ∀ a, s2 = .l a → a < N) :
    Turn P w K (.Tuple elts kk tpos) (ItZ K s1 s2) [N + 4, N + 2, N + 3, N, N + 1] (N + 4 : Nat) (fun i h => IsZip h (N + 4 : Nat) (N + 2 : Nat) (N + 3 : Nat) .none ∧ IsTupOf2 h (N + 2 : Nat) (.ref N) (.ref (N + 1 : Nat)) ∧ (∃ a1 a2, IsTupOf2 h (N + 3 : Nat) a1 a2) ∧ s1.own t1 N i h ∧ s2.own t2 (N + 1 : Nat) i h) where
  mem := by simp
  obj := fun i h st b hb => by
    obtain ⟨hz, hT, ⟨a1, a2, hO⟩, o1, o2⟩ := st
    have eb : b = N + 4 ∨ b = N + 2 ∨ b = N + 3 ∨ b = N ∨ b = N + 1 := by simpa using hb
    rcases eb with rfl | rfl | rfl | rfl | rfl
    · exact ⟨_, hz, fun v z => nomatch z⟩
    · exact ⟨_, hT, fun v z => nomatch z⟩
    · exact ⟨_, hO, fun v z => nomatch z⟩
    · exact Src.own_obj o1
    · exact Src.own_obj o2
  keep := fun i h h' st k => by
    obtain ⟨hz, hT, ⟨a1, a2, hO⟩, o1, o2⟩ := st
    exact ⟨k _ (by simp) _ hz, k _ (by simp) _ hT, ⟨a1, a2, k _ (by simp) _ hO⟩, Src.own_at o1 fun ob q => k _ (by simp) ob q, Src.own_at o2 fun ob q => k _ (by simp) ob q⟩
  item := by
    intro X hP hw hK hc i pins s σ H E I hf st hg
    subst hP hw hK
    obtain ⟨hz, hT, hO, o1, o2⟩ := st
    obtain ⟨n1, f1, n2, f2, at1, at2, hi1, hi2⟩ := hg
    have hh := I.ok.hd hc
    obtain ⟨S1⟩ := srcD (it := (N : Nat)) (tk := t1) I hh at1 (.inr trivial) (fun a ea => Nat.ne_of_lt (ha1 a ea)) (Src.lt I at1) X.A.in1 hh
    obtain ⟨S2⟩ := srcD (it := (N + 1 : Nat)) (tk := t2) I hh at2 (.inr trivial) (fun a ea => Nat.ne_of_lt (Nat.lt_succ_of_lt (ha2 a ea))) (Src.lt I at2) X.A.in1 hh
    have in1 : ∀ b : Nat, b ∈ [N + 4, N + 2, N + 3, N, N + 1] → b ≠ N → b ∉ S1.fp := fun b hb hn z => by
      rcases S1.oth b z hn with h1 | ⟨a, e1, e2⟩
      · exact h1 (hf b hb).1
      · have h3 := ha1 a e1
        have h4 : (b : Nat) < N := by rw [e2]; exact h3
        have eb : b = N + 4 ∨ b = N + 2 ∨ b = N + 3 ∨ b = N ∨ b = N + 1 := by simpa using hb
        omega
    have in2 : ∀ b : Nat, b ∈ [N + 4, N + 2, N + 3, N, N + 1] → b ≠ N + 1 → b ∉ S2.fp := fun b hb hn z => by
      rcases S2.oth b z hn with h1 | ⟨a, e1, e2⟩
      · exact h1 (hf b hb).1
      · have h3 := ha2 a e1
        have h4 : (b : Nat) < N := by rw [e2]; exact h3
        have eb : b = N + 4 ∨ b = N + 2 ∨ b = N + 3 ∨ b = N ∨ b = N + 1 := by simpa using hb
        omega
    have Z : ZipSep2 (N + 4 : Nat) (N + 2 : Nat) (N + 3 : Nat) N (N + 1 : Nat) S1.fp S2.fp :=
      { TIz := show (N + 2 : Nat) ≠ N + 4 by omega, TOz := show (N + 3 : Nat) ≠ N + 4 by omega, TITO := show (N + 2 : Nat) ≠ N + 3 by omega, TIi1 := show (N + 2 : Nat) ≠ N by omega, mem1 := S1.mem,
        zf1 := in1 _ (by simp) (by omega), Tf1 := in1 _ (by simp) (by omega), TIi2 := show (N + 2 : Nat) ≠ N + 1 by omega, mem2 := S2.mem, zf2 := in2 _ (by simp) (by omega), Tf2 := in2 _ (by simp) (by omega),
        sep1_2 := in2 _ (by simp) (by omega), sep2_1 := in1 _ (by simp) (by omega) }
    have W := WalksT.zipD2 (A := X.A) Z S1.D S2.D
    refine W.item i s _ _ (by omega) ⟨hz, hT, hO, S1.get i s.heap (fun b o _ q => q) o1, S2.get i s.heap (fun b o _ q => q) o2⟩ fun T vals h' tk' hP hT0 hTt hm hk => ?_
    obtain ⟨u1, u2, hu1, hu2, rfl⟩ := hP
    have lt4 : ∀ b : Nat, b ∈ [N + 4, N + 2, N + 3, N, N + 1] → b < s.heap.objs.size := fun b hb => by
      obtain ⟨a1, a2, hO'⟩ := hO
      have eb : b = N + 4 ∨ b = N + 2 ∨ b = N + 3 ∨ b = N ∨ b = N + 1 := by simpa using hb
      rcases eb with rfl | rfl | rfl | rfl | rfl
      · exact Heap.lt_size hz
      · exact Heap.lt_size hT
      · exact Heap.lt_size hO'
      · exact Heap.lt_size (Src.own_obj o1).choose_spec.1
      · exact Heap.lt_size (Src.own_obj o2).choose_spec.1
    refine ⟨_, rfl, W.go elts kk tpos i T { s with heap := h', toks := tk' } _ _ hm fun h'' st'' hk'' => ?_⟩
    have hTt2 : IsTup h'' T #[u1, u2] := by
      obtain ⟨o, e1, e2, e3⟩ := hTt
      refine ⟨o, hk'' T o (fun z => ?_) e1, e2, e3⟩
      have zz : T = (N + 4 : Nat) ∨ T = (N + 3 : Nat) ∨ T = N ∨ T = (N + 1 : Nat) := by simpa using z
      have : T < s.heap.objs.size := by
        rcases zz with e | e | e | e <;> (rw [e]; exact lt4 _ (by simp))
      exact Nat.lt_irrefl _ (Nat.lt_of_lt_of_le this hT0)
    have new : ObjOk X.prog X.w (upd H T (.tup [f1 i, f2 i])) h'' T (.tup [f1 i, f2 i]) :=
      ⟨by show 2 ≤ sizeLine; decide, [u1, u2], .cons (S1.rel i u1 hi1 hu1) (.cons (S2.rel i u2 hi2 hu2) .nil), hTt2⟩
    have I1 : Inv X pins σ (upd H T (.tup [f1 i, f2 i])) { s with heap := h'', toks := tk' } := by
      refine I.turnedNew (ch := [N + 4, N + 2, N + 3, N, N + 1]) (fun b o hb q => hk'' b o (fun z => hb ?_) (hk b o (fun z => hb ?_) q)) hf hT0 new
      · simp only [List.mem_cons, List.not_mem_nil, or_false] at z ⊢
        rcases z with z | z | z | z
        · exact .inl z
        · exact .inr (.inr (.inl z))
        · exact .inr (.inr (.inr (.inl z)))
        · exact .inr (.inr (.inr (.inr z)))
      · simp only [List.mem_cons, List.not_mem_nil, or_false] at z ⊢
        rcases z with z | z | z | z
        · exact .inl z
        · exact .inr (.inr (.inl z))
        · exact .inr (.inr (.inr (.inl z)))
        · exact .inr (.inr (.inr (.inr z)))
    refine ⟨.ref T, _, I1, rfl, ⟨T, f1 i, f2 i, rfl, I.hok.fresh hT0, rfl, fun n' f' h3 => (Src.at_inj I at1 h3).2 i hi1, fun n' f' h3 => (Src.at_inj I at2 h3).2 i hi2⟩, ⟨st''.1, st''.2.1, st''.2.2.1, S1.put _ _ st''.2.2.2.1, S2.put _ _ st''.2.2.2.2⟩, fun b hb => ?_⟩
    rw [upd_ne (Nat.ne_of_lt (Nat.lt_of_lt_of_le (lt4 b hb) hT0))]
    exact (hf b hb).1
  done := by
    intro X hP hw hK hc i pins s σ H E I hf st hg
    subst hP hw hK
    obtain ⟨hz, hT, hO, o1, o2⟩ := st
    obtain ⟨n1, f1, n2, f2, at1, at2, hi⟩ := hg
    have hh := I.ok.hd hc
    obtain ⟨S1⟩ := srcD (it := (N : Nat)) (tk := t1) I hh at1 (.inr trivial) (fun a ea => Nat.ne_of_lt (ha1 a ea)) (Src.lt I at1) X.A.in1 hh
    obtain ⟨S2⟩ := srcD (it := (N + 1 : Nat)) (tk := t2) I hh at2 (.inr trivial) (fun a ea => Nat.ne_of_lt (Nat.lt_succ_of_lt (ha2 a ea))) (Src.lt I at2) X.A.in1 hh
    have in1 : ∀ b : Nat, b ∈ [N + 4, N + 2, N + 3, N, N + 1] → b ≠ N → b ∉ S1.fp := fun b hb hn z => by
      rcases S1.oth b z hn with h1 | ⟨a, e1, e2⟩
      · exact h1 (hf b hb).1
      · have h3 := ha1 a e1
        have h4 : (b : Nat) < N := by rw [e2]; exact h3
        have eb : b = N + 4 ∨ b = N + 2 ∨ b = N + 3 ∨ b = N ∨ b = N + 1 := by simpa using hb
        omega
    have in2 : ∀ b : Nat, b ∈ [N + 4, N + 2, N + 3, N, N + 1] → b ≠ N + 1 → b ∉ S2.fp := fun b hb hn z => by
      rcases S2.oth b z hn with h1 | ⟨a, e1, e2⟩
      · exact h1 (hf b hb).1
      · have h3 := ha2 a e1
        have h4 : (b : Nat) < N := by rw [e2]; exact h3
        have eb : b = N + 4 ∨ b = N + 2 ∨ b = N + 3 ∨ b = N ∨ b = N + 1 := by simpa using hb
        omega
    have Z : ZipSep2 (N + 4 : Nat) (N + 2 : Nat) (N + 3 : Nat) N (N + 1 : Nat) S1.fp S2.fp :=
      { TIz := show (N + 2 : Nat) ≠ N + 4 by omega, TOz := show (N + 3 : Nat) ≠ N + 4 by omega, TITO := show (N + 2 : Nat) ≠ N + 3 by omega, TIi1 := show (N + 2 : Nat) ≠ N by omega, mem1 := S1.mem,
        zf1 := in1 _ (by simp) (by omega), Tf1 := in1 _ (by simp) (by omega), TIi2 := show (N + 2 : Nat) ≠ N + 1 by omega, mem2 := S2.mem, zf2 := in2 _ (by simp) (by omega), Tf2 := in2 _ (by simp) (by omega),
        sep1_2 := in2 _ (by simp) (by omega), sep2_1 := in1 _ (by simp) (by omega) }
    have W := WalksT.zipD2 (A := X.A) Z S1.D S2.D
    subst hi
    refine W.done s _ _ ⟨hz, hT, hO, S1.get _ s.heap (fun b o _ q => q) o1, S2.get _ s.heap (fun b o _ q => q) o2⟩ fun h' tk' hk => ⟨rfl, I.turnedL (ch := [N + 4, N + 2, N + 3, N, N + 1]) (fun b o hb q => hk b o (fun z => hb ?_) q) hf⟩
    simp only [List.mem_cons, List.not_mem_nil, or_false] at z ⊢
    rcases z with z | z | z | z
    · exact .inl z
    · exact .inr (.inr (.inl z))
    · exact .inr (.inr (.inr (.inl z)))
    · exact .inr (.inr (.inr (.inr z)))
  self := fun A i s Q E st h => wpAny_pyIter_zip st.1 h
theorem pi_zipN {X : Cx} {e e2 : Expr} {ta : TA} {p pos tpos : Pos} {elts : List Expr} {kk : Nat} (hg : Gl X "zip") (hm : X.mg "zip" = none) (ha : PA X [e, e2] ta)
    (hs : starEach [e, e2] X.env = (false, eval e X.env) :: starEach [e2] X.env) (hpl : (backTo pos (starEach [e2] X.env)).any (·.1) = false) :
    PI X (.Tuple elts kk tpos) (.Call (.Name "zip" p) [e, e2] [] pos) (fun σ H R => ta σ H fun vs H1 => ∃ s1 s2 n1 f1 n2 f2, vs = [s1.v, s2.v] ∧ s1.at X.K H1 n1 f1 ∧ s2.at X.K H1 n2 f2 ∧ R (ItZ X.K s1 s2) H1) := by
  refine ⟨fun pins s σ H R I h => ?_⟩
  refine Call_ (ld_blt I hg hm PyProof.Rows.boot_zip (PyProof.Rows.callWith_type1 (thn (ha.run pos pins s σ H _ I h) fun us s1 ⟨vs, H1, I1, r1, q1⟩ => ?_) hs hpl))
  obtain ⟨z1, z2, n1, f1, n2, f2, ex, at1, at2, q⟩ := q1
  subst ex
  cases r1 with
  | cons r rr =>
    cases rr with
    | cons r' rr =>
      cases rr
      have key : ∀ {src : Src} {n : Nat} {f : Nat → V} {u : Value}, src.at X.K H1 n f → RelV src.v u → ∃ (tk : Tok) (o : Obj) (Hc : Heap → Prop), Begins u o Hc ∧ Hc s1.heap ∧ ∀ (it : Addr) (h' : Heap), h'.get? it = some o → src.own tk it 0 h' := by
        intro src n f u hat ru
        cases src with
        | l a =>
          cases (show _ = Value.ref a from ru)
          obtain ⟨vs, hq, _, _⟩ := hat
          obtain ⟨its, _, p, _⟩ := I1.list hq
          exact ⟨0, _, _, begins_list a its.toArray, p.isList, fun it h' e => ⟨_, e, rfl, rfl⟩⟩
        | t x =>
          obtain ⟨tk, rfl⟩ := ru
          exact ⟨tk, _, _, begins_text x tk, trivial, fun it h' e => ⟨_, e, rfl, rfl⟩⟩
      obtain ⟨t1, ob1, Hc1, B1, b1, own1⟩ := key at1 r
      obtain ⟨t2, ob2, Hc2, B2, b2, own2⟩ := key at2 r'
      refine zip_begins2 B1 B2 b1 b2 fun h' hz hT hO h1 h2 hsz hk => wpAny_pyIter_zip hz ?_
      have I2 : Inv X pins σ H1 { s1 with heap := h' } := I1.kept (t' := s1.toks) hk
      refine ⟨s1.heap.objs.size + 4, _, _, _, H1, rfl, I2, turn_zipN z1 z2 t1 t2 s1.heap.objs.size (Src.lt I1 at1) (Src.lt I1 at2), ⟨hz, hT, ⟨_, _, hO⟩, own1 _ _ h1, own2 _ _ h2⟩, fun b hb => ?_, q⟩
      have eb : b = s1.heap.objs.size + 4 ∨ b = s1.heap.objs.size + 2 ∨ b = s1.heap.objs.size + 3 ∨ b = s1.heap.objs.size ∨ b = s1.heap.objs.size + 1 := by simpa using hb
      have hle : s1.heap.objs.size ≤ b := by
        rcases eb with z | z | z | z | z
        · rw [z]; exact Nat.le_add_right _ _
        · rw [z]; exact Nat.le_add_right _ _
        · rw [z]; exact Nat.le_add_right _ _
        · rw [z]; exact Nat.le_refl _
        · rw [z]; exact Nat.le_add_right _ _
      exact I1.fpOk hle (I1.hok.fresh hle)
end
end FT

set_option Elab.async false
set_option linter.all false
set_option maxRecDepth 100000
set_option autoImplicit false
set_option maxHeartbeats 2000000
namespace FT
open PySem PySem.Spec PyProof.Rows L2
section
variable {g : G} {b : BF} {Γ : Nat → Option Con} {c : Cfg} {X : Cx}
/-! ### what is walked, as data -/
structure WalkD (g : G) (items : List D) (ok : Hp → Hp → Prop) (J : L2.It) : Prop where
  go : ∀ i F H, ok F H → i < items.length → J.go i H
  stop : ∀ F H, ok F H → J.stop items.length H
  yld : ∀ i F H x H', ok F H → Same F H → J.yld i H x H' → i < items.length → ∃ d, items[i]? = some d ∧ ((H' = H ∧ Rep g F d x) ∨ ∃ T o, H T = none ∧ H' = upd H T o ∧ Rep g (upd F T o) d x)
/-- iter(e) of a list, a tuple, a text -/
theorem pi_val {tg e : Expr} {te : TE} (he : PE X e te) : PI X tg e (fun σ H R => te σ H fun v H1 => (∃ a xs, v = .ref a ∧ SqL X.K H1 a xs ∧ R (Itl X.K a) H1) ∨ (∃ a xs, v = .ref a ∧ SqT X.K H1 a xs ∧ R (Itt X.K a) H1) ∨ ∃ x, v = .str x ∧ R (Its x) H1) := by
  refine ⟨fun pins s σ H R I h => thn (he.run pins s σ H _ I h) fun v s1 ⟨x, H1, I1, r1, q1⟩ => ?_⟩
  have cell : ∀ ob : Obj, ∀ bb ∈ [s1.heap.objs.size], FpOk X pins H1 bb := fun ob bb hb => by
    have e : bb = s1.heap.objs.size := by simpa using hb
    rw [e]
    exact I1.fpOk (Nat.le_refl _) (I1.hok.fresh (Nat.le_refl _))
  have grown : ∀ (ob : Obj), Inv X pins σ H1 { s1 with heap := s1.heap.push ob } := fun ob => I1.kept (t' := s1.toks) fun bb o eb => Heap.get?_push_of_some _ eb
  rcases q1 with ⟨a, xs, e, hq, q⟩ | ⟨a, xs, e, hq, q⟩ | ⟨z, e, q⟩
  · subst e
    cases r1
    obtain ⟨its, rv, p, hz⟩ := I1.list hq
    exact wpAny_pyIter_list p.isList ⟨s1.heap.objs.size, [s1.heap.objs.size], _, Itl X.K a, H1, rfl, grown _, turn_list a _, ⟨_, Heap.get?_push_size _ rfl, rfl, rfl⟩, cell default, q⟩
  · subst e
    cases r1
    obtain ⟨its, rv, p, hz⟩ := I1.tuple hq
    exact wpAny_pyIter_tuple (show s1.heap.IsTuple a its.toArray from p) ⟨s1.heap.objs.size, [s1.heap.objs.size], _, Itt X.K a, H1, rfl, grown _, turn_tuple a _, ⟨_, Heap.get?_push_size _ rfl, rfl, rfl⟩, cell default, q⟩
  · subst e
    obtain ⟨t, rfl⟩ := r1
    cases ha : z.cps.all (· < 128)
    · exact wpAny_pyIter_wide ha (pi_one (tk := s1.toks) I1 _ (turn_str _ z t "str_iterator" (.inr rfl)) ⟨_, Heap.get?_push_size _ rfl, rfl, rfl⟩ q)
    · exact wpAny_pyIter_ascii ha (pi_one (tk := s1.toks) I1 _ (turn_str _ z t "str_ascii_iterator" (.inl rfl)) ⟨_, Heap.get?_push_size _ rfl, rfl, rfl⟩ q)
theorem walk_lst {K : PySem.W.Frag} {a : Addr} {items : List D} : WalkD g items (fun F H => ∃ vs, H a = some (.lst vs) ∧ RepL g F items vs) (Itl K a) where
  go := fun i F H ⟨vs, e, r⟩ hi => by
    have hi' : i < vs.length := by rw [r.len]; exact hi
    exact ⟨vs, vs[i], .of e, List.getElem?_eq_getElem hi'⟩
  stop := fun F H ⟨vs, e, r⟩ => ⟨vs, .of e, Nat.le_of_eq r.len⟩
  yld := fun i F H x H' ⟨vs, e, r⟩ _ ⟨e1, h⟩ hi => by
    obtain ⟨d, e2, q⟩ := r.nth (h vs (.of e))
    exact ⟨d, e2, .inl ⟨e1, q⟩⟩
theorem walk_tup {K : PySem.W.Frag} {a : Addr} {items : List D} : WalkD g items (fun F H => ∃ vs, H a = some (.tup vs) ∧ RepL g F items vs) (Itt K a) where
  go := fun i F H ⟨vs, e, r⟩ hi => by
    have hi' : i < vs.length := by rw [r.len]; exact hi
    exact ⟨vs, vs[i], .of e, List.getElem?_eq_getElem hi'⟩
  stop := fun F H ⟨vs, e, r⟩ => ⟨vs, .of e, Nat.le_of_eq r.len⟩
  yld := fun i F H x H' ⟨vs, e, r⟩ _ ⟨e1, h⟩ hi => by
    obtain ⟨d, e2, q⟩ := r.nth (h vs (.of e))
    exact ⟨d, e2, .inl ⟨e1, q⟩⟩
theorem signs_len (x : Str) : (signs x).length = x.cps.size := by
  unfold signs
  rw [List.length_map, Array.length_toList]
theorem signs_get {x : Str} {i c : Nat} (h : x.cps[i]? = some c) : (signs x)[i]? = some (.str ⟨#[c]⟩) := by
  unfold signs
  rw [List.getElem?_map, Array.getElem?_toList, h]; rfl
theorem rep_sign {F : Hp} {x : Str} {i c : Nat} (hx : x.cps.all (· < 0x110000) = true) (h : x.cps[i]? = some c) : Rep g F (.str ⟨#[c]⟩) (.str ⟨#[c]⟩) := by
  refine ⟨rfl, by show 1 ≤ sizeLine; decide, ?_⟩
  have := Array.all_eq_true_iff_forall_mem.mp hx c (Array.mem_of_getElem? h)
  simpa using this
theorem walk_str {x : Str} (hx : x.cps.all (· < 0x110000) = true) : WalkD g (signs x) (fun _ _ => True) (Its x) where
  go := fun i F H _ hi => by rw [signs_len] at hi; exact hi
  stop := fun F H _ => by
    show x.cps.size ≤ (signs x).length
    rw [signs_len]; exact Nat.le_refl _
  yld := fun i F H v H' _ _ ⟨e1, c, e2, e3⟩ hi => by
    subst e3
    exact ⟨_, signs_get e2, .inl ⟨e1, rep_sign hx e2⟩⟩
theorem walk_rng {lo : Int} {n : Nat} : WalkD g ((List.range n).map fun i => .int (lo + (i : Nat))) (fun _ _ => True) (Itr lo n) where
  go := fun i F H _ hi => by rw [List.length_map, List.length_range] at hi; exact hi
  stop := fun F H _ => by
    show n ≤ _
    rw [List.length_map, List.length_range]; exact Nat.le_refl _
  yld := fun i F H v H' _ _ ⟨e1, e2⟩ hi => by
    rw [List.length_map, List.length_range] at hi
    subst e2
    exact ⟨.int (lo + (i : Nat)), by rw [List.getElem?_map, List.getElem?_range hi]; rfl, .inl ⟨e1, rfl⟩⟩
/-- a source as data -/
def SrcD (g : G) (F H : Hp) (l : List D) (s : Src) : Prop := match s with
  | .l a => ∃ vs, H a = some (.lst vs) ∧ RepL g F l vs
  | .t x => l = signs x ∧ x.cps.all (· < 0x110000) = true
theorem SrcD.at {F H : Hp} {l : List D} {s : Src} {K : PySem.W.Frag} (h : SrcD g F H l s) : ∃ f, s.at K H l.length f ∧ ∀ i, i < l.length → ∃ d, l[i]? = some d ∧ Rep g F d (f i) := by
  cases s with
  | l a =>
    obtain ⟨vs, e, r⟩ := h
    refine ⟨fun i => vs.getD i .non, ⟨vs, .of e, r.len.symm, fun i hi => ?_⟩, fun i hi => ?_⟩
    · have hi' : i < vs.length := by rw [r.len]; exact hi
      show vs[i]? = some (vs.getD i .non)
      rw [List.getD_eq_getElem?_getD, List.getElem?_eq_getElem hi']; rfl
    · have hi' : i < vs.length := by rw [r.len]; exact hi
      obtain ⟨d, e1, q⟩ := r.nth (List.getElem?_eq_getElem hi')
      refine ⟨d, e1, ?_⟩
      show Rep g F d (vs.getD i .non)
      rw [List.getD_eq_getElem?_getD, List.getElem?_eq_getElem hi']; exact q
  | t x =>
    obtain ⟨rfl, hx⟩ := h
    refine ⟨fun i => .str ⟨#[x.cps.getD i 0]⟩, ⟨signs_len x, fun i hi => ?_⟩, fun i hi => ?_⟩
    all_goals
      rw [signs_len] at hi
      have e0 : x.cps[i]? = some x.cps[i] := Array.getElem?_eq_getElem hi
      have e1 : x.cps.getD i 0 = x.cps[i] := by rw [Array.getD_eq_getD_getElem?, e0]; rfl
    · exact ⟨x.cps[i], e0, by dsimp only; rw [e1]⟩
    · refine ⟨_, signs_get e0, ?_⟩
      dsimp only
      rw [e1]
      exact rep_sign hx e0
theorem rep_two {F : Hp} {T : Addr} {d1 d2 : D} {x y : V} (fp : F T = none) (q1 : Rep g F d1 x) (q2 : Rep g F d2 y) : Rep g (upd F T (.tup [x, y])) (.tup [d1, d2]) (.ref T) :=
  ⟨T, [x, y], rfl, upd_same, by show 2 ≤ sizeLine; decide, x, [y], rfl, q1.mono (same_upd fp), y, [], rfl, q2.mono (same_upd fp), rfl⟩
theorem walk_enum {K : PySem.W.Frag} {s : Src} {l : List D} : WalkD g (l.zipIdx.map fun p => .tup [.int (p.2 : Nat), p.1]) (fun F H => SrcD g F H l s) (ItN K s) where
  go := fun i F H h hi => by
    rw [List.length_map, List.length_zipIdx] at hi
    obtain ⟨f, h1, h2⟩ := h.at (K := K)
    exact ⟨_, f, h1, hi⟩
  stop := fun F H h => by
    rw [List.length_map, List.length_zipIdx]
    obtain ⟨f, h1, h2⟩ := h.at (K := K)
    exact ⟨f, h1⟩
  yld := fun i F H v H' h sub ⟨T, x, e1, e2, e3, e4⟩ hi => by
    rw [List.length_map, List.length_zipIdx] at hi
    obtain ⟨f, h1, h2⟩ := h.at (K := K)
    obtain ⟨d, e5, q⟩ := h2 i hi
    have e6 := e4 _ f h1
    subst e1
    subst e6
    refine ⟨.tup [.int (i : Nat), d], ?_, .inr ⟨T, _, e2, e3, rep_two (sub.free e2) rfl q⟩⟩
    rw [List.getElem?_map, List.getElem?_zipIdx, e5]
    simp
theorem walk_zip {K : PySem.W.Frag} {s1 s2 : Src} {l1 l2 : List D} : WalkD g ((l1.zip l2).map fun p => .tup [p.1, p.2]) (fun F H => SrcD g F H l1 s1 ∧ SrcD g F H l2 s2) (ItZ K s1 s2) where
  go := fun i F H ⟨h, k⟩ hi => by
    rw [List.length_map, List.length_zip] at hi
    obtain ⟨f, h1, h2⟩ := h.at (K := K)
    obtain ⟨f', k1, k2⟩ := k.at (K := K)
    exact ⟨_, f, _, f', h1, k1, by omega, by omega⟩
  stop := fun F H ⟨h, k⟩ => by
    rw [List.length_map, List.length_zip]
    obtain ⟨f, h1, h2⟩ := h.at (K := K)
    obtain ⟨f', k1, k2⟩ := k.at (K := K)
    exact ⟨_, f, _, f', h1, k1, rfl⟩
  yld := fun i F H v H' ⟨h, k⟩ sub ⟨T, x, y, e1, e2, e3, e4, e5⟩ hi => by
    rw [List.length_map, List.length_zip] at hi
    obtain ⟨f, h1, h2⟩ := h.at (K := K)
    obtain ⟨f', k1, k2⟩ := k.at (K := K)
    obtain ⟨d, e6, q⟩ := h2 i (by omega)
    obtain ⟨d', e7, q'⟩ := k2 i (by omega)
    have e8 := e4 _ f h1
    have e9 := e5 _ f' k1
    subst e1
    subst e8
    subst e9
    refine ⟨.tup [d, d'], ?_, .inr ⟨T, _, e2, e3, rep_two (sub.free e2) q q'⟩⟩
    rw [List.getElem?_map, List.getElem?_zip_eq_some (z := (d, d')) |>.mpr ⟨e6, e7⟩]; rfl
end
end FT

set_option Elab.async false
set_option linter.all false
set_option maxRecDepth 100000
set_option autoImplicit false
set_option maxHeartbeats 2000000
namespace FT
open PySem PySem.Spec PyProof.Rows L2
section
variable {g : G} {b : BF} {Γ : Nat → Option Con} {c : Cfg} {X : Cx}
/-! ### iterables -/
def OkAt (g : G) (F1 : Hp) (ρ1 : List Sl) (σ : L2.St) (s : Option Nat) (ok : Hp → Hp → Prop) : Prop := match s with
  | none => ∀ F H, Same F1 F → Same F H → ok F H
  | some i => ∃ d d' v, VR g F1 σ (some i) d v ∧ cur (some i) d ρ1 = some d' ∧ ∀ F H, Same F H → RdV g F H d' v → ok F H
theorem OkAt.still {F1 F H : Hp} {ρ1 ρ2 : List Sl} {σ : L2.St} {s : Option Nat} {ok : Hp → Hp → Prop} (h : OkAt g F1 ρ1 σ s ok) (sub : Same F1 F) (S : SR g F ρ2 σ H) (st : still s ρ1 ρ2) : ok F H := by
  cases s with
  | none => exact h F H sub S.sub
  | some i =>
    obtain ⟨d, d', v, r, cc, h⟩ := h
    refine h F H S.sub (S.rd (r.mono sub) (d' := d') ?_)
    have st : ρ2[i]? = ρ1[i]? := st
    unfold cur at cc ⊢
    dsimp only at cc ⊢
    rw [st]; exact cc
theorem OkAt.frz {F1 H1 : Hp} {ρ1 : List Sl} {σ : L2.St} {s : Option Nat} {ok : Hp → Hp → Prop} (h : OkAt g F1 ρ1 σ s ok) (S : SR g F1 ρ1 σ H1) : ∃ F', SR g F' (FT.frz s ρ1) σ H1 ∧ Stp ρ1 σ F1 H1 (FT.frz s ρ1) σ F' H1 ∧ ∀ F H, Same F' F → Same F H → ok F H := by
  cases s with
  | none => exact ⟨F1, S, .refl, h⟩
  | some i =>
    obtain ⟨d, d', v, r, cc, h⟩ := h
    obtain ⟨F2, S2, T2, q2⟩ := S.frz r cc
    exact ⟨F2, S2, T2, fun F H s1 s2 => h F H s2 (Rep.rd s2 (q2.mono s1))⟩
def PostI (g : G) (ρ : List Sl) (σ : L2.St) (F H : Hp) (Q : List D → Option Nat → List Sl → Prop) (R : L2.It → Hp → Prop) : Prop :=
  ∀ items s ρ1 F1 H1 J ok, Q items s ρ1 → Stp ρ σ F H ρ1 σ F1 H1 → SR g F1 ρ1 σ H1 → items.length ≤ sizeLine → WalkD g items ok J → OkAt g F1 ρ1 σ s ok → R J H1
def SndI (g : G) (b : BF) (Γ : Nat → Option Con) (c : Cfg) (it : It) (tg x : Expr) : Prop := ∀ X, CfgOk g b Γ X c → ∀ ρ Q, wI Γ it ρ Q → ∀ F σ H R, SR g F ρ σ H → PostI g ρ σ F H Q R → OkI X tg x σ H R
theorem snd_ival {e : E} {tg x : Expr} (he : SndE g b Γ c e x) : SndI g b Γ c (.val e) tg x := by
  intro X C ρ Q h F σ H R S P
  unfold wI at h
  refine ⟨_, pi_val (peK x), he X C ρ _ h F σ H _ S fun d s ρ1 F1 v H1 q T S1 r => ?_⟩
  obtain ⟨d1, c1, q⟩ := bnd_some q
  obtain ⟨l, el, q⟩ := bnd_some q
  have rv := S1.rd r c1
  have lift : ∀ (ok : Hp → Hp → Prop), (∀ F H, Same F H → RdV g F H d1 v → ok F H) → OkAt g F1 ρ1 σ s ok := fun ok hk => by
    cases s with
    | none => cases c1; exact fun F H s1 s2 => hk F H s2 (Rep.rd s2 (Rep.mono s1 r))
    | some i => exact ⟨d, d1, v, r, c1, hk⟩
  cases d1 with
  | lst ds =>
    cases el
    obtain ⟨a, vs, rfl, e1, l1, q1⟩ := rv
    refine .inl ⟨a, vs, rfl, .of e1, P _ s ρ1 F1 H1 _ _ q T S1 l1 walk_lst (lift _ fun F H _ ⟨a', vs', e, e', _, r'⟩ => ?_)⟩
    cases e
    exact ⟨vs', e', r'⟩
  | tup ds =>
    cases el
    obtain ⟨a, vs, rfl, e1, l1, q1⟩ := rv
    refine .inr (.inl ⟨a, vs, rfl, .of (S1.sub _ _ e1), P _ s ρ1 F1 H1 _ _ q T S1 l1 walk_tup (lift _ fun F H sub ⟨a', vs', e, e', _, r'⟩ => ?_)⟩)
    cases e
    exact ⟨vs', sub _ _ e', r'⟩
  | str z =>
    cases el
    obtain ⟨rfl, l1, hx⟩ := rv
    exact .inr (.inr ⟨z, rfl, P _ s ρ1 F1 H1 _ _ q T S1 (by rw [signs_len]; exact l1) (walk_str hx) (lift _ fun _ _ _ _ => trivial)⟩)
  | _ => cases el
theorem OkAt.any {F1 : Hp} {ρ1 : List Sl} {σ : L2.St} {ok : Hp → Hp → Prop} (h : ∀ F H, Same F1 F → Same F H → ok F H) : OkAt g F1 ρ1 σ none ok := h
theorem snd_irng1 {a : E} {y : Str} {tg x : Expr} {p pos : Pos} (hy : y = "range") (hg : c.bt y = true) (ha : SndE g b Γ c a x) (hs : notStar x = true) : SndI g b Γ c (.rng1 a) tg (.Call (.Name y p) [x] [] pos) := by
  subst hy
  intro X C ρ Q h F σ H R S P
  unfold wI at h
  obtain ⟨g1, g2, _, _⟩ := C.bt hg
  refine ⟨_, pi_range1 g1 g2 (pa_cons (peK x) pa_nil (star1 hs)) (star1 hs), ha X C ρ _ h F σ H _ S fun d s ρ1 F1 v H1 q T S1 r => ?_⟩
  cases d with
  | int j =>
    have hv : v = .int j := r.rep rfl
    subst hv
    dsimp only at q
    cases hj : decide (0 ≤ j) && decide (j ≤ 1000000) with
    | false => rw [hj] at q; exact q.elim
    | true =>
      rw [hj] at q
      simp only [Bool.and_eq_true, decide_eq_true_eq] at hj
      refine ⟨j, rfl, by omega, by omega, ?_⟩
      have e2 : ((List.range j.toNat).map fun i => D.int (i : Nat)) = (List.range j.toNat).map fun i => D.int (0 + (i : Nat)) := List.map_congr_left fun i _ => by rw [Int.zero_add]
      refine P _ none ρ1 F1 H1 _ (fun _ _ => True) q T S1 ?_ ?_ (.any fun _ _ _ _ => trivial)
      · rw [List.length_map, List.length_range]
        have : (1000000 : Nat) ≤ sizeLine := by decide
        omega
      · rw [e2]; exact walk_rng
  | _ => exact q.elim
theorem snd_irng2 {a d : E} {y : Str} {tg x z : Expr} {p pos : Pos} (hy : y = "range") (hg : c.bt y = true) (ha : SndE g b Γ c a x) (hs : notStar x = true) (hb : SndE g b Γ c d z) (hs2 : notStar z = true) : SndI g b Γ c (.rng2 a d) tg (.Call (.Name y p) [x, z] [] pos) := by
  subst hy
  intro X C ρ Q h F σ H R S P
  unfold wI at h
  obtain ⟨g1, g2, _, _⟩ := C.bt hg
  have s2 : starEach [z] X.env = [(false, eval z X.env)] := star1 hs2
  have s1 : starEach [x, z] X.env = [(false, eval x X.env), (false, eval z X.env)] := by rw [star1 hs, s2]
  refine ⟨_, pi_range2 g1 g2 (pa_cons (peK x) (pa_cons (peK z) pa_nil (star1 hs2)) (star1 hs)) s1 s2, ?_⟩
  refine ha X C ρ _ h F σ H _ S fun d1 t1 ρ1 F1 v H1 q T S1 r1 => ?_
  refine hb X C ρ1 _ q F1 σ H1 _ S1 fun d2 t2 ρ2 F2 w H2 q T2 S2 r2 => ?_
  cases d1 with
  | int i =>
    cases d2 with
    | int j =>
      have hv : v = .int i := r1.rep rfl
      have hw : w = .int j := r2.rep rfl
      subst hv hw
      dsimp only at q
      cases hj : decide (0 ≤ i) && decide (i ≤ 1000000) && decide (0 ≤ j) && decide (j ≤ 1000000) with
      | false => rw [hj] at q; exact q.elim
      | true =>
        rw [hj] at q
        simp only [Bool.and_eq_true, decide_eq_true_eq] at hj
        refine ⟨i, j, rfl, ⟨by omega, by omega, by omega, by omega⟩, ?_⟩
        refine P _ none ρ2 F2 H2 _ (fun _ _ => True) q (T.trans T2) S2 ?_ walk_rng (.any fun _ _ _ _ => trivial)
        rw [List.length_map, List.length_range]
        have : (1000000 : Nat) ≤ sizeLine := by decide
        omega
    | _ => exact q.elim
  | _ => exact q.elim
theorem iterS_src {F : Hp} {d : D} {l : List D} {v : V} (h : iterS d = some l) (r : Rep g F d v) : ∃ s : Src, v = s.v ∧ l.length ≤ sizeLine ∧ ∀ F' H, Same F F' → Same F' H → SrcD g F' H l s := by
  cases d with
  | lst ds =>
    cases h
    obtain ⟨a, vs, rfl, e, l1, q⟩ := r
    exact ⟨.l a, rfl, l1, fun F' H s1 s2 => ⟨vs, s2 _ _ (s1 _ _ e), q.mono s1⟩⟩
  | str x =>
    cases h
    obtain ⟨rfl, l1, hx⟩ := r
    exact ⟨.t x, rfl, by rw [signs_len]; exact l1, fun _ _ _ _ => ⟨rfl, hx⟩⟩
  | _ => cases h
theorem snd_ienum {e : E} {y : Str} {x : Expr} {p pos tpos : Pos} {elts : List Expr} {kk : Nat} (hy : y = "enumerate") (hg : c.bt y = true) (he : SndE g b Γ c e x) (hs : notStar x = true) : SndI g b Γ c (.enum e) (.Tuple elts kk tpos) (.Call (.Name y p) [x] [] pos) := by
  subst hy
  intro X C ρ Q h F σ H R S P
  unfold wI at h
  obtain ⟨g1, g2, _, _⟩ := C.bt hg
  refine ⟨_, pi_enumN g1 g2 (pa_cons (peK x) pa_nil (star1 hs)) (star1 hs), he X C ρ _ h F σ H _ S fun d s ρ1 F1 v H1 q T S1 r => ?_⟩
  obtain ⟨d1, c1, q⟩ := bnd_some q
  obtain ⟨l, el, q⟩ := bnd_some q
  obtain ⟨F2, S2, T2, q2⟩ := S1.frz r c1
  obtain ⟨src, rfl, hl, hsrc⟩ := iterS_src el q2
  obtain ⟨f, h1, h2⟩ := (hsrc F2 H1 (.refl _) S2.sub).at (K := X.K)
  exact ⟨src, _, f, rfl, h1, P _ none _ F2 H1 _ _ q (T.trans T2) S2 (by rw [List.length_map, List.length_zipIdx]; exact hl) walk_enum (.any hsrc)⟩
theorem snd_izip {e e2 : E} {y : Str} {x x2 : Expr} {p pos tpos : Pos} {elts : List Expr} {kk : Nat} (hy : y = "zip") (hg : c.bt y = true) (he : SndE g b Γ c e x) (hs : notStar x = true) (he2 : SndE g b Γ c e2 x2) (hs2 : notStar x2 = true) :
    SndI g b Γ c (.zip e e2) (.Tuple elts kk tpos) (.Call (.Name y p) [x, x2] [] pos) := by
  subst hy
  intro X C ρ Q h F σ H R S P
  unfold wI at h
  obtain ⟨g1, g2, _, _⟩ := C.bt hg
  have s2 : starEach [x2] X.env = [(false, eval x2 X.env)] := star1 hs2
  refine ⟨_, pi_zipN g1 g2 (pa_cons (peK x) (pa_cons (peK x2) pa_nil (star1 hs2)) (star1 hs)) (star1 hs) (by rw [s2]; rfl), ?_⟩
  refine he X C ρ _ h F σ H _ S fun d1 t1 ρ1 F1 v H1 q T S1 r1 => ?_
  refine he2 X C ρ1 _ q F1 σ H1 _ S1 fun d2 t2 ρ2 F2 w H2 q T2 S2 r2 => ?_
  obtain ⟨e1, c1, q⟩ := bnd_some q
  obtain ⟨e2, c2, q⟩ := bnd_some q
  obtain ⟨l1, m1, q⟩ := bnd_some q
  obtain ⟨l2, m2, q⟩ := bnd_some q
  obtain ⟨F3, S3, T3, q3⟩ := S2.frz (r1.mono T2.sub) c1
  obtain ⟨F4, S4, T4, q4⟩ := S3.frz (r2.mono T3.sub) (by rw [cur_frz]; exact c2)
  obtain ⟨src1, rfl, hl1, h1⟩ := iterS_src m1 (q3.mono T4.sub)
  obtain ⟨src2, rfl, hl2, h2⟩ := iterS_src m2 q4
  obtain ⟨f1, a1, _⟩ := (h1 F4 H2 (.refl _) S4.sub).at (K := X.K)
  obtain ⟨f2, a2, _⟩ := (h2 F4 H2 (.refl _) S4.sub).at (K := X.K)
  refine ⟨src1, src2, _, f1, _, f2, rfl, a1, a2, P _ none _ F4 H2 _ _ q (((T.trans T2).trans T3).trans T4) S4 ?_ walk_zip (.any fun F H s1 s2 => ⟨h1 F H s1 s2, h2 F H s1 s2⟩)⟩
  rw [List.length_map, List.length_zip]
  omega
/-! ### a clause's tests -/
def OkC (X : Cx) (xs : List Expr) (σ : L2.St) (H : Hp) (K : Bool → Hp → Prop) : Prop := ∃ t, PTs X xs t ∧ t σ H K
theorem ptsK (x : List Expr) : PTs X x (OkC X x) := ⟨fun pins s σ H Q I ⟨t, p, h⟩ => p.run pins s σ H Q I h⟩
def SndC (g : G) (b : BF) (Γ : Nat → Option Con) (c : Cfg) (e : O) (xs : List Expr) : Prop := ∀ X, CfgOk g b Γ X c → ∀ ρ (Q : Bool → List Sl → Prop), wC Γ e ρ Q → ∀ F σ H K, SR g F ρ σ H →
  (∀ k ρ' F' H', Q k ρ' → Stp ρ σ F H ρ' σ F' H' → SR g F' ρ' σ H' → K k H') → OkC X xs σ H K
theorem snd_cno : SndC g b Γ c .no [] := fun X C ρ Q h F σ H K S P => ⟨_, pts_nil, P true ρ F H h .refl S⟩
theorem snd_cso {e : E} {x : Expr} (he : SndT g b Γ c e x) : SndC g b Γ c (.so e) [x] := by
  intro X C ρ Q h F σ H K S P
  unfold wC at h
  refine ⟨_, pts_one (ptK x), he X C ρ _ h F σ H _ S (fun d s ρ' q => let ⟨k, e, _⟩ := wE_bl q; ⟨k, e⟩) fun k s ρ1 F1 H1 q T S1 => P k ρ1 F1 H1 q T S1⟩
/-! ### targets -/
theorem wipe_get (σ : L2.St) (i : Nat) : ∀ vs : List Nat, (L2.wipe σ vs)[i]? = if i ∈ vs then (if i < σ.length then some none else none) else σ[i]?
  | [] => by simp [L2.wipe]
  | v :: vs => by
    unfold L2.wipe
    by_cases z : v = i
    · subst z
      rw [if_pos List.mem_cons_self]
      by_cases hl : v < σ.length
      · rw [List.getElem?_set_self (by rw [wipe_length]; exact hl), if_pos hl]
      · rw [if_neg hl, List.getElem?_eq_none (by rw [List.length_set, wipe_length]; omega)]
    · rw [List.getElem?_set_ne z, wipe_get σ i vs]
      have : i ∈ v :: vs ↔ i ∈ vs := by
        simp only [List.mem_cons]
        exact ⟨fun h => h.resolve_left fun e => z e.symm, .inr⟩
      simp only [this]
theorem wipe_set {σ : L2.St} {own : List Nat} {i : Nat} {x : Option V} (h : i ∈ own) : L2.wipe (σ.set i x) own = L2.wipe σ own := by
  apply List.ext_getElem?
  intro j
  rw [wipe_get, wipe_get, List.length_set]
  by_cases z : j ∈ own
  · rw [if_pos z, if_pos z]
  · rw [if_neg z, if_neg z, List.getElem?_set_ne fun e => z (by rw [← e]; exact h)]
/-- the place that is never stored to -/
def Fixd (c : Cfg) (σ σ' : L2.St) : Prop := ∀ j, j ∈ c.fix → σ'[j]? = σ[j]?
theorem Fixd.refl {c : Cfg} {σ : L2.St} : Fixd c σ σ := fun _ _ => rfl
theorem Fixd.trans {c : Cfg} {σ σ1 σ2 : L2.St} (h : Fixd c σ σ1) (k : Fixd c σ1 σ2) : Fixd c σ σ2 := fun j e => (k j e).trans (h j e)
theorem Fixd.set {c : Cfg} {σ : L2.St} {i : Nat} {x : Option V} (h : i ∉ c.fix) : Fixd c σ (σ.set i x) := fun j e => List.getElem?_set_ne fun z => h (by rw [z]; exact e)
def SndG (g : G) (b : BF) (Γ : Nat → Option Con) (c : Cfg) (t : Tg) (x : Expr) : Prop := ∀ X, CfgOk g b Γ X c → ∀ d ρ (Q : List Sl → Prop), wTg t d ρ Q → ∀ F σ H v K, SR g F ρ σ H → Rep g F d v →
  (∀ ρ' σ', Q ρ' → Stp ρ σ F H ρ' σ' F H → SR g F ρ' σ' H → (∀ own, tgIn t own = true → L2.wipe σ' own = L2.wipe σ own) → Fixd c σ σ' → K σ' H) → OkG X x v σ H K
theorem snd_gnm {i : Nat} {x : Expr} (h : chkNm c i x = true) : SndG g b Γ c (.nm i) x := by
  intro X C d ρ Q hw F σ H v K S r P
  cases x with
  | Name y p =>
    obtain ⟨h1, h2, h3, h4⟩ := C.sto (show c.sto y i = true from h)
    obtain ⟨S', T'⟩ := S.setSh (i := i) r
    refine ⟨_, pg_name C.nd h1 h2 h3, P _ _ hw T' S' (fun own ho => wipe_set ?_) (.set h4)⟩
    unfold tgIn Tg.ixs at ho
    simp only [List.all_cons, List.all_nil, Bool.and_true] at ho
    exact List.contains_iff_mem.mp ho
  | _ => cases h
def OkGs (X : Cx) (xs : List Expr) (vs : List V) (σ : L2.St) (H : Hp) (K : L2.St → Hp → Prop) : Prop := ∃ t, PGs X xs t ∧ t vs σ H K
theorem pgsK (xs : List Expr) : PGs X xs (OkGs X xs) := ⟨fun pins s σ H vs us Q I r ⟨t, p, h⟩ => p.run pins s σ H vs us Q I r h⟩
theorem snd_gnms : ∀ {l : List Nat} {xs : List Expr}, chkNms c l xs = true → ∀ X, CfgOk g b Γ X c → ∀ ds ρ (Q : List Sl → Prop), ds.length = l.length → Q (setL ρ l ds) → ∀ F σ H vs K, SR g F ρ σ H → RepL g F ds vs →
    (∀ ρ' σ', Q ρ' → Stp ρ σ F H ρ' σ' F H → SR g F ρ' σ' H → (∀ own, (∀ i ∈ l, i ∈ own) → L2.wipe σ' own = L2.wipe σ own) → Fixd c σ σ' → K σ' H) → OkGs X xs vs σ H K ∧ xs.length = l.length ∧ (assignEach xs X.env).length = l.length ∧ (assignEach xs X.env).findIdx? (·.1) = none
  | [], [], h, X, C, ds, ρ, Q, hl, hq, F, σ, H, vs, K, S, r, P => by
    cases ds with
    | nil =>
      cases (show vs = [] from r)
      exact ⟨⟨_, pgs_nil, rfl, P ρ σ hq .refl S (fun _ _ => rfl) .refl⟩, rfl, rfl, rfl⟩
    | cons _ _ => cases hl
  | [], _ :: _, h, _, _, _, _, _, _, _, _, _, _, _, _, _, _, _ => by cases h
  | _ :: _, [], h, _, _, _, _, _, _, _, _, _, _, _, _, _, _, _ => by cases h
  | i :: l, x :: xs, h, X, C, ds, ρ, Q, hl, hq, F, σ, H, vs, K, S, r, P => by
    cases ds with
    | nil => cases hl
    | cons d ds =>
      have h : (chkNm c i x && chkNms c l xs) = true := h
      rw [Bool.and_eq_true] at h
      obtain ⟨v, vr, rfl, q, r⟩ := r
      cases x with
      | Name y p =>
        obtain ⟨h1, h2, h3, h4⟩ := C.sto (show c.sto y i = true from h.1)
        obtain ⟨S', T'⟩ := S.setSh (i := i) q
        obtain ⟨k1, k2, k3, k4⟩ := snd_gnms h.2 X C ds (ρ.set i (.sh d)) Q (by simpa using hl) hq F (σ.set i (some v)) H vr K S' r fun ρ' σ' hq' T2 S2 hw hfx => P ρ' σ' hq' (T'.trans T2) S2 (fun own ho => by
          rw [hw own fun j hj => ho j (List.mem_cons_of_mem _ hj), wipe_set (ho i List.mem_cons_self)]) (.trans (.set h4) hfx)
        refine ⟨⟨_, pgs_cons (pg_name C.nd h1 h2 h3) (pgsK xs), v, vr, rfl, k1⟩, by rw [List.length_cons, List.length_cons, k2], ?_, ?_⟩
        · show ((false, _) :: assignEach xs X.env).length = _
          rw [List.length_cons, List.length_cons, k3]
        · show ((false, _) :: assignEach xs X.env).findIdx? _ = none
          rw [List.findIdx?_cons, k4]; rfl
      | _ => cases h.1
theorem snd_gtp {l : List Nat} {xs : List Expr} {k : Nat} {pos : Pos} (h : chkNms c l xs = true) : SndG g b Γ c (.tp l) (.Tuple xs k pos) := by
  intro X C d ρ Q hw F σ H v K S r P
  unfold wTg at hw
  dsimp only at hw
  cases d with
  | tup ds =>
    dsimp only at hw
    obtain ⟨hl, hw⟩ := bif_t hw
    have hl := of_decide_eq_true hl
    obtain ⟨a, vs, rfl, e, _, r⟩ := r
    obtain ⟨k1, k2, k3, k4⟩ := snd_gnms h X C ds ρ Q hl hw F σ H vs K S r fun ρ' σ' hq T S' hw' hfx => P ρ' σ' hq T S' (fun own ho => hw' own fun i hi => by
      unfold tgIn Tg.ixs at ho
      exact List.contains_iff_mem.mp (List.all_eq_true.mp ho i hi)) hfx
    exact ⟨_, pg_tup C.lk.calm (pgsK xs) k3 k4, a, vs, rfl, .of (S.sub _ _ e), by rw [r.len, hl], k1⟩
  | lst ds =>
    dsimp only at hw
    obtain ⟨hl, hw⟩ := bif_t hw
    have hl := of_decide_eq_true hl
    obtain ⟨a, vs, rfl, e, _, r⟩ := r
    obtain ⟨k1, k2, k3, k4⟩ := snd_gnms h X C ds ρ Q hl hw F σ H vs K S r fun ρ' σ' hq T S' hw' hfx => P ρ' σ' hq T S' (fun own ho => hw' own fun i hi => by
      unfold tgIn Tg.ixs at ho
      exact List.contains_iff_mem.mp (List.all_eq_true.mp ho i hi)) hfx
    exact ⟨_, pg_unl C.lk.calm (pgsK xs) k3 k4, a, vs, rfl, .of (S.sub _ _ e), by rw [r.len, hl], k1⟩
  | _ => exact hw.elim
theorem snd_g {t : Tg} {x : Expr} (h : chkTg c t x = true) : SndG g b Γ c t x := by
  unfold chkTg at h
  cases t with
  | nm i => exact snd_gnm h
  | tp l =>
    dsimp only at h
    cases x with
    | Tuple es k p => exact snd_gtp h
    | _ => cases h
/-! ### a block's own places -/
theorem wipeS_get (ρ : List Sl) (i : Nat) : ∀ vs : List Nat, (wipeS ρ vs)[i]? = if i ∈ vs then (if i < ρ.length then some .un else none) else ρ[i]?
  | [] => by simp [wipeS]
  | v :: vs => by
    have hlen : ∀ ws : List Nat, (wipeS ρ ws).length = ρ.length := fun ws => by
      induction ws with
      | nil => rfl
      | cons w ws ih => unfold wipeS; rw [List.length_set, ih]
    unfold wipeS
    by_cases z : v = i
    · subst z
      rw [if_pos List.mem_cons_self]
      by_cases hl : v < ρ.length
      · rw [List.getElem?_set_self (by rw [hlen]; exact hl), if_pos hl]
      · rw [if_neg hl, List.getElem?_eq_none (by rw [List.length_set, hlen]; omega)]
    · rw [List.getElem?_set_ne z, wipeS_get ρ i vs]
      have : i ∈ v :: vs ↔ i ∈ vs := by
        simp only [List.mem_cons]
        exact ⟨fun h => h.resolve_left fun e => z e.symm, .inr⟩
      simp only [this]
theorem wipeS_len (ρ : List Sl) : ∀ vs : List Nat, (wipeS ρ vs).length = ρ.length
  | [] => rfl
  | v :: vs => by unfold wipeS; rw [List.length_set, wipeS_len ρ vs]
theorem back_len (ρ0 ρ : List Sl) : ∀ own : List Nat, (back own ρ0 ρ).length = ρ.length
  | [] => rfl
  | v :: vs => by
    unfold back
    split
    · rw [List.length_set, back_len ρ0 ρ vs]
    · exact back_len ρ0 ρ vs
theorem back_get {ρ0 ρ : List Sl} (hl : ρ.length = ρ0.length) (i : Nat) : ∀ own : List Nat, (back own ρ0 ρ)[i]? = if i ∈ own then ρ0[i]? else ρ[i]?
  | [] => by simp [back]
  | v :: vs => by
    have ih := back_get hl i vs
    unfold back
    by_cases z : v = i
    · subst z
      rw [if_pos List.mem_cons_self]
      split
      · rename_i x e
        rw [List.getElem?_set_self (by rw [back_len, hl]; exact (List.getElem?_eq_some_iff.mp e).1), e]
      · rename_i e
        rw [e]
        exact List.getElem?_eq_none (by rw [back_len, hl]; exact List.getElem?_eq_none_iff.mp e)
    · have : i ∈ v :: vs ↔ i ∈ vs := by
        simp only [List.mem_cons]
        exact ⟨fun h => h.resolve_left fun e => z e.symm, .inr⟩
      simp only [this]
      split
      · rw [List.getElem?_set_ne z]; exact ih
      · exact ih
theorem wipeS_own {ρ : List Sl} {σ : L2.St} {own : List Nat} {i : Nat} {d : D} (h : (wipeS ρ own)[i]? = some (.ow d)) : i ∉ own ∧ ρ[i]? = some (.ow d) ∧ (L2.wipe σ own)[i]? = σ[i]? := by
  rw [wipeS_get] at h
  by_cases z : i ∈ own
  · rw [if_pos z] at h; split at h <;> cases h
  · rw [if_neg z] at h; exact ⟨z, h, wipe_out z⟩
theorem OwnA.wiped {ρ : List Sl} {σ : L2.St} {own : List Nat} {a : Addr} (h : OwnA (wipeS ρ own) (L2.wipe σ own) a) : ∃ i d, i ∉ own ∧ ρ[i]? = some (.ow d) ∧ σ[i]? = some (some (.ref a)) := by
  obtain ⟨i, d, e, es⟩ := h
  obtain ⟨h1, h2, h3⟩ := wipeS_own (σ := σ) e
  exact ⟨i, d, h1, h2, by rw [← h3]; exact es⟩
theorem SR.wipe {ρ : List Sl} {σ : L2.St} {F H : Hp} (own : List Nat) (S : SR g F ρ σ H) : SR g F (wipeS ρ own) (L2.wipe σ own) H := by
  refine ⟨S.sub, by rw [wipeS_len, wipe_length]; exact S.len, fun i d e => ?_, fun i d e => ?_, fun i j d d' a ei ej es et => ?_⟩
  · rw [wipeS_get] at e
    by_cases z : i ∈ own
    · rw [if_pos z] at e; split at e <;> cases e
    · rw [if_neg z] at e; rw [wipe_out z]; exact S.sh i d e
  · obtain ⟨h1, h2, h3⟩ := wipeS_own (σ := σ) e
    rw [h3]; exact S.ow i d h2
  · obtain ⟨h1, h2, h3⟩ := wipeS_own (σ := σ) ei
    obtain ⟨k1, k2, k3⟩ := wipeS_own (σ := σ) ej
    rw [h3] at es; rw [k3] at et
    exact S.inj i j d d' a h2 k2 es et
theorem SR.back {ρ2 ρ5 : List Sl} {σ σ3 : L2.St} {F H F5 H5 : Hp} {own : List Nat} (S : SR g F ρ2 σ H) (T : Stp (wipeS ρ2 own) (L2.wipe σ own) F H ρ5 σ3 F5 H5) (S5 : SR g F5 ρ5 σ3 H5) (hw : L2.wipe σ3 own = L2.wipe σ own) :
    SR g F5 (FT.back own ρ2 ρ5) σ H5 ∧ Stp ρ2 σ F H (FT.back own ρ2 ρ5) σ F5 H5 := by
  have hl : ρ5.length = ρ2.length := by
    rw [S5.len, S.len, ← wipe_length σ3 own, hw, wipe_length]
  have out : ∀ i, i ∉ own → σ[i]? = σ3[i]? := fun i z => by rw [← wipe_out (σ := σ) z, ← wipe_out (σ := σ3) z, hw]
  have inw : ∀ i d a, i ∈ own → ρ2[i]? = some (.ow d) → σ[i]? = some (some (.ref a)) → ¬ OwnA (wipeS ρ2 own) (L2.wipe σ own) a := fun i d a hi e es z => by
    obtain ⟨j, d', h1, h2, h3⟩ := z.wiped
    have := S.inj i j d d' a e h2 es h3
    exact h1 (this ▸ hi)
  have kept : ∀ i d, i ∈ own → ρ2[i]? = some (.ow d) → ∃ a o, σ[i]? = some (some (V.ref a)) ∧ F5 a = none ∧ H5 a = some o ∧ H a = some o ∧ RepO g F5 d o := fun i d hi e => by
    obtain ⟨a, o, e1, e2, e3, q⟩ := S.ow i d e
    have no := inw i d a hi e e1
    refine ⟨a, o, e1, ?_, T.keep a o e3 no, e3, q.mono T.sub⟩
    cases z : F5 a with
    | none => rfl
    | some y =>
      rcases T.newF a (by rw [z]; exact fun q => nomatch q) with q | q | q
      · exact absurd e2 q
      · rw [e3] at q; cases q
      · exact absurd q no
  refine ⟨⟨S5.sub, by rw [back_len, hl, S.len], fun i d e => ?_, fun i d e => ?_, fun i j d d' a ei ej es et => ?_⟩, ⟨T.sub, fun a o h n => T.keep a o h fun z => n ?_, fun a h => ?_, fun a h => ?_, T.grow⟩⟩
  · rw [back_get hl] at e
    by_cases z : i ∈ own
    · rw [if_pos z] at e
      obtain ⟨v, e1, q⟩ := S.sh i d e
      exact ⟨v, e1, q.mono T.sub⟩
    · rw [if_neg z] at e
      rw [out i z]; exact S5.sh i d e
  · rw [back_get hl] at e
    by_cases z : i ∈ own
    · rw [if_pos z] at e
      obtain ⟨a, o, h1, h2, h3, _, h4⟩ := kept i d z e
      exact ⟨a, o, h1, h2, h3, h4⟩
    · rw [if_neg z] at e
      rw [out i z]; exact S5.ow i d e
  · rw [back_get hl] at ei ej
    have cross : ∀ i j d d', i ∈ own → j ∉ own → ρ2[i]? = some (.ow d) → ρ5[j]? = some (.ow d') → σ[i]? = some (some (.ref a)) → σ[j]? = some (some (.ref a)) → False := fun i j d d' hi hj e1 e2 e3 e4 => by
      obtain ⟨a', o, h1, h2, h3, h4, _⟩ := kept i d hi e1
      rw [e3] at h1; cases h1
      rcases T.own a ⟨j, d', e2, by rw [← out j hj]; exact e4⟩ with z | z
      · exact inw i d a hi e1 e3 z
      · rw [h4] at z; cases z
    by_cases zi : i ∈ own
    · rw [if_pos zi] at ei
      by_cases zj : j ∈ own
      · rw [if_pos zj] at ej
        exact S.inj i j d d' a ei ej es et
      · rw [if_neg zj] at ej
        exact (cross i j d d' zi zj ei ej es et).elim
    · rw [if_neg zi] at ei
      by_cases zj : j ∈ own
      · rw [if_pos zj] at ej
        exact (cross j i d' d zj zi ej ei et es).elim
      · rw [if_neg zj] at ej
        exact S5.inj i j d d' a ei ej (by rw [← out i zi]; exact es) (by rw [← out j zj]; exact et)
  · obtain ⟨i, d, _, h2, h3⟩ := z.wiped
    exact ⟨i, d, h2, h3⟩
  · rcases T.newF a h with z | z | z
    · exact .inl z
    · exact .inr (.inl z)
    · obtain ⟨i, d, _, h2, h3⟩ := z.wiped
      exact .inr (.inr ⟨i, d, h2, h3⟩)
  · obtain ⟨i, d, e, es⟩ := h
    rw [back_get hl] at e
    by_cases z : i ∈ own
    · rw [if_pos z] at e; exact .inl ⟨i, d, e, es⟩
    · rw [if_neg z] at e
      rcases T.own a ⟨i, d, e, by rw [← out i z]; exact es⟩ with q | q
      · obtain ⟨j, d', _, h2, h3⟩ := q.wiped
        exact .inl ⟨j, d', h2, h3⟩
      · exact .inr q
/-! ### an object that nobody's slot has -/
theorem Stp.hid {ρ ρ' : List Sl} {σ σ' : L2.St} {F H F' H' : Hp} {D : Addr} {o : HO} (T : Stp ρ σ F H ρ' σ' F' H') (hD : H D = some o) (fD : F D = none) (no : ¬ OwnA ρ σ D) : H' D = some o ∧ F' D = none ∧ ¬ OwnA ρ' σ' D := by
  refine ⟨T.keep D o hD no, ?_, fun z => ?_⟩
  · cases z : F' D with
    | none => rfl
    | some y =>
      rcases T.newF D (by rw [z]; exact fun q => nomatch q) with q | q | q
      · exact absurd fD q
      · rw [hD] at q; cases q
      · exact absurd q no
  · rcases T.own D z with q | q
    · exact no q
    · rw [hD] at q; cases q
theorem SR.hid {ρ : List Sl} {σ : L2.St} {F H : Hp} {D : Addr} (o : HO) (S : SR g F ρ σ H) (fD : F D = none) (no : ¬ OwnA ρ σ D) : SR g F ρ σ (upd H D o) := by
  refine ⟨fun z o' hz => ?_, S.len, S.sh, fun i d e => ?_, S.inj⟩
  · have : z ≠ D := fun e => by subst e; rw [fD] at hz; cases hz
    rw [upd_ne this]; exact S.sub _ _ hz
  · obtain ⟨a, o', e1, e2, e3, r⟩ := S.ow i d e
    have : a ≠ D := fun z => no ⟨i, d, e, by rw [← z]; exact e1⟩
    exact ⟨a, o', e1, e2, by rw [upd_ne this]; exact e3, r⟩
theorem Stp.upd {ρ ρ' : List Sl} {σ σ' : L2.St} {F H F' H' : Hp} {D : Addr} (o : HO) (T : Stp ρ σ F H ρ' σ' F' H') (h0 : H D = none) : Stp ρ σ F H ρ' σ' F' (L2.upd H' D o) := by
  refine ⟨T.sub, fun a o' ha hn => ?_, T.newF, T.own, fun a ha => ?_⟩
  · have : a ≠ D := fun e => by subst e; rw [h0] at ha; cases ha
    rw [upd_ne this]; exact T.keep a o' ha hn
  · by_cases e : a = D
    · subst e; exact h0
    · rw [upd_ne e] at ha; exact T.grow a ha
end
end FT

set_option Elab.async false
set_option linter.all false
set_option maxRecDepth 100000
set_option autoImplicit false
set_option maxHeartbeats 2000000
namespace FT
open PySem PySem.Spec PyProof.Rows L2
/-- a heap without one object -/
def del (H : Hp) (D : Addr) : Hp := fun a => if a = D then none else H a
theorem del_self {H : Hp} {D : Addr} : del H D D = none := if_pos rfl
theorem del_ne {H : Hp} {D a : Addr} (h : a ≠ D) : del H D a = H a := if_neg h
theorem del_some {H : Hp} {D a : Addr} {o : HO} (h : del H D a = some o) : a ≠ D ∧ H a = some o := by
  by_cases e : a = D
  · subst e; rw [del_self] at h; cases h
  · rw [del_ne e] at h; exact ⟨e, h⟩
theorem del_none {H : Hp} {D : Addr} (h : H D = none) : del H D = H := by
  funext a
  by_cases e : a = D
  · subst e; rw [del_self, h]
  · rw [del_ne e]
theorem del_upd {H : Hp} {D : Addr} {o : HO} : del (upd H D o) D = del H D := by
  funext a
  by_cases e : a = D
  · subst e; rw [del_self, del_self]
  · rw [del_ne e, del_ne e, upd_ne e]
theorem del_of_none {H : Hp} {D a : Addr} (h : H a = none) : del H D a = none := by
  by_cases e : a = D
  · subst e; exact del_self
  · rw [del_ne e]; exact h
section
variable {g : G} {b : BF} {Γ : Nat → Option Con} {c : Cfg} {X : Cx}
theorem SR.undel {ρ : List Sl} {σ : L2.St} {F H : Hp} {D : Addr} (S : SR g F ρ σ (del H D)) : SR g F ρ σ H := by
  refine ⟨fun a o h => (del_some (S.sub a o h)).2, S.len, S.sh, fun i d e => ?_, S.inj⟩
  obtain ⟨a, o, e1, e2, e3, r⟩ := S.ow i d e
  exact ⟨a, o, e1, e2, (del_some e3).2, r⟩
theorem SR.del {ρ : List Sl} {σ : L2.St} {F H : Hp} {D : Addr} (S : SR g F ρ σ H) (fD : F D = none) (no : ¬ OwnA ρ σ D) : SR g F ρ σ (FT.del H D) := by
  refine ⟨fun a o h => ?_, S.len, S.sh, fun i d e => ?_, S.inj⟩
  · have : a ≠ D := fun e => by subst e; rw [fD] at h; cases h
    rw [del_ne this]; exact S.sub a o h
  · obtain ⟨a, o, e1, e2, e3, r⟩ := S.ow i d e
    have : a ≠ D := fun z => no ⟨i, d, e, by rw [← z]; exact e1⟩
    exact ⟨a, o, e1, e2, by rw [del_ne this]; exact e3, r⟩
theorem Stp.del {ρ ρ' : List Sl} {σ σ' : L2.St} {F H F' H' : Hp} (D : Addr) (T : Stp ρ σ F H ρ' σ' F' H') : Stp ρ σ F (FT.del H D) ρ' σ' F' (FT.del H' D) := by
  refine ⟨T.sub, fun a o h n => ?_, fun a h => ?_, fun a h => ?_, fun a h => ?_⟩
  · obtain ⟨e, h⟩ := del_some h
    rw [del_ne e]; exact T.keep a o h n
  · rcases T.newF a h with z | z | z
    · exact .inl z
    · exact .inr (.inl (del_of_none z))
    · exact .inr (.inr z)
  · rcases T.own a h with z | z
    · exact .inl z
    · exact .inr (del_of_none z)
  · by_cases e : a = D
    · subst e; exact del_self
    · rw [del_ne e] at h ⊢; exact T.grow a h
theorem Stp.undel {ρ ρ' : List Sl} {σ σ' : L2.St} {F H F' H' : Hp} {D : Addr} (T : Stp ρ σ F H ρ' σ' F' (FT.del H' D)) : Stp ρ σ F H ρ' σ' F' H' :=
  ⟨T.sub, fun a o h n => (del_some (T.keep a o h n)).2, T.newF, T.own, fun a h => T.grow a (del_of_none h)⟩
/-- the states while an object is filled of which no slot knows -/
structure Bun (g : G) (F : Hp) (ρ : List Sl) (σ : L2.St) (H : Hp) (D : Addr) (o : HO) : Prop where
  hD : H D = some o
  S : SR g F ρ σ (del H D)
theorem Bun.fD {ρ : List Sl} {σ : L2.St} {F H : Hp} {D : Addr} {o : HO} (B : Bun g F ρ σ H D o) : F D = none := B.S.sub.free del_self
theorem Bun.no {ρ : List Sl} {σ : L2.St} {F H : Hp} {D : Addr} {o : HO} (B : Bun g F ρ σ H D o) : ¬ OwnA ρ σ D := fun z => B.S.own_some D z del_self
theorem Bun.step {ρ ρ' : List Sl} {σ σ' : L2.St} {F H F' H' : Hp} {D : Addr} {o : HO} (B : Bun g F ρ σ H D o) (T : Stp ρ σ F H ρ' σ' F' H') (S' : SR g F' ρ' σ' H') : Bun g F' ρ' σ' H' D o := by
  obtain ⟨h1, h2, h3⟩ := T.hid B.hD B.fD B.no
  exact ⟨h1, S'.del h2 h3⟩
theorem Bun.write {ρ : List Sl} {σ : L2.St} {F H : Hp} {D : Addr} {o : HO} (B : Bun g F ρ σ H D o) (o' : HO) : Bun g F ρ σ (upd H D o') D o' := ⟨upd_same, by rw [del_upd]; exact B.S⟩
/-- what a turn draws -/
theorem WalkD.draw {items : List D} {ok : Hp → Hp → Prop} {J : L2.It} (W : WalkD g items ok J) {ρ : List Sl} {σ : L2.St} {F H : Hp} {i : Nat} {x : V} {H' : Hp} (S : SR g F ρ σ H) (hok : ok F H) (y : J.yld i H x H') (hi : i < items.length) :
    ∃ d F', items[i]? = some d ∧ SR g F' ρ σ H' ∧ Stp ρ σ F H ρ σ F' H' ∧ Rep g F' d x := by
  obtain ⟨d, ed, ⟨rfl, q⟩ | ⟨T, o, h1, rfl, q⟩⟩ := W.yld i F H x H' hok S.sub y hi
  · exact ⟨d, F, ed, S, .refl, q⟩
  · obtain ⟨S', T'⟩ := S.newF (o := o) h1
    exact ⟨d, _, ed, S', T', q⟩
theorem CfgOk.inner (C : CfgOk g b Γ X c) {s : Scope} {own : List Nat} (h : c.block s own = true) :
    BlkOk X.N X.env.scope s (ownL c.N own) ∧ (ownL c.N own).map (·.2) = own ∧ ∀ s0 H0 C0 cl fp, CfgOk g b Γ (X.blk s0 H0 s (compEnvC s cl C0 X.env) fp) (c.inner s) := by
  unfold Cfg.block at h
  simp only [Bool.and_eq_true, decide_eq_true_eq] at h
  have hb := blkOk_by h.1
  refine ⟨by rw [C.N, C.sc]; exact hb, h.2, fun s0 H0 C0 cl fp => ?_⟩
  refine ⟨⟨C.lk.prog, C.lk.w, C.lk.K, C.lk.mg, C.lk.base, C.lk.A, C.lk.calm, rfl⟩, C.N, C.nd, ?_, hb.kind, C.e, C.gd, ?_⟩
  · show relabel s X.env = relS s c.sc
    rw [← C.sc]; rfl
  · show (∀ x, s.names.lookup x = some .cell → (s.names.lookup x == some .cell) = true) ∧ ∀ x, s.names.lookup x = some .local → (relS s c.sc).names.lookup x = some .local
    exact ⟨fun x e => by rw [e]; rfl, fun x e => lookup_relS_keep (by decide) e⟩
def gB (X : Cx) (s : Scope) (tg : Expr) : TG := fun v σ H Q => ∀ s0 H0 C0 cl fp, OkG (X.blk s0 H0 s (compEnvC s cl C0 X.env) fp) tg v σ H Q
def tB' (X : Cx) (s : Scope) (ifs : List Expr) : TT := fun σ H Q => ∀ s0 H0 C0 cl fp, OkC (X.blk s0 H0 s (compEnvC s cl C0 X.env) fp) ifs σ H Q
def eB (X : Cx) (s : Scope) (e : Expr) : TE := fun σ H Q => ∀ s0 H0 C0 cl fp, OkE (X.blk s0 H0 s (compEnvC s cl C0 X.env) fp) e σ H Q
def iB (X : Cx) (s : Scope) (tg e : Expr) : TI := fun σ H Q => ∀ s0 H0 C0 cl fp, OkI (X.blk s0 H0 s (compEnvC s cl C0 X.env) fp) tg e σ H Q
theorem gB_ok {s : Scope} {tg : Expr} (s0 : Shared) (H0 : Hp) (C0 : Addr) (cl : List (Str × Addr)) (fp : List Addr) : PG (X.blk s0 H0 s (compEnvC s cl C0 X.env) fp) tg (gB X s tg) := ⟨fun pins st σ H v u Q I r h => (pgK tg).run pins st σ H v u Q I r (h s0 H0 C0 cl fp)⟩
theorem tB_ok {s : Scope} {ifs : List Expr} (s0 : Shared) (H0 : Hp) (C0 : Addr) (cl : List (Str × Addr)) (fp : List Addr) : PTs (X.blk s0 H0 s (compEnvC s cl C0 X.env) fp) ifs (tB' X s ifs) := ⟨fun pins st σ H Q I h => (ptsK ifs).run pins st σ H Q I (h s0 H0 C0 cl fp)⟩
theorem eB_ok {s : Scope} {e : Expr} (s0 : Shared) (H0 : Hp) (C0 : Addr) (cl : List (Str × Addr)) (fp : List Addr) : PE (X.blk s0 H0 s (compEnvC s cl C0 X.env) fp) e (eB X s e) := ⟨fun pins st σ H Q I h => (peK e).run pins st σ H Q I (h s0 H0 C0 cl fp)⟩
theorem iB_ok {s : Scope} {tg e : Expr} (s0 : Shared) (H0 : Hp) (C0 : Addr) (cl : List (Str × Addr)) (fp : List Addr) : PI (X.blk s0 H0 s (compEnvC s cl C0 X.env) fp) tg e (iB X s tg e) := ⟨fun pins st σ H Q I h => (piK tg e).run pins st σ H Q I (h s0 H0 C0 cl fp)⟩
theorem wipe_wipe (σ : L2.St) (own : List Nat) : L2.wipe (L2.wipe σ own) own = L2.wipe σ own := by
  apply List.ext_getElem?
  intro i
  rw [wipe_get (L2.wipe σ own), wipe_get σ, wipe_length]
  split <;> rfl
/-- the loop of [e for t in .. if d], whatever is walked -/
def LcQ (Γ : Nat → Option Con) (own : List Nat) (t : Tg) (d : O) (e : E) (Q : D → Option Nat → List Sl → Prop) (items : List D) (s : Option Nat) (ρ1 : List Sl) : Prop := ∃ I : Nat → List D → List Sl → Prop, I 0 [] ρ1 ∧
      (∀ k x acc ρ2, items[k]? = some x → I k acc ρ2 → still s ρ1 ρ2 ∧ wTg t x (wipeS ρ2 own) fun ρ3 => wC Γ d ρ3 fun b ρ4 =>
        bif b then wE Γ e ρ4 fun d s ρ5 => bnd (cur s d ρ5) fun d => I (k + 1) (acc ++ [d]) (back own ρ2 (frz s ρ5)) else I (k + 1) acc (back own ρ2 ρ4)) ∧
      ∀ acc ρ2, I items.length acc ρ2 → still s ρ1 ρ2 ∧ Q (.lst acc) none ρ2
theorem lc_walk {own : List Nat} {t : Tg} {d : O} {e : E} {tg elt : Expr} {ifs : List Expr} {s : Scope} {wi : TI} (hblk : c.block s own = true) (hin : tgIn t own = true) (hg : SndG g b Γ (c.inner s) t tg)
    (ht : SndC g b Γ (c.inner s) d ifs) (he : SndE g b Γ (c.inner s) e elt) (C : CfgOk g b Γ X c) {ρ : List Sl} {Q : D → Option Nat → List Sl → Prop} {F H : Hp} {σ : L2.St} {K : VK}
    (h : ∀ R, PostI g ρ σ F H (LcQ Γ own t d e Q) R → wi σ H R)
    (P : PostF g ρ σ F H (fun s ρ' => ∃ l, s = .ow (.lst l) ∧ Q (.lst l) none ρ') K) : tLc wi (gB X s tg) (tB' X s ifs) (eB X s elt) own σ H K := by
  obtain ⟨_, _, hin'⟩ := C.inner hblk
  refine h _ fun items st ρ1 F1 H1 J ok ⟨I, i0, istep, ifin⟩ T S1 hl W hok D hD => ?_
  have fD : F1 D = none := S1.sub.free hD
  refine ⟨fun i m H' => ∃ acc ρ2 F2 vs, i ≤ items.length ∧ m = items.length - i ∧ I i acc ρ2 ∧ Stp ρ1 σ F1 H1 ρ2 σ F2 (del H' D) ∧ Bun g F2 ρ2 σ H' D (.lst vs) ∧ RepL g F2 acc vs ∧ acc.length ≤ i, ⟨items.length, [], ρ1, F1, [], Nat.zero_le _, rfl, i0, ?_, ⟨upd_same, ?_⟩, rfl, Nat.le_refl _⟩, ?_⟩
  · rw [del_upd, del_none hD]; exact .refl
  · rw [del_upd, del_none hD]; exact S1
  rintro i m H' ⟨acc, ρ2, F2, vs, hi1, hm, hI, T2, B2, r2, hac⟩
  have S2 := B2.S.undel
  by_cases hlt : i < items.length
  · have st0 : still st ρ1 ρ2 := (istep i items[i] acc ρ2 (List.getElem?_eq_getElem hlt) hI).1
    have hok2 := hok.still T2.sub S2 st0
    refine .inr ⟨W.go i F2 H' hok2 hlt, fun H'' => ∃ acc ρ2 F2 vs, i + 1 ≤ items.length ∧ I (i + 1) acc ρ2 ∧ Stp ρ1 σ F1 H1 ρ2 σ F2 (del H'' D) ∧ Bun g F2 ρ2 σ H'' D (.lst vs) ∧ RepL g F2 acc vs ∧ acc.length ≤ i + 1,
      fun H'' ⟨acc, ρ2, F2, vs, a1, a2, a3, a4, a5, a6⟩ => ⟨items.length - (i + 1), by omega, acc, ρ2, F2, vs, a1, rfl, a2, a3, a4, a5, a6⟩, fun x H'' y => ?_⟩
    obtain ⟨dd, F3, ed, S3, T3, q3⟩ := W.draw S2 hok2 y hlt
    have B3 := B2.step T3 S3
    obtain ⟨_, hs⟩ := istep i dd acc ρ2 ed hI
    intro s0 H0 C0 cl fp
    refine hg _ (hin' s0 H0 C0 cl fp) dd _ _ hs F3 _ H'' x _ (S3.wipe own) q3 fun ρ3 σ3 hq T4 S4 hw _ => ?_
    have hw' : L2.wipe σ3 own = L2.wipe σ own := (hw own hin).trans (wipe_wipe σ own)
    refine ⟨hw', fun s0 H0 C0 cl fp => ?_⟩
    refine ht _ (hin' s0 H0 C0 cl fp) ρ3 _ hq F3 σ3 H'' _ S4 fun k ρ4 F4 H4 q T5 S5 => ?_
    have fin : ∀ {ρx : List Sl} {Fx Hx : Hp}, Stp (wipeS ρ2 own) (L2.wipe σ own) F3 H'' ρx σ3 Fx Hx → SR g Fx ρx σ3 Hx → Stp ρ1 σ F1 H1 (FT.back own ρ2 ρx) σ Fx (del Hx D) ∧ Bun g Fx (FT.back own ρ2 ρx) σ Hx D (.lst vs) := fun {ρx Fx Hx} Tx Sx => by
      obtain ⟨Sb, Tb⟩ := S3.back Tx Sx hw'
      exact ⟨(T2.trans (T3.del D)).trans (Tb.del D), B3.step Tb Sb⟩
    cases k with
    | false =>
      rw [if_neg Bool.false_ne_true]
      obtain ⟨Ta, Ba⟩ := fin (T4.trans T5) S5
      exact ⟨acc, _, F4, vs, hlt, q, Ta, Ba, r2.mono (T3.sub.trans (T4.trans T5).sub), by omega⟩
    | true =>
      rw [if_pos rfl]
      intro s0 H0 C0 cl fp
      refine he _ (hin' s0 H0 C0 cl fp) ρ4 _ q F4 σ3 H4 _ S5 fun d5 s5 ρ5 F5 v H5 q T6 S6 r5 => ?_
      obtain ⟨d6, c6, q⟩ := bnd_some q
      obtain ⟨F6, S7, T7, q6⟩ := S6.frz r5 c6
      obtain ⟨Ta, Ba⟩ := fin (((T4.trans T5).trans T6).trans T7) S7
      refine ⟨vs, Ba.hD, ?_, acc ++ [d6], _, F6, vs ++ [v], hlt, q, ?_, Ba.write _, (r2.mono (T3.sub.trans (((T4.trans T5).trans T6).trans T7).sub)).snoc q6, ?_⟩
      · rw [r2.len]; omega
      · rw [del_upd]; exact Ta
      · rw [List.length_append]; simp only [List.length_cons, List.length_nil]; omega
  · have hii : i = items.length := by omega
    subst hii
    obtain ⟨st0, hq⟩ := ifin acc ρ2 hI
    refine .inl ⟨W.stop F2 H' (hok.still T2.sub S2 st0), P (.ow (.lst acc)) ρ2 F2 (.ref D) H' ⟨acc, rfl, hq⟩ (T.trans T2.undel) S2 ⟨D, .lst vs, rfl, B2.fD, B2.hD, ⟨vs, rfl, by omega, r2⟩, B2.no, T.grow D hD⟩⟩
theorem lc_ok {own : List Nat} {t : Tg} {it : It} {d : O} {e : E} {tg iter elt : Expr} {ifs : List Expr} {s : Scope} (hblk : c.block s own = true) (hin : tgIn t own = true) (hi : SndI g b Γ c it tg iter) (hg : SndG g b Γ (c.inner s) t tg)
    (ht : SndC g b Γ (c.inner s) d ifs) (he : SndE g b Γ (c.inner s) e elt) (C : CfgOk g b Γ X c) {ρ : List Sl} {Q : D → Option Nat → List Sl → Prop} (h : wE Γ (.lc own t it d e) ρ Q) {F H : Hp} {σ : L2.St} {K : VK} (S : SR g F ρ σ H)
    (P : PostF g ρ σ F H (fun s ρ' => ∃ l, s = .ow (.lst l) ∧ Q (.lst l) none ρ') K) : tLc (OkI X tg iter) (gB X s tg) (tB' X s ifs) (eB X s elt) own σ H K :=
  lc_walk hblk hin hg ht he C (fun R p => hi X C ρ _ (by unfold wE at h; exact h) F σ H R S p) P
theorem snd_lcF {own : List Nat} {t : Tg} {it : It} {d : O} {e : E} {tg iter elt : Expr} {ifs : List Expr} {s : Scope} {pos : Pos} (hblk : c.block s own = true) (hin : tgIn t own = true) (hns : notSet iter = true) (hi : SndI g b Γ c it tg iter) (hg : SndG g b Γ (c.inner s) t tg)
    (ht : SndC g b Γ (c.inner s) d ifs) (he : SndE g b Γ (c.inner s) e elt) : SndF g b Γ c (.lc own t it d e) (.ListComp elt [⟨tg, iter, ifs, 0⟩] s pos) := by
  intro X C ρ Q h F σ H K S P
  obtain ⟨h1, h2, _⟩ := C.inner hblk
  refine ⟨_, pe_lc C.lk.calm C.nd (piK tg iter) h1 gB_ok tB_ok eB_ok (set_ok hns), ?_⟩
  rw [h2]
  exact lc_ok hblk hin hi hg ht he C (Q := fun d _ ρ' => Q (.ow d) ρ') h S fun s ρ' F' v H' ⟨l, es, q⟩ T S' r => P s ρ' F' v H' (by rw [es]; exact q) T S' r
theorem snd_lc {own : List Nat} {t : Tg} {it : It} {d : O} {e : E} {tg iter elt : Expr} {ifs : List Expr} {s : Scope} {pos : Pos} (hblk : c.block s own = true) (hin : tgIn t own = true) (hns : notSet iter = true) (hi : SndI g b Γ c it tg iter) (hg : SndG g b Γ (c.inner s) t tg)
    (ht : SndC g b Γ (c.inner s) d ifs) (he : SndE g b Γ (c.inner s) e elt) : SndE g b Γ c (.lc own t it d e) (.ListComp elt [⟨tg, iter, ifs, 0⟩] s pos) := by
  intro X C ρ Q h F σ H K S P
  obtain ⟨h1, h2, _⟩ := C.inner hblk
  refine ⟨_, pe_lc C.lk.calm C.nd (piK tg iter) h1 gB_ok tB_ok eB_ok (set_ok hns), ?_⟩
  rw [h2]
  exact lc_ok hblk hin hi hg ht he C h S fun s ρ' F' v H' ⟨l, es, q⟩ T S' r => P.f s ρ' F' v H' (by rw [es]; exact q) T S' r
theorem lc2_ok {own own2 : List Nat} {t t2 : Tg} {it it2 : It} {d d2 : O} {e : E} {tg iter tg2 iter2 elt : Expr} {ifs ifs2 : List Expr} {s : Scope} (hblk : c.block s own = true) (hin : tgIn t own = true) (hin2 : tgIn t2 own2 = true) (hi : SndI g b Γ c it tg iter) (hg : SndG g b Γ (c.inner s) t tg)
    (ht : SndC g b Γ (c.inner s) d ifs) (hi2 : SndI g b Γ (c.inner s) it2 tg2 iter2) (hg2 : SndG g b Γ (c.inner s) t2 tg2) (ht2 : SndC g b Γ (c.inner s) d2 ifs2) (he : SndE g b Γ (c.inner s) e elt) (C : CfgOk g b Γ X c) {ρ : List Sl} {Q : D → Option Nat → List Sl → Prop} (h : wE Γ (.lc2 own own2 t it d t2 it2 d2 e) ρ Q) {F H : Hp} {σ : L2.St} {K : VK} (S : SR g F ρ σ H)
    (P : PostF g ρ σ F H (fun s ρ' => ∃ l, s = .ow (.lst l) ∧ Q (.lst l) none ρ') K) : tLc2 (OkI X tg iter) (gB X s tg) (tB' X s ifs) (iB X s tg2 iter2) (gB X s tg2) (tB' X s ifs2) (eB X s elt) own own2 σ H K := by
  obtain ⟨_, _, hin'⟩ := C.inner hblk
  unfold wE at h
  refine hi X C ρ _ h F σ H _ S fun items st ρ1 F1 H1 J ok ⟨I, i0, istep, ifin⟩ T S1 hl W hok D hD => ?_
  have fD : F1 D = none := S1.sub.free hD
  have hmil : (1000000 : Nat) < sizeLine := by decide
  refine ⟨fun i m H' => ∃ acc ρ2 F2 vs, i ≤ items.length ∧ m = items.length - i ∧ I i acc ρ2 ∧ Stp ρ1 σ F1 H1 ρ2 σ F2 (del H' D) ∧ Bun g F2 ρ2 σ H' D (.lst vs) ∧ RepL g F2 acc vs ∧ acc.length ≤ 1000000, ⟨items.length, [], ρ1, F1, [], Nat.zero_le _, rfl, i0, ?_, ⟨upd_same, ?_⟩, rfl, Nat.zero_le _⟩, ?_⟩
  · rw [del_upd, del_none hD]; exact .refl
  · rw [del_upd, del_none hD]; exact S1
  rintro i m H' ⟨acc, ρ2, F2, vs, hi1, hm, hI, T2, B2, r2, hac⟩
  have S2 := B2.S.undel
  by_cases hlt : i < items.length
  · have st0 : still st ρ1 ρ2 := (istep i items[i] acc ρ2 (List.getElem?_eq_getElem hlt) hI).1
    have hok2 := hok.still T2.sub S2 st0
    refine .inr ⟨W.go i F2 H' hok2 hlt, fun H'' => ∃ acc ρ2 F2 vs, i + 1 ≤ items.length ∧ I (i + 1) acc ρ2 ∧ Stp ρ1 σ F1 H1 ρ2 σ F2 (del H'' D) ∧ Bun g F2 ρ2 σ H'' D (.lst vs) ∧ RepL g F2 acc vs ∧ acc.length ≤ 1000000,
      fun H'' ⟨acc, ρ2, F2, vs, a1, a2, a3, a4, a5, a6⟩ => ⟨items.length - (i + 1), by omega, acc, ρ2, F2, vs, a1, rfl, a2, a3, a4, a5, a6⟩, fun x H'' y => ?_⟩
    obtain ⟨dd, F3, ed, S3, T3, q3⟩ := W.draw S2 hok2 y hlt
    have B3 := B2.step T3 S3
    obtain ⟨_, hs⟩ := istep i dd acc ρ2 ed hI
    intro s0 H0 C0 cl fp
    refine hg _ (hin' s0 H0 C0 cl fp) dd _ _ hs F3 _ H'' x _ (S3.wipe own) q3 fun ρ3 σ3 hq T4 S4 hw _ => ?_
    have hw' : L2.wipe σ3 own = L2.wipe σ own := (hw own hin).trans (wipe_wipe σ own)
    refine ⟨hw', fun s0 H0 C0 cl fp => ?_⟩
    refine ht _ (hin' s0 H0 C0 cl fp) ρ3 _ hq F3 σ3 H'' _ S4 fun k ρ4 F4 H4 q T5 S5 => ?_
    have B4 : Bun g F3 (wipeS ρ2 own) (L2.wipe σ own) H'' D (.lst vs) := ⟨B3.hD, B3.S.wipe own⟩
    have B5 := B4.step (T4.trans T5) S5
    have T45 := (T4.trans T5).del D
    have fin : ∀ {ρx : List Sl} {Fx Hx : Hp} {us : List V}, Stp (wipeS ρ2 own) (L2.wipe σ own) F3 (del H'' D) ρx σ3 Fx (del Hx D) → Bun g Fx ρx σ3 Hx D (.lst us) → Stp ρ1 σ F1 H1 (FT.back own ρ2 ρx) σ Fx (del Hx D) ∧ Bun g Fx (FT.back own ρ2 ρx) σ Hx D (.lst us) := fun {ρx Fx Hx us} Tx Bx => by
      obtain ⟨Sb, Tb⟩ := B3.S.back Tx Bx.S hw'
      exact ⟨(T2.trans (T3.del D)).trans Tb, ⟨Bx.hD, Sb⟩⟩
    cases k with
    | false =>
      rw [if_neg Bool.false_ne_true]
      obtain ⟨Ta, Ba⟩ := fin T45 B5
      exact ⟨acc, _, F4, vs, hlt, q, Ta, Ba, r2.mono (T3.sub.trans (T4.trans T5).sub), by omega⟩
    | true =>
      rw [if_pos rfl]
      intro s0 H0 C0 cl fp
      refine hi2 _ (hin' s0 H0 C0 cl fp) ρ4 _ q F4 σ3 H4 _ S5 fun items2 st2 ρ5 F5 H5 J2 ok2 ⟨I2, j0, jstep, jfin⟩ T6 S6 hl2 W2 hokk => ?_
      have B6 := B5.step T6 S6
      have T46 := T45.trans (T6.del D)
      refine ⟨fun j k Hk => ∃ acc ρ6 F6 us, j ≤ items2.length ∧ k = items2.length - j ∧ I2 j acc ρ6 ∧ Stp ρ5 σ3 F5 (del H5 D) ρ6 σ3 F6 (del Hk D) ∧ Bun g F6 ρ6 σ3 Hk D (.lst us) ∧ RepL g F6 acc us ∧ acc.length ≤ 1000000,
        ⟨items2.length, acc, ρ5, F5, vs, Nat.zero_le _, rfl, j0, .refl, B6, r2.mono (T3.sub.trans ((T4.trans T5).trans T6).sub), hac⟩, ?_⟩
      rintro j k Hk ⟨acc2, ρ6, F6, us, hj1, hk, hJ, T7, B7, r7, hac7⟩
      have S7 := B7.S.undel
      by_cases hjt : j < items2.length
      · have st2' : still st2 ρ5 ρ6 := (jstep j items2[j] acc2 ρ6 (List.getElem?_eq_getElem hjt) hJ).1
        have hok7 := hokk.still T7.sub S7 st2'
        refine .inr ⟨W2.go j F6 Hk hok7 hjt, fun Hn => ∃ acc ρ6 F6 us, j + 1 ≤ items2.length ∧ I2 (j + 1) acc ρ6 ∧ Stp ρ5 σ3 F5 (del H5 D) ρ6 σ3 F6 (del Hn D) ∧ Bun g F6 ρ6 σ3 Hn D (.lst us) ∧ RepL g F6 acc us ∧ acc.length ≤ 1000000,
          fun Hn ⟨acc, ρ6, F6, us, a1, a2, a3, a4, a5, a6⟩ => ⟨items2.length - (j + 1), by omega, acc, ρ6, F6, us, a1, rfl, a2, a3, a4, a5, a6⟩, fun x2 Hd y2 => ?_⟩
        obtain ⟨dd2, F8, ed2, S8, T8, q8⟩ := W2.draw S7 hok7 y2 hjt
        have B8 := B7.step T8 S8
        obtain ⟨_, hs2⟩ := jstep j dd2 acc2 ρ6 ed2 hJ
        intro s0 H0 C0 cl fp
        refine hg2 _ (hin' s0 H0 C0 cl fp) dd2 _ _ hs2 F8 _ Hd x2 _ (S8.wipe own2) q8 fun ρ9 σ9 hq9 T9 S9 hw9 _ => ?_
        have hw9' : L2.wipe σ9 own2 = L2.wipe σ3 own2 := (hw9 own2 hin2).trans (wipe_wipe σ3 own2)
        refine ⟨hw9', fun s0 H0 C0 cl fp => ?_⟩
        refine ht2 _ (hin' s0 H0 C0 cl fp) ρ9 _ hq9 F8 σ9 Hd _ S9 fun k2 ρa Fa Ha qa Ta Sa => ?_
        have fin2 : ∀ {ρx : List Sl} {Fx Hx : Hp}, Stp (wipeS ρ6 own2) (L2.wipe σ3 own2) F8 Hd ρx σ9 Fx Hx → SR g Fx ρx σ9 Hx → Stp ρ5 σ3 F5 (del H5 D) (FT.back own2 ρ6 ρx) σ3 Fx (del Hx D) ∧ Bun g Fx (FT.back own2 ρ6 ρx) σ3 Hx D (.lst us) := fun {ρx Fx Hx} Tx Sx => by
          obtain ⟨Sb, Tb⟩ := S8.back Tx Sx hw9'
          exact ⟨(T7.trans (T8.del D)).trans (Tb.del D), B8.step Tb Sb⟩
        cases k2 with
        | false =>
          rw [if_neg Bool.false_ne_true]
          obtain ⟨Tz, Bz⟩ := fin2 (T9.trans Ta) Sa
          exact ⟨acc2, _, Fa, us, hjt, qa, Tz, Bz, r7.mono (T8.sub.trans (T9.trans Ta).sub), hac7⟩
        | true =>
          rw [if_pos rfl]
          intro s0 H0 C0 cl fp
          refine he _ (hin' s0 H0 C0 cl fp) ρa _ qa Fa σ9 Ha _ Sa fun db sb ρb Fb v Hb qb Tb Sb rb => ?_
          obtain ⟨hlim, qb⟩ := qb
          obtain ⟨dc, cc, qb⟩ := bnd_some qb
          obtain ⟨Fc, Sc, Tc, qc⟩ := Sb.frz rb cc
          obtain ⟨Tz, Bz⟩ := fin2 (((T9.trans Ta).trans Tb).trans Tc) Sc
          refine ⟨us, Bz.hD, ?_, acc2 ++ [dc], _, Fc, us ++ [v], hjt, qb, ?_, Bz.write _, (r7.mono (T8.sub.trans (((T9.trans Ta).trans Tb).trans Tc).sub)).snoc qc, ?_⟩
          · rw [r7.len]; omega
          · rw [del_upd]; exact Tz
          · rw [List.length_append]; simp only [List.length_cons, List.length_nil]; omega
      · have hjj : j = items2.length := by omega
        subst hjj
        obtain ⟨st2', hq⟩ := jfin acc2 ρ6 hJ
        obtain ⟨Ta, Ba⟩ := fin (T46.trans T7) B7
        exact .inl ⟨W2.stop F6 Hk (hokk.still T7.sub S7 st2'), acc2, _, F6, us, hlt, hq, Ta, Ba, r7, hac7⟩
  · have hii : i = items.length := by omega
    subst hii
    obtain ⟨st0, hq⟩ := ifin acc ρ2 hI
    refine .inl ⟨W.stop F2 H' (hok.still T2.sub S2 st0), P (.ow (.lst acc)) ρ2 F2 (.ref D) H' ⟨acc, rfl, hq⟩ (T.trans T2.undel) S2 ⟨D, .lst vs, rfl, B2.fD, B2.hD, ⟨vs, rfl, by omega, r2⟩, B2.no, T.grow D hD⟩⟩
theorem snd_lc2F {own own2 : List Nat} {t t2 : Tg} {it it2 : It} {d d2 : O} {e : E} {tg iter tg2 iter2 elt : Expr} {ifs ifs2 : List Expr} {s : Scope} {pos : Pos} (hblk : c.block s own = true) (hown : (own2.all fun i => own.contains i) = true) (hin : tgIn t own = true) (hin2 : tgIn t2 own2 = true) (hns : notSet iter = true) (hns2 : notSet iter2 = true) (hi : SndI g b Γ c it tg iter) (hg : SndG g b Γ (c.inner s) t tg)
    (ht : SndC g b Γ (c.inner s) d ifs) (hi2 : SndI g b Γ (c.inner s) it2 tg2 iter2) (hg2 : SndG g b Γ (c.inner s) t2 tg2) (ht2 : SndC g b Γ (c.inner s) d2 ifs2) (he : SndE g b Γ (c.inner s) e elt) : SndF g b Γ c (.lc2 own own2 t it d t2 it2 d2 e) (.ListComp elt [⟨tg, iter, ifs, 0⟩, ⟨tg2, iter2, ifs2, 0⟩] s pos) := by
  intro X C ρ Q h F σ H K S P
  obtain ⟨h1, h2, _⟩ := C.inner hblk
  refine ⟨_, pe_lc2 C.lk.calm C.nd (piK tg iter) h1 (vs1 := own2) (by rw [h2]; exact fun i hi => List.contains_iff_mem.mp (List.all_eq_true.mp hown i hi)) gB_ok tB_ok iB_ok gB_ok tB_ok eB_ok (set_ok hns) (fun env => set_ok hns2), ?_⟩
  rw [h2]
  exact lc2_ok hblk hin hin2 hi hg ht hi2 hg2 ht2 he C (Q := fun d _ ρ' => Q (.ow d) ρ') h S fun s ρ' F' v H' ⟨l, es, q⟩ T S' r => P s ρ' F' v H' (by rw [es]; exact q) T S' r
theorem snd_lc2 {own own2 : List Nat} {t t2 : Tg} {it it2 : It} {d d2 : O} {e : E} {tg iter tg2 iter2 elt : Expr} {ifs ifs2 : List Expr} {s : Scope} {pos : Pos} (hblk : c.block s own = true) (hown : (own2.all fun i => own.contains i) = true) (hin : tgIn t own = true) (hin2 : tgIn t2 own2 = true) (hns : notSet iter = true) (hns2 : notSet iter2 = true) (hi : SndI g b Γ c it tg iter) (hg : SndG g b Γ (c.inner s) t tg)
    (ht : SndC g b Γ (c.inner s) d ifs) (hi2 : SndI g b Γ (c.inner s) it2 tg2 iter2) (hg2 : SndG g b Γ (c.inner s) t2 tg2) (ht2 : SndC g b Γ (c.inner s) d2 ifs2) (he : SndE g b Γ (c.inner s) e elt) : SndE g b Γ c (.lc2 own own2 t it d t2 it2 d2 e) (.ListComp elt [⟨tg, iter, ifs, 0⟩, ⟨tg2, iter2, ifs2, 0⟩] s pos) :=
  fun X C ρ Q h F σ H K S P => snd_lc2F (c := c) hblk hown hin hin2 hns hns2 hi hg ht hi2 hg2 ht2 he X C ρ (fun s ρ' => Q s.d none ρ') (by unfold wF; exact h) F σ H K S P.f
/-! ### dict comprehensions -/
theorem dc_ok {own : List Nat} {t : Tg} {it : It} {k e : E} {tg iter kx elt : Expr} {s : Scope} (hblk : c.block s own = true) (hin : tgIn t own = true) (hi : SndI g b Γ c it tg iter) (hg : SndG g b Γ (c.inner s) t tg)
    (hk : SndE g b Γ (c.inner s) k kx) (he : SndE g b Γ (c.inner s) e elt) (C : CfgOk g b Γ X c) {ρ : List Sl} {Q : D → Option Nat → List Sl → Prop} (h : wE Γ (.dc own t it k e) ρ Q) {F H : Hp} {σ : L2.St} {K : VK} (S : SR g F ρ σ H)
    (P : PostF g ρ σ F H (fun s ρ' => ∃ l, s = .ow (.dic l) ∧ Q (.dic l) none ρ') K) : tDc (OkI X tg iter) (gB X s tg) tYes (eB X s kx) (eB X s elt) own σ H K := by
  obtain ⟨_, _, hin'⟩ := C.inner hblk
  unfold wE at h
  refine hi X C ρ _ h F σ H _ S fun items st ρ1 F1 H1 J ok ⟨I, i0, istep, ifin⟩ T S1 hl W hok D hD => ?_
  have fD : F1 D = none := S1.sub.free hD
  refine ⟨fun i m H' => ∃ acc ρ2 F2 vs, i ≤ items.length ∧ m = items.length - i ∧ I i acc ρ2 ∧ Stp ρ1 σ F1 H1 ρ2 σ F2 (del H' D) ∧ Bun g F2 ρ2 σ H' D (.dK vs) ∧ RepK g F2 acc vs ∧ acc.length ≤ i, ⟨items.length, [], ρ1, F1, [], Nat.zero_le _, rfl, i0, ?_, ⟨upd_same, ?_⟩, rfl, Nat.le_refl _⟩, ?_⟩
  · rw [del_upd, del_none hD]; exact .refl
  · rw [del_upd, del_none hD]; exact S1
  rintro i m H' ⟨acc, ρ2, F2, vs, hi1, hm, hI, T2, B2, r2, hac⟩
  have S2 := B2.S.undel
  by_cases hlt : i < items.length
  · have st0 : still st ρ1 ρ2 := (istep i items[i] acc ρ2 (List.getElem?_eq_getElem hlt) hI).1
    have hok2 := hok.still T2.sub S2 st0
    refine .inr ⟨W.go i F2 H' hok2 hlt, fun H'' => ∃ acc ρ2 F2 vs, i + 1 ≤ items.length ∧ I (i + 1) acc ρ2 ∧ Stp ρ1 σ F1 H1 ρ2 σ F2 (del H'' D) ∧ Bun g F2 ρ2 σ H'' D (.dK vs) ∧ RepK g F2 acc vs ∧ acc.length ≤ i + 1,
      fun H'' ⟨acc, ρ2, F2, vs, a1, a2, a3, a4, a5, a6⟩ => ⟨items.length - (i + 1), by omega, acc, ρ2, F2, vs, a1, rfl, a2, a3, a4, a5, a6⟩, fun x H'' y => ?_⟩
    obtain ⟨dd, F3, ed, S3, T3, q3⟩ := W.draw S2 hok2 y hlt
    have B3 := B2.step T3 S3
    obtain ⟨_, hs⟩ := istep i dd acc ρ2 ed hI
    intro s0 H0 C0 cl fp
    refine hg _ (hin' s0 H0 C0 cl fp) dd _ _ hs F3 _ H'' x _ (S3.wipe own) q3 fun ρ3 σ3 hq T4 S4 hw _ => ?_
    have hw' : L2.wipe σ3 own = L2.wipe σ own := (hw own hin).trans (wipe_wipe σ own)
    refine ⟨hw', ?_⟩
    show tYes σ3 H'' _
    unfold tYes
    dsimp only
    rw [if_pos rfl]
    intro s0 H0 C0 cl fp
    refine hk _ (hin' s0 H0 C0 cl fp) ρ3 _ hq F3 σ3 H'' _ S4 fun d4 s4 ρ4 F4 v4 H4 q T5 S5 r4 => ?_
    intro s0 H0 C0 cl fp
    refine he _ (hin' s0 H0 C0 cl fp) ρ4 _ q F4 σ3 H4 _ S5 fun d5 s5 ρ5 F5 v H5 q T6 S6 r5 => ?_
    obtain ⟨kk, ek, q⟩ := bnd_some q
    obtain ⟨d6, c6, q⟩ := bnd_some q
    obtain ⟨F6, S7, T7, q6⟩ := S6.frz r5 c6
    obtain ⟨Sb, Tb⟩ := S3.back (((T4.trans T5).trans T6).trans T7) S7 hw'
    have Ta := (T2.trans (T3.del D)).trans (Tb.del D)
    have Ba := B3.step Tb Sb
    have rk : v4 = kV kk := by
      have hc : d4.coll = false := by cases d4 <;> first | rfl | cases ek
      exact keyD_rep (r4.rep hc) ek
    have r3 := r2.mono (T3.sub.trans (((T4.trans T5).trans T6).trans T7).sub)
    refine ⟨vs, kk, rk, Ba.hD, ?_, putD acc kk d6, _, F6, putK vs kk v, hlt, q, ?_, Ba.write _, r3.put q6, ?_⟩
    · rw [r2.len]; omega
    · rw [del_upd]; exact Ta
    · have := @putD_len kk d6 acc; omega
  · have hii : i = items.length := by omega
    subst hii
    obtain ⟨st0, hq⟩ := ifin acc ρ2 hI
    refine .inl ⟨W.stop F2 H' (hok.still T2.sub S2 st0), P (.ow (.dic acc)) ρ2 F2 (.ref D) H' ⟨acc, rfl, hq⟩ (T.trans T2.undel) S2 ⟨D, .dK vs, rfl, B2.fD, B2.hD, ⟨vs, rfl, by omega, r2⟩, B2.no, T.grow D hD⟩⟩
theorem snd_dcF {own : List Nat} {t : Tg} {it : It} {k e : E} {tg iter kx elt : Expr} {s : Scope} {pos : Pos} (hblk : c.block s own = true) (hin : tgIn t own = true) (hns : notSet iter = true) (hi : SndI g b Γ c it tg iter) (hg : SndG g b Γ (c.inner s) t tg)
    (hk : SndE g b Γ (c.inner s) k kx) (he : SndE g b Γ (c.inner s) e elt) : SndF g b Γ c (.dc own t it k e) (.DictComp kx elt [⟨tg, iter, [], 0⟩] s pos) := by
  intro X C ρ Q h F σ H K S P
  obtain ⟨h1, h2, _⟩ := C.inner hblk
  refine ⟨_, pe_dc C.lk.calm C.nd (piK tg iter) h1 gB_ok (fun _ _ _ _ _ => pts_nil) eB_ok eB_ok (set_ok hns), ?_⟩
  rw [h2]
  exact dc_ok hblk hin hi hg hk he C (Q := fun d _ ρ' => Q (.ow d) ρ') h S fun s ρ' F' v H' ⟨l, es, q⟩ T S' r => P s ρ' F' v H' (by rw [es]; exact q) T S' r
theorem snd_dc {own : List Nat} {t : Tg} {it : It} {k e : E} {tg iter kx elt : Expr} {s : Scope} {pos : Pos} (hblk : c.block s own = true) (hin : tgIn t own = true) (hns : notSet iter = true) (hi : SndI g b Γ c it tg iter) (hg : SndG g b Γ (c.inner s) t tg)
    (hk : SndE g b Γ (c.inner s) k kx) (he : SndE g b Γ (c.inner s) e elt) : SndE g b Γ c (.dc own t it k e) (.DictComp kx elt [⟨tg, iter, [], 0⟩] s pos) :=
  fun X C ρ Q h F σ H K S P => snd_dcF (c := c) hblk hin hns hi hg hk he X C ρ (fun s ρ' => Q s.d none ρ') (by unfold wF; exact h) F σ H K S P.f
end
end FT

set_option Elab.async false
set_option linter.all false
set_option maxRecDepth 100000
set_option autoImplicit false
set_option maxHeartbeats 2000000
namespace FT
open PySem PySem.Spec PyProof.Rows L2
/-! ### stores of two and three at once -/
theorem nodup_len {l : List Str} (h : l.Nodup) : l.eraseDups.length = l.length := by
  have : l.eraseDups = l := by
    induction l with
    | nil => rfl
    | cons a l ih =>
      rw [List.nodup_cons] at h
      rw [List.eraseDups_cons]
      have e : l.filter (fun b => !b == a) = l := List.filter_eq_self.mpr fun b hb => by
        have : b ≠ a := fun z => h.1 (z ▸ hb)
        simpa using this
      rw [e, ih h.2]
  rw [this]
theorem sw_par2 {env : Env} {x y : Str} {px py pt p2 : Pos} {kt k2 : Nat} {v w : Expr} (hk : env.scope.kind = .function) (hx : env.kindOf x = some .local) (hy : env.kindOf y = some .local) (hne : [x, y].Nodup) (hl : (py.line == px.line) = true) (hs : notStars [v, w] = true)
    (hf : ([v, w].all (foldedForSure 8)) = false) (hc : ([v, w].all (constantsAlone 8)) = false) : swappedStores [.Tuple [.Name x px, .Name y py] kt pt] (.Tuple [v, w] k2 p2) env = pure (some [x, y]) := by
  have hb : env.blockKind = .function := by unfold Env.blockKind; rw [hk]; rfl
  have hd := nodup_len hne
  have hs' : (notStar v && (notStar w && true)) = true := hs
  simp only [Bool.and_eq_true] at hs'
  unfold swappedStores
  simp only [hb, hx, hy, hl, Expr.pos, hf, hc, List.filterMap_cons, List.filterMap_nil, List.head?_cons, Option.map_some, Option.getD_some, beq_self_eq_true, Bool.and_self, if_true, List.length_cons, List.length_nil, bne_self_eq_false, Bool.false_or, Bool.not_true, Bool.or_false, Bool.or_self, hd]
  simp [hd, hf, hc]
  intro h
  obtain ⟨s1, s2, _⟩ := hs'
  rcases h with h | h
  · cases v <;> first | (cases h; done) | cases s1
  · cases w <;> first | (cases h; done) | cases s2
theorem sw_par3 {env : Env} {x y z : Str} {px py pz pt p2 : Pos} {kt k2 : Nat} {u v w : Expr} (hk : env.scope.kind = .function) (hx : env.kindOf x = some .local) (hy : env.kindOf y = some .local) (hz : env.kindOf z = some .local) (hne : [x, y, z].Nodup) (hl : (py.line == px.line) = true) (hl2 : (pz.line == px.line) = true) (hs : notStars [u, v, w] = true)
    (hf : ([u, v, w].all (foldedForSure 8)) = false) (hc : ([u, v, w].all (constantsAlone 8)) = false) : swappedStores [.Tuple [.Name x px, .Name y py, .Name z pz] kt pt] (.Tuple [u, v, w] k2 p2) env = pure (some [x, y, z]) := by
  have hb : env.blockKind = .function := by unfold Env.blockKind; rw [hk]; rfl
  have hd := nodup_len hne
  have hs' : (notStar u && (notStar v && (notStar w && true))) = true := hs
  simp only [Bool.and_eq_true] at hs'
  unfold swappedStores
  simp only [hb, hx, hy, hz, hl, hl2, Expr.pos, hf, hc, List.filterMap_cons, List.filterMap_nil, List.head?_cons, Option.map_some, Option.getD_some, beq_self_eq_true, Bool.and_self, if_true, List.length_cons, List.length_nil, bne_self_eq_false, Bool.false_or, Bool.not_true, Bool.or_false, Bool.or_self, hd]
  simp [hd, hf, hc]
  intro h
  obtain ⟨s1, s2, s3, _⟩ := hs'
  rcases h with h | h | h
  · cases u <;> first | (cases h; done) | cases s1
  · cases v <;> first | (cases h; done) | cases s2
  · cases w <;> first | (cases h; done) | cases s3
theorem sw_cell2 {env : Env} {x y : Str} {px py pt p2 : Pos} {kt k2 : Nat} {vs : List Expr} (h : env.kindOf x ≠ some .local ∨ env.kindOf y ≠ some .local) : swappedStores [.Tuple [.Name x px, .Name y py] kt pt] (.Tuple vs k2 p2) env = pure none := by
  unfold swappedStores
  rcases h with h | h
  all_goals
    have h' := (beq_eq_false_iff_ne).mpr h
    simp only [h', List.filterMap_cons, List.filterMap_nil, Bool.false_and, Bool.false_eq_true, if_false]
    simp
    intro _ _ _ hlen
    exfalso
    split at hlen <;> simp at hlen
theorem sw_cell3 {env : Env} {x y z : Str} {px py pz pt p2 : Pos} {kt k2 : Nat} {vs : List Expr} (h : env.kindOf x ≠ some .local ∨ env.kindOf y ≠ some .local ∨ env.kindOf z ≠ some .local) : swappedStores [.Tuple [.Name x px, .Name y py, .Name z pz] kt pt] (.Tuple vs k2 p2) env = pure none := by
  unfold swappedStores
  rcases h with h | h | h
  all_goals
    have h' := (beq_eq_false_iff_ne).mpr h
    simp only [h', List.filterMap_cons, List.filterMap_nil, Bool.false_and, Bool.false_eq_true, if_false]
    simp
    intro _ _ _ hlen
    exfalso
    split at hlen <;> split at hlen <;> simp at hlen
theorem sw_sub2 {env : Env} {a a' i i' : Expr} {p1 p2 p3 p4 : Pos} {k k2 : Nat} {vs : List Expr} : swappedStores [.Tuple [.Subscript a i p1, .Subscript a' i' p2] k p3] (.Tuple vs k2 p4) env = pure none := by
  unfold swappedStores
  simp
theorem sw_other {env : Env} {ts : List Expr} {k : Nat} {p : Pos} {v : Expr} (h : notTup v = true) : swappedStores [.Tuple ts k p] v env = pure none := by
  unfold swappedStores
  cases v <;> first | rfl | cases h
theorem sws_tup {env : Env} {ts : List Expr} {k : Nat} {p : Pos} {v : Expr} {l : Nat} : swapsWithSole [.Tuple ts k p] v l env = pure false := by
  unfold swapsWithSole swapsWith
  cases v <;> rfl
theorem sws_sub {env : Env} {a i : Expr} {p : Pos} {v : Expr} {l : Nat} : swapsWithSole [.Subscript a i p] v l env = pure false := by
  unfold swapsWithSole swapsWith
  cases v <;> rfl
theorem sws_nl {env : Env} {y : Str} {p : Pos} {v : Expr} {l : Nat} (h : env.kindOf y ≠ some .local) : swapsWith v (some (.Name y p)) l env = pure false := by
  have h' := (beq_eq_false_iff_ne).mpr h
  unfold swapsWith
  cases v <;> first | rfl | (simp only [h', Bool.and_false, Bool.false_and])
theorem sts_sub {env : Env} {a i : Expr} {p : Pos} {v : Expr} : swappedStores [.Subscript a i p] v env = pure none := by
  unfold swappedStores
  cases v <;> rfl

section
variable {g : G} {b : BF} {Γ : Nat → Option Con} {c : Cfg} {X : Cx}
/-! ### statements -/
def SlR (g : G) (ρ0 : List Sl) (σ0 : L2.St) (H0 F' H' : Hp) (ρ' : List Sl) (σ' : L2.St) (s : Sl) (v : V) : Prop := match s with
  | .un => False
  | .sh d => Rep g F' d v
  | .ow d => ∃ a o, v = .ref a ∧ F' a = none ∧ H' a = some o ∧ RepO g F' d o ∧ ¬ OwnA ρ' σ' a ∧ (OwnA ρ0 σ0 a ∨ H0 a = none)
structure PostS (g : G) (c : Cfg) (ρ : List Sl) (σ : L2.St) (F H : Hp) (Q : Fin) (D : Ends) : Prop where
  nx : ∀ ρ' σ' F' H', Q.nx ρ' → Stp ρ σ F H ρ' σ' F' H' → SR g F' ρ' σ' H' → Fixd c σ σ' → D.nx σ' H'
  rt : ∀ s ρ' σ' F' v H', Q.rt s ρ' → Stp ρ σ F H ρ' σ' F' H' → SR g F' ρ' σ' H' → Fixd c σ σ' → SlR g ρ σ H F' H' ρ' σ' s v → D.rt v H'
theorem SlR.step {ρ0 ρ1 ρ' : List Sl} {σ0 σ1 σ' : L2.St} {F0 H0 F1 H1 F' H' : Hp} {s : Sl} {v : V} (T : Stp ρ0 σ0 F0 H0 ρ1 σ1 F1 H1) (h : SlR g ρ1 σ1 H1 F' H' ρ' σ' s v) : SlR g ρ0 σ0 H0 F' H' ρ' σ' s v := by
  cases s with
  | un => exact h
  | sh d => exact h
  | ow d =>
    obtain ⟨a, o, e, h1, h2, h3, h4, h5⟩ := h
    refine ⟨a, o, e, h1, h2, h3, h4, ?_⟩
    rcases h5 with z | z
    · exact T.own a z
    · exact .inr (T.grow a z)
theorem PostS.step {ρ ρ1 : List Sl} {σ σ1 : L2.St} {F H F1 H1 : Hp} {Q : Fin} {D : Ends} (P : PostS g c ρ σ F H Q D) (T : Stp ρ σ F H ρ1 σ1 F1 H1) (f : Fixd c σ σ1) : PostS g c ρ1 σ1 F1 H1 Q D :=
  ⟨fun ρ' σ' F' H' q T' S' f' => P.nx ρ' σ' F' H' q (T.trans T') S' (f.trans f'), fun s ρ' σ' F' v H' q T' S' f' r => P.rt s ρ' σ' F' v H' q (T.trans T') S' (f.trans f') (r.step T)⟩
def SndS (g : G) (b : BF) (Γ : Nat → Option Con) (c : Cfg) (s : S) (x : Stmt) : Prop := ∀ X, CfgOk g b Γ X c → ∀ ρ Q, wS Γ s ρ Q → ∀ F σ H D, SR g F ρ σ H → PostS g c ρ σ F H Q D → OkS X x D σ H
def SndB (g : G) (b : BF) (Γ : Nat → Option Con) (c : Cfg) (s : Ss) (x : List Stmt) : Prop := ∀ X, CfgOk g b Γ X c → ∀ ρ Q, wB Γ s ρ Q → ∀ F σ H D, SR g F ρ σ H → PostS g c ρ σ F H Q D → OkB X x D σ H
theorem snd_bnil : SndB g b Γ c .nil [] := fun X C ρ Q h F σ H D S P => ⟨_, pss_nil, P.nx ρ σ F H h .refl S .refl⟩
theorem snd_bcons {s : S} {ss : Ss} {x : Stmt} {xs : List Stmt} (h1 : SndS g b Γ c s x) (h2 : SndB g b Γ c ss xs) : SndB g b Γ c (.cons s ss) (x :: xs) := by
  intro X C ρ Q h F σ H D S P
  unfold wB at h
  refine ⟨_, pss_cons (psK x) (pbK xs), h1 X C ρ _ h F σ H _ S ⟨fun ρ1 σ1 F1 H1 q T S1 f => ?_, P.rt⟩⟩
  exact h2 X C ρ1 _ q F1 σ1 H1 D S1 (P.step T f)
theorem snd_pass {p : Pos} : SndS g b Γ c .pass (.Pass p) := fun X C ρ Q h F σ H D S P => ⟨_, ps_pass, P.nx ρ σ F H h .refl S .refl⟩
theorem snd_never {x : Stmt} : SndS g b Γ c .never x := fun X C ρ Q h F σ H D S P => h.elim
theorem snd_ex {e : E} {x : Expr} {p : Pos} (he : SndE g b Γ c e x) (hc : notComp x = true) : SndS g b Γ c (.ex e) (.Expr x p) := fun X C ρ Q h F σ H D S P =>
  ⟨_, ps_expr (peK x) (comp_ok hc), he X C ρ _ h F σ H _ S fun d s ρ1 F1 v H1 q T S1 r => P.nx ρ1 σ F1 H1 q T S1 .refl⟩
theorem snd_retN {p : Pos} : SndS g b Γ c .retN (.Return none p) := fun X C ρ Q h F σ H D S P => ⟨_, ps_retN, P.rt (.sh .non) ρ σ F .non H h .refl S .refl rfl⟩
/-- a value is put into a slot -/
theorem SR.setV {ρ ρ0 : List Sl} {σ σ0 : L2.St} {F H F0 H0 : Hp} {i : Nat} {s : Sl} {v : V} (T : Stp ρ0 σ0 F0 H0 ρ σ F H) (S : SR g F ρ σ H) (r : SlV g H0 F H ρ σ s v) : SR g F (ρ.set i s) (σ.set i (some v)) H ∧ Stp ρ0 σ0 F0 H0 (ρ.set i s) (σ.set i (some v)) F H := by
  cases s with
  | un => exact r.elim
  | sh d =>
    obtain ⟨S2, T2⟩ := S.setSh (i := i) r
    exact ⟨S2, T.trans T2⟩
  | ow d =>
    obtain ⟨a, o, rfl, h1, h2, h3, h4, h5⟩ := r
    refine ⟨S.setOw h3 h1 h2 h4, T.sub, T.keep, T.newF, fun x hx => ?_, T.grow⟩
    rcases OwnA.setOw hx with z | z
    · exact T.own x z
    · subst z; exact .inr h5
theorem SlV.later {ρ1 ρ2 : List Sl} {σ : L2.St} {H0 F1 H1 F2 H2 : Hp} {s : Sl} {v : V} (T : Stp ρ1 σ F1 H1 ρ2 σ F2 H2) (r : SlV g H0 F1 H1 ρ1 σ s v) : SlV g H0 F2 H2 ρ2 σ s v := by
  cases s with
  | un => exact r
  | sh d => exact Rep.mono T.sub r
  | ow d =>
    obtain ⟨a, o, rfl, h1, h2, h3, h4, h5⟩ := r
    obtain ⟨k1, k2, k3⟩ := T.hid h2 h1 h4
    exact ⟨a, o, rfl, k2, k1, h3.mono T.sub, k3, h5⟩
theorem SlV.older {ρ1 : List Sl} {σ : L2.St} {H0 H00 F1 H1 : Hp} {s : Sl} {v : V} (h : ∀ a, H0 a = none → H00 a = none) (r : SlV g H0 F1 H1 ρ1 σ s v) : SlV g H00 F1 H1 ρ1 σ s v := by
  cases s with
  | un => exact r
  | sh d => exact r
  | ow d =>
    obtain ⟨a, o, rfl, h1, h2, h3, h4, h5⟩ := r
    exact ⟨a, o, rfl, h1, h2, h3, h4, h a h5⟩
def Apart (s1 s2 : Sl) (v1 v2 : V) : Prop := ∀ d1 d2, s1 = .ow d1 → s2 = .ow d2 → v1 ≠ v2
theorem SlV.apart {ρ1 ρ2 : List Sl} {σ σ2 : L2.St} {H0 F1 H1 F2 H2 : Hp} {s1 s2 : Sl} {v1 v2 : V} (r1 : SlV g H0 F1 H1 ρ1 σ s1 v1) (r2 : SlV g H1 F2 H2 ρ2 σ2 s2 v2) : Apart s1 s2 v1 v2 := by
  rintro d1 d2 rfl rfl e
  obtain ⟨a, o, rfl, _, h2, _⟩ := r1
  obtain ⟨a', o', e', _, _, _, _, h5⟩ := r2
  rw [e'] at e
  cases e
  rw [h2] at h5; cases h5
theorem SlV.set {ρ : List Sl} {σ : L2.St} {H0 F H : Hp} {i : Nat} {s1 s2 : Sl} {v1 v2 : V} (r1 : SlV g H0 F H ρ σ s1 v1) (r2 : SlV g H0 F H ρ σ s2 v2) (ne : Apart s1 s2 v1 v2) : SlV g H0 F H (ρ.set i s1) (σ.set i (some v1)) s2 v2 := by
  cases s2 with
  | un => exact r2
  | sh d => exact r2
  | ow d =>
    obtain ⟨a, o, rfl, h1, h2, h3, h4, h5⟩ := r2
    refine ⟨a, o, rfl, h1, h2, h3, fun z => ?_, h5⟩
    cases s1 with
    | un => exact r1.elim
    | sh d1 =>
      obtain ⟨j, dj, ej, es⟩ := z
      by_cases y : i = j
      · subst y
        by_cases hi : i < ρ.length
        · rw [List.getElem?_set_self hi] at ej; cases ej
        · rw [List.getElem?_eq_none (by rw [List.length_set]; omega)] at ej; cases ej
      · rw [List.getElem?_set_ne y] at ej es
        exact h4 ⟨j, dj, ej, es⟩
    | ow d1 =>
      obtain ⟨a1, o1, rfl, _⟩ := r1
      rcases OwnA.setOw z with q | q
      · exact h4 q
      · exact ne d1 d rfl rfl (by rw [q])
/-- name = e, whatever the machine's way -/
theorem set_core {e : E} {i : Nat} {ρ : List Sl} {Q : Fin} {F H : Hp} {σ : L2.St} {D : Ends} (hfix : i ∉ c.fix) (P : PostS g c ρ σ F H Q D) : PostF g ρ σ F H (fun s ρ1 => Q.nx (ρ1.set i s)) fun v H1 => D.nx (σ.set i (some v)) H1 := fun s ρ1 F1 v H1 q T S1 r => by
  obtain ⟨S2, T2⟩ := S1.setV T r (i := i)
  exact P.nx _ _ F1 H1 q T2 S2 (.set hfix)
theorem snd_set {i : Nat} {e : E} {y : Str} {x : Expr} {py p : Pos} (hy : c.sto y i = true) (he : SndF g b Γ c e x) (hs : notComp x = true ∨ ¬ c.kind y = some .local) : SndS g b Γ c (.set i e) (.Assign [.Name y py] x p) := by
  intro X C ρ Q h F σ H D S P
  unfold wS at h
  obtain ⟨h1, h2, h3, h4⟩ := C.sto hy
  refine ⟨_, ps_set C.nd h1 h2 (peK x) ?_ h3, he X C ρ _ h F σ H _ S (set_core (e := e) h4 P)⟩
  rcases hs with z | z
  · exact comp_ok z
  · refine sws_nl fun e => z ?_
    unfold Cfg.kind
    rw [← C.sc]; exact e
/-- name = [..] by the machine's short way -/
theorem snd_setLc {i : Nat} {y : Str} {py p : Pos} {own : List Nat} {t : Tg} {it : It} {d : O} {e : E} {tg iter elt : Expr} {ifs : List Expr} {s : Scope} {pos : Pos} (hy : c.sto y i = true) (hl : c.kind y = some .local) (hline : (py.line == pos.line) = true) (hany : (s.names.any fun (n, k) => n == y && (k == .local || k == .cell)) = false)
    (hblk : c.block s own = true) (hin : tgIn t own = true) (hns : notSet iter = true) (hi : SndI g b Γ c it tg iter) (hg : SndG g b Γ (c.inner s) t tg)
    (ht : SndC g b Γ (c.inner s) d ifs) (he : SndE g b Γ (c.inner s) e elt) : SndS g b Γ c (.set i (.lc own t it d e)) (.Assign [.Name y py] (.ListComp elt [⟨tg, iter, ifs, 0⟩] s pos) p) := by
  intro X C ρ Q h F σ H D S P
  unfold wS wF at h
  obtain ⟨h1, h2, h3, h4⟩ := C.sto hy
  obtain ⟨k1, k2, _⟩ := C.inner hblk
  have hyl : X.env.scope.names.lookup y = some .local := by rw [C.sc]; exact hl
  refine ⟨_, ps_setLc C.lk.calm C.nd h1 hyl (sw_true C.kind hyl hline hany) (piK tg iter) k1 gB_ok tB_ok eB_ok (set_ok hns), ?_⟩
  rw [k2]
  exact lc_ok hblk hin hi hg ht he C h S fun s ρ1 F1 v H1 ⟨l, es, q⟩ T S1 r => set_core (e := e) h4 P s ρ1 F1 v H1 (by rw [es]; exact q) T S1 r
theorem snd_setLc2 {i : Nat} {y : Str} {py p : Pos} {own own2 : List Nat} {t t2 : Tg} {it it2 : It} {d d2 : O} {e : E} {tg iter tg2 iter2 elt : Expr} {ifs ifs2 : List Expr} {s : Scope} {pos : Pos} (hy : c.sto y i = true) (hl : c.kind y = some .local) (hline : (py.line == pos.line) = true) (hany : (s.names.any fun (n, k) => n == y && (k == .local || k == .cell)) = false)
    (hblk : c.block s own = true) (hown : (own2.all fun i => own.contains i) = true) (hin : tgIn t own = true) (hin2 : tgIn t2 own2 = true) (hns : notSet iter = true) (hns2 : notSet iter2 = true) (hi : SndI g b Γ c it tg iter) (hg : SndG g b Γ (c.inner s) t tg)
    (ht : SndC g b Γ (c.inner s) d ifs) (hi2 : SndI g b Γ (c.inner s) it2 tg2 iter2) (hg2 : SndG g b Γ (c.inner s) t2 tg2) (ht2 : SndC g b Γ (c.inner s) d2 ifs2) (he : SndE g b Γ (c.inner s) e elt) :
    SndS g b Γ c (.set i (.lc2 own own2 t it d t2 it2 d2 e)) (.Assign [.Name y py] (.ListComp elt [⟨tg, iter, ifs, 0⟩, ⟨tg2, iter2, ifs2, 0⟩] s pos) p) := by
  intro X C ρ Q h F σ H D S P
  unfold wS wF at h
  obtain ⟨h1, h2, h3, h4⟩ := C.sto hy
  obtain ⟨k1, k2, _⟩ := C.inner hblk
  have hyl : X.env.scope.names.lookup y = some .local := by rw [C.sc]; exact hl
  refine ⟨_, ps_setLc2 C.lk.calm C.nd h1 hyl (sw_true C.kind hyl hline hany) (piK tg iter) k1 (vs1 := own2) (by rw [k2]; exact fun i hi => List.contains_iff_mem.mp (List.all_eq_true.mp hown i hi)) gB_ok tB_ok iB_ok gB_ok tB_ok eB_ok (set_ok hns) (fun env => set_ok hns2), ?_⟩
  rw [k2]
  exact lc2_ok hblk hin hin2 hi hg ht hi2 hg2 ht2 he C h S fun s ρ1 F1 v H1 ⟨l, es, q⟩ T S1 r => set_core (e := e) h4 P s ρ1 F1 v H1 (by rw [es]; exact q) T S1 r
theorem snd_setT {l : List Nat} {e : E} {ts : List Expr} {x : Expr} {k : Nat} {q p : Pos} (hl : chkNms c l ts = true) (he : SndE g b Γ c e x) (hx : notTup x = true) : SndS g b Γ c (.setT l e) (.Assign [.Tuple ts k q] x p) := by
  intro X C ρ Q h F σ H D S P
  unfold wS at h
  refine ⟨_, ps_asg (peK x) (pgK (.Tuple ts k q)) sws_tup (sw_other hx), he X C ρ _ h F σ H _ S fun d s ρ1 F1 v H1 q T S1 r => ?_⟩
  obtain ⟨d1, c1, q⟩ := bnd_some q
  obtain ⟨F2, S2, T2, q2⟩ := S1.frz r c1
  cases d1 with
  | tup ds => exact snd_gtp hl X C (.tup ds) _ Q.nx q F2 σ H1 v _ S2 q2 fun ρ' σ' hq T3 S3 _ hfx => P.nx ρ' σ' F2 H1 hq ((T.trans T2).trans T3) S3 hfx
  | lst ds => exact snd_gtp hl X C (.lst ds) _ Q.nx q F2 σ H1 v _ S2 q2 fun ρ' σ' hq T3 S3 _ hfx => P.nx ρ' σ' F2 H1 hq ((T.trans T2).trans T3) S3 hfx
  | _ => exact q.elim

/-! stores of two, of three -/
theorem two_F {a d : E} {x y : Expr} (ha : SndF g b Γ c a x) (hb : SndF g b Γ c d y) (C : CfgOk g b Γ X c) {ρ : List Sl} {Q : Sl → Sl → List Sl → Prop} (h : wF Γ a ρ fun s1 ρ1 => wF Γ d ρ1 fun s2 ρ2 => Q s1 s2 ρ2) {σ : L2.St} {F H : Hp} (S : SR g F ρ σ H) {K : V → V → Hp → Prop}
    (P : ∀ s1 s2 ρ2 F2 v w H2, Q s1 s2 ρ2 → Stp ρ σ F H ρ2 σ F2 H2 → SR g F2 ρ2 σ H2 → SlV g H F2 H2 ρ2 σ s1 v → SlV g H F2 H2 ρ2 σ s2 w → Apart s1 s2 v w → K v w H2) : OkE X x σ H fun v H1 => OkE X y σ H1 fun w H2 => K v w H2 :=
  ha X C ρ _ h F σ H _ S fun s1 ρ1 F1 v H1 q T1 S1 r1 => hb X C ρ1 _ q F1 σ H1 _ S1 fun s2 ρ2 F2 w H2 q T2 S2 r2 =>
    P s1 s2 ρ2 F2 v w H2 q (T1.trans T2) S2 (r1.later T2) (r2.older T1.grow) (r1.apart r2)
theorem chkNm_sto {i : Nat} {x : Expr} (h : chkNm c i x = true) : ∃ y p, x = .Name y p ∧ c.sto y i = true := by
  cases x with
  | Name y p => exact ⟨y, p, rfl, h⟩
  | _ => cases h
theorem pgs_two {i j : Nat} {x y : Expr} (hi : chkNm c i x = true) (hj : chkNm c j y = true) (C : CfgOk g b Γ X c) : PGs X [x, y] (gCons (gName i) (gCons (gName j) gNil)) ∧ (assignEach [x, y] X.env).length = 2 ∧ (assignEach [x, y] X.env).findIdx? (·.1) = none := by
  obtain ⟨n1, p1, rfl, s1⟩ := chkNm_sto hi
  obtain ⟨n2, p2, rfl, s2⟩ := chkNm_sto hj
  obtain ⟨a1, a2, a3, _⟩ := C.sto s1
  obtain ⟨b1, b2, b3, _⟩ := C.sto s2
  exact ⟨pgs_cons (pg_name C.nd a1 a2 a3) (pgs_cons (pg_name C.nd b1 b2 b3) pgs_nil), rfl, rfl⟩
theorem par2_ok {i j : Nat} {s1 s2 : Sl} {v w : V} {ρ ρ2 : List Sl} {Q : Fin} {F H F2 H2 : Hp} {σ : L2.St} {D : Ends} (hi : i ∉ c.fix) (hj : j ∉ c.fix) (P : PostS g c ρ σ F H Q D) (q : Q.nx ((ρ2.set i s1).set j s2)) (T : Stp ρ σ F H ρ2 σ F2 H2) (S2 : SR g F2 ρ2 σ H2)
    (r1 : SlV g H F2 H2 ρ2 σ s1 v) (r2 : SlV g H F2 H2 ρ2 σ s2 w) (ne : Apart s1 s2 v w) : D.nx ((σ.set i (some v)).set j (some w)) H2 := by
  obtain ⟨S3, T3⟩ := S2.setV T r1 (i := i)
  obtain ⟨S4, T4⟩ := S3.setV T3 (r1.set r2 ne) (i := j)
  exact P.nx _ _ F2 H2 q T4 S4 (.trans (.set hi) (.set hj))
theorem snd_par2 {i j : Nat} {a d : E} {x y v w : Expr} {k k2 : Nat} {q q2 p : Pos} (hi : chkNm c i x = true) (hj : chkNm c j y = true) (hij : i ≠ j) (ha : SndF g b Γ c a v) (hb : SndF g b Γ c d w) (hs : notStars [v, w] = true) (hp : (parOk c [x, y] [v, w] || parCell c [x, y]) = true) :
    SndS g b Γ c (.par2 i j a d) (.Assign [.Tuple [x, y] k q] (.Tuple [v, w] k2 q2) p) := by
  intro X C ρ Q h F σ H D S P
  unfold wS at h
  obtain ⟨n1, p1, rfl, s1⟩ := chkNm_sto hi
  obtain ⟨n2, p2, rfl, s2⟩ := chkNm_sto hj
  obtain ⟨a1, a2, a3, a4⟩ := C.sto s1
  obtain ⟨b1, b2, b3, b4⟩ := C.sto s2
  have hs' : (notStar v && notStars [w]) = true := hs
  have hs2 : (notStar w && true) = true := by rw [Bool.and_eq_true] at hs'; exact hs'.2
  rw [Bool.and_eq_true] at hs' hs2
  have pa : PA X [v, w] _ := pa_cons (peK v) (pa_cons (peK w) pa_nil (star1 hs2.1)) (star1 hs'.1)
  rw [Bool.or_eq_true] at hp
  rcases hp with hp | hp
  · unfold parOk at hp
    simp only [List.all_cons, List.all_nil, Bool.and_true, List.head?_cons, Option.map_some, Option.getD_some, Expr.pos, Bool.and_eq_true, decide_eq_true_eq, Bool.not_eq_true'] at hp
    obtain ⟨⟨⟨⟨k1, _⟩, k2', k3⟩, k4⟩, k5⟩ := hp
    have e1 : X.env.scope.names.lookup n1 = some .local := by rw [C.sc]; exact k1
    have e2 : X.env.scope.names.lookup n2 = some .local := by rw [C.sc]; exact k2'
    have hne : n1 ≠ n2 := fun e => by
      rw [e] at a1
      have l1 := (List.getElem?_eq_some_iff.mp a1).1
      exact hij ((List.getElem?_inj l1 C.nd).mp (a1.trans b1.symm))
    refine ⟨_, ps_par C.lk.calm C.nd a1 b1 hij e1 e2 pa (sw_par2 C.kind e1 e2 (by simp [hne]) k3 hs (by simpa [List.all_cons] using k4) (by simpa [List.all_cons] using k5)) sws_tup, ?_⟩
    refine two_F ha hb C h S fun s1 s2 ρ2 F2 v1 w1 H2 q T S2 r1 r2 ne => ⟨v1, w1, rfl, ?_⟩
    exact par2_ok a4 b4 P q T S2 r1 r2 ne
  · have hc : X.env.kindOf n1 ≠ some .local ∨ X.env.kindOf n2 ≠ some .local := by
      unfold parCell at hp
      simp only [List.any_cons, List.any_nil, Bool.or_false, Bool.or_eq_true, Bool.not_eq_true', decide_eq_false_iff_not] at hp
      unfold Env.kindOf
      rw [C.sc]; exact hp
    obtain ⟨pg, z1, z2⟩ := pgs_two hi hj C
    refine ⟨_, ps_asg (pe_tup pa) (pg_tup C.lk.calm pg z1 z2) sws_tup (sw_cell2 hc), ?_⟩
    refine two_F ha hb C h S fun s1 s2 ρ2 F2 v1 w1 H2 q T S2 r1 r2 ne => ⟨by show 2 ≤ sizeLine; decide, fun t ht => ?_⟩
    obtain ⟨S3, T3⟩ := S2.newH (o := .tup [v1, w1]) ht
    refine ⟨t, [v1, w1], rfl, .of upd_same, rfl, v1, [w1], rfl, w1, [], rfl, rfl, ?_⟩
    exact par2_ok a4 b4 P q (T.trans T3) S3 (r1.later T3) (r2.later T3) ne
theorem pgs_three {i j l : Nat} {x y z : Expr} (hi : chkNm c i x = true) (hj : chkNm c j y = true) (hl : chkNm c l z = true) (C : CfgOk g b Γ X c) : PGs X [x, y, z] (gCons (gName i) (gCons (gName j) (gCons (gName l) gNil))) ∧ (assignEach [x, y, z] X.env).length = 3 ∧ (assignEach [x, y, z] X.env).findIdx? (·.1) = none := by
  obtain ⟨n1, p1, rfl, s1⟩ := chkNm_sto hi
  obtain ⟨n2, p2, rfl, s2⟩ := chkNm_sto hj
  obtain ⟨n3, p3, rfl, s3⟩ := chkNm_sto hl
  obtain ⟨a1, a2, a3, _⟩ := C.sto s1
  obtain ⟨b1, b2, b3, _⟩ := C.sto s2
  obtain ⟨c1, c2, c3, _⟩ := C.sto s3
  exact ⟨pgs_cons (pg_name C.nd a1 a2 a3) (pgs_cons (pg_name C.nd b1 b2 b3) (pgs_cons (pg_name C.nd c1 c2 c3) pgs_nil)), rfl, rfl⟩
theorem par3_ok {i j l : Nat} {s1 s2 s3 : Sl} {u v w : V} {ρ ρ2 : List Sl} {Q : Fin} {F H F2 H2 : Hp} {σ : L2.St} {D : Ends} (hi : i ∉ c.fix) (hj : j ∉ c.fix) (hl : l ∉ c.fix) (P : PostS g c ρ σ F H Q D) (q : Q.nx (((ρ2.set i s1).set j s2).set l s3)) (T : Stp ρ σ F H ρ2 σ F2 H2) (S2 : SR g F2 ρ2 σ H2)
    (r1 : SlV g H F2 H2 ρ2 σ s1 u) (r2 : SlV g H F2 H2 ρ2 σ s2 v) (r3 : SlV g H F2 H2 ρ2 σ s3 w) (ne : Apart s1 s2 u v) (ne2 : Apart s1 s3 u w) (ne3 : Apart s2 s3 v w) : D.nx (((σ.set i (some u)).set j (some v)).set l (some w)) H2 := by
  obtain ⟨S3, T3⟩ := S2.setV T r1 (i := i)
  obtain ⟨S4, T4⟩ := S3.setV T3 (r1.set r2 ne) (i := j)
  obtain ⟨S5, T5⟩ := S4.setV T4 ((r1.set r2 ne).set (r1.set r3 ne2) ne3) (i := l)
  exact P.nx _ _ F2 H2 q T5 S5 (.trans (.trans (.set hi) (.set hj)) (.set hl))
theorem three_F {a d e : E} {x y z : Expr} (ha : SndF g b Γ c a x) (hb : SndF g b Γ c d y) (hc : SndF g b Γ c e z) (C : CfgOk g b Γ X c) {ρ : List Sl} {Q : Sl → Sl → Sl → List Sl → Prop} (h : wF Γ a ρ fun s1 ρ1 => wF Γ d ρ1 fun s2 ρ2 => wF Γ e ρ2 fun s3 ρ3 => Q s1 s2 s3 ρ3) {σ : L2.St} {F H : Hp} (S : SR g F ρ σ H) {K : V → V → V → Hp → Prop}
    (P : ∀ s1 s2 s3 ρ2 F2 u v w H2, Q s1 s2 s3 ρ2 → Stp ρ σ F H ρ2 σ F2 H2 → SR g F2 ρ2 σ H2 → SlV g H F2 H2 ρ2 σ s1 u → SlV g H F2 H2 ρ2 σ s2 v → SlV g H F2 H2 ρ2 σ s3 w → Apart s1 s2 u v → Apart s1 s3 u w → Apart s2 s3 v w → K u v w H2) :
    OkE X x σ H fun u H1 => OkE X y σ H1 fun v H2 => OkE X z σ H2 fun w H3 => K u v w H3 :=
  two_F ha hb C h S fun s1 s2 ρ2 F2 v w H2 q T2 S2 r1 r2 ne => hc X C ρ2 _ q F2 σ H2 _ S2 fun s3 ρ3 F3 u H3 q T3 S3 r3 =>
    P s1 s2 s3 ρ3 F3 v w u H3 q (T2.trans T3) S3 (r1.later T3) (r2.later T3) (r3.older T2.grow) ne (r1.apart r3) (r2.apart r3)
theorem snd_par3 {i j l : Nat} {a d e : E} {x y z u v w : Expr} {k k2 : Nat} {q q2 p : Pos} (hi : chkNm c i x = true) (hj : chkNm c j y = true) (hl : chkNm c l z = true) (hij : i ≠ j) (hil : i ≠ l) (hjl : j ≠ l) (ha : SndF g b Γ c a u) (hb : SndF g b Γ c d v) (hc : SndF g b Γ c e w) (hs : notStars [u, v, w] = true)
    (hp : (parOk c [x, y, z] [u, v, w] || parCell c [x, y, z]) = true) : SndS g b Γ c (.par3 i j l a d e) (.Assign [.Tuple [x, y, z] k q] (.Tuple [u, v, w] k2 q2) p) := by
  intro X C ρ Q h F σ H D S P
  unfold wS at h
  obtain ⟨n1, p1, rfl, s1⟩ := chkNm_sto hi
  obtain ⟨n2, p2, rfl, s2⟩ := chkNm_sto hj
  obtain ⟨n3, p3, rfl, s3⟩ := chkNm_sto hl
  obtain ⟨a1, a2, a3, a4⟩ := C.sto s1
  obtain ⟨b1, b2, b3, b4⟩ := C.sto s2
  obtain ⟨c1, c2, c3, c4⟩ := C.sto s3
  have hs' : (notStar u && (notStar v && (notStar w && true))) = true := hs
  simp only [Bool.and_eq_true] at hs'
  have pa : PA X [u, v, w] _ := pa_cons (peK u) (pa_cons (peK v) (pa_cons (peK w) pa_nil (star1 hs'.2.2.1)) (star1 hs'.2.1)) (star1 hs'.1)
  rw [Bool.or_eq_true] at hp
  rcases hp with hp | hp
  · unfold parOk at hp
    simp only [List.all_cons, List.all_nil, Bool.and_true, List.head?_cons, Option.map_some, Option.getD_some, Expr.pos, Bool.and_eq_true, decide_eq_true_eq, Bool.not_eq_true'] at hp
    obtain ⟨⟨⟨⟨k1, _⟩, ⟨k2', k3⟩, k2'', k3'⟩, k4⟩, k5⟩ := hp
    have e1 : X.env.scope.names.lookup n1 = some .local := by rw [C.sc]; exact k1
    have e2 : X.env.scope.names.lookup n2 = some .local := by rw [C.sc]; exact k2'
    have e3 : X.env.scope.names.lookup n3 = some .local := by rw [C.sc]; exact k2''
    have ne : ∀ {i j : Nat} {n m : Str}, X.N[i]? = some n → X.N[j]? = some m → i ≠ j → n ≠ m := fun {i j n m} a1 b1 hij e => by
      rw [e] at a1
      have l1 := (List.getElem?_eq_some_iff.mp a1).1
      exact hij ((List.getElem?_inj l1 C.nd).mp (a1.trans b1.symm))
    refine ⟨_, ps_par3 C.lk.calm C.nd a1 b1 c1 hij hil hjl e1 e2 e3 pa (sw_par3 C.kind e1 e2 e3 (by simp [ne a1 b1 hij, ne a1 c1 hil, ne b1 c1 hjl]) k3 k3' hs (by simpa [List.all_cons] using k4) (by simpa [List.all_cons] using k5)) sws_tup, ?_⟩
    refine three_F ha hb hc C h S fun s1 s2 s3 ρ2 F2 v1 w1 u1 H2 q T S2 r1 r2 r3 ne ne2 ne3 => ⟨v1, w1, u1, rfl, ?_⟩
    exact par3_ok a4 b4 c4 P q T S2 r1 r2 r3 ne ne2 ne3
  · have hcc : X.env.kindOf n1 ≠ some .local ∨ X.env.kindOf n2 ≠ some .local ∨ X.env.kindOf n3 ≠ some .local := by
      unfold parCell at hp
      simp only [List.any_cons, List.any_nil, Bool.or_false, Bool.or_eq_true, Bool.not_eq_true', decide_eq_false_iff_not] at hp
      unfold Env.kindOf
      rw [C.sc]; exact hp
    obtain ⟨pg, z1, z2⟩ := pgs_three hi hj hl C
    refine ⟨_, ps_asg (pe_tup pa) (pg_tup C.lk.calm pg z1 z2) sws_tup (sw_cell3 hcc), ?_⟩
    refine three_F ha hb hc C h S fun s1 s2 s3 ρ2 F2 v1 w1 u1 H2 q T S2 r1 r2 r3 ne ne2 ne3 => ⟨by show 3 ≤ sizeLine; decide, fun t ht => ?_⟩
    obtain ⟨S3, T3⟩ := S2.newH (o := .tup [v1, w1, u1]) ht
    refine ⟨t, [v1, w1, u1], rfl, .of upd_same, rfl, v1, [w1, u1], rfl, w1, [u1], rfl, u1, [], rfl, rfl, ?_⟩
    exact par3_ok a4 b4 c4 P q (T.trans T3) S3 (r1.later T3) (r2.later T3) (r3.later T3) ne ne2 ne3
/-! name[k] = e -/
theorem stD_key {c dk d x : D} {F H : Hp} {σ : L2.St} {ρ : List Sl} {s : Option Nat} {v : V} (h : stD c dk d = some x) (r : VR g F σ s dk v) : Rep g F dk v := by
  refine r.rep ?_
  cases dk with
  | lst l => cases c <;> cases h
  | dic l => cases c <;> cases h
  | _ => rfl
theorem rd_of {d : D} {F H : Hp} {v : V} (sub : Same F H) (r : Rep g F d v) : RdV g F H d v := Rep.rd sub r
theorem snd_put {i : Nat} {k e : E} {y : Str} {r x : Expr} {py ps p : Pos} (hy : c.vis y i = true) (hk : SndE g b Γ c k r) (hr : notSlice r = true) (he : SndE g b Γ c e x) : SndS g b Γ c (.put i k e) (.Assign [.Subscript (.Name y py) r ps] x p) := by
  intro X C ρ Q h F σ H D S P
  unfold wS at h
  obtain ⟨n1, n2, n3, n4⟩ := C.vis hy
  refine ⟨_, ps_asg (peK x) (pg_sub (pe_var n1 n2 n3 n4) (peK r) (psetK X) (fun v => ?_)) sws_sub sts_sub, he X C ρ _ h F σ H _ S fun d s ρ1 F1 v H1 q T S1 r1 => ?_⟩
  · cases r <;> first | rfl | cases hr
  dsimp only at q
  split at q
  · rename_i c0 e0
    obtain ⟨a, o, ea, _⟩ := S1.ow i c0 e0
    refine ⟨_, ea, hk X C ρ1 _ q F1 σ H1 _ S1 fun dk sk ρ2 F2 w H2 q T2 S2 r2 => ?_⟩
    obtain ⟨d1, c1, q⟩ := bnd_some q
    obtain ⟨F3, S3, T3, q3⟩ := S2.frz (r1.mono T2.sub) c1
    split at q
    · rename_i cc ec
      obtain ⟨c', es, q⟩ := bnd_some q
      have rk := stD_key (H := H2) (ρ := ρ2) es r2
      refine stOk S3 C.hu ec ea (rd_of S3.sub (rk.mono T3.sub)) q3 es fun ρ' H' e T4 S4 => ?_
      subst e
      exact P.nx _ σ F3 H' q (((T.trans T2).trans T3).trans T4) S4 .refl
    · exact q.elim
  · exact q.elim
end
end FT

set_option Elab.async false
set_option linter.all false
set_option maxRecDepth 100000
set_option autoImplicit false
set_option maxHeartbeats 2000000
namespace FT
open PySem PySem.Spec PyProof.Rows L2
section
variable {g : G} {b : BF} {Γ : Nat → Option Con} {c : Cfg} {X : Cx}
/-! ### A[i], A[j] = A[j], A[i] -/
theorem RdV.of_own {ρ : List Sl} {σ : L2.St} {F H : Hp} {i : Nat} {d : D} {v : V} (S : SR g F ρ σ H) (e : ρ[i]? = some (.ow d)) (ev : σ[i]? = some (some v)) (hd : d.coll = true) : RdV g F H d v :=
  S.rd (s := some i) (d := d) ⟨ev, hd⟩ (by unfold cur; dsimp only; rw [e])
theorem loc_ok {m : Nat} {r : Expr} (h : SndE g b Γ c (.loc m) r) (C : CfgOk g b Γ X c) {ρ : List Sl} {σ : L2.St} {F H : Hp} {d : D} (S : SR g F ρ σ H) (e : ρ[m]? = some (.sh d)) {K : VK} (k : ∀ F1 v H1, Stp ρ σ F H ρ σ F1 H1 → SR g F1 ρ σ H1 → Rep g F1 d v → K v H1) : OkE X r σ H K := by
  refine h X C ρ (fun d1 s1 ρ1 => d1 = d ∧ s1 = none ∧ ρ1 = ρ) (by unfold wE; rw [e]; exact ⟨rfl, rfl, rfl⟩) F σ H K S fun d1 s1 ρ1 F1 v H1 ⟨q1, q2, q3⟩ T1 S1 r1 => ?_
  rw [q3] at T1 S1
  rw [q1, q2] at r1
  exact k F1 v H1 T1 S1 r1
theorem snd_swap {i : Nat} {a d : E} {y y' z z' : Str} {r r' s s' : Expr} {q1 q2 q3 q4 p1 p2 p3 p4 pt pt2 p : Pos} {k k2 : Nat} (hy : c.vis y i = true) (hy' : c.vis y' i = true) (hz : c.vis z i = true) (hz' : c.vis z' i = true)
    (ha : SndE g b Γ c a r) (hb : SndE g b Γ c d r') (ha' : SndE g b Γ c d s) (hb' : SndE g b Γ c a s') (n1 : notSlice r = true) (n2 : notSlice r' = true) (n3 : notSlice s = true) (n4 : notSlice s' = true)
    (hl1 : ∃ m, a = .loc m) (hl2 : ∃ m, d = .loc m) :
    SndS g b Γ c (.swap i a d) (.Assign [.Tuple [.Subscript (.Name y q1) r p1, .Subscript (.Name y' q2) r' p2] k pt] (.Tuple [.Subscript (.Name z q3) s p3, .Subscript (.Name z' q4) s' p4] k2 pt2) p) := by
  intro X C ρ Q h F σ H DD S P
  obtain ⟨m, rfl⟩ := hl1
  obtain ⟨m2, rfl⟩ := hl2
  unfold wS at h
  obtain ⟨a1, a2, a3, a4⟩ := C.vis hy
  obtain ⟨b1, b2, b3, b4⟩ := C.vis hy'
  obtain ⟨c1, c2, c3, c4⟩ := C.vis hz
  obtain ⟨d1, d2, d3, d4⟩ := C.vis hz'
  -- the two places
  have look : ∀ {m : Nat} {Q' : D → Option Nat → List Sl → Prop}, wE Γ (.loc m) ρ Q' → (∃ dd, ρ[m]? = some (.sh dd) ∧ Q' dd none ρ) ∨ ∃ dd, ρ[m]? = some (.ow dd) ∧ Q' dd (some m) ρ := fun {m Q'} h => by
    unfold wE at h
    split at h
    · rename_i dd e; exact .inl ⟨dd, e, h⟩
    · rename_i dd e; exact .inr ⟨dd, e, h⟩
    · exact h.elim
  rcases look h with ⟨da, ea, h⟩ | ⟨da, ea, h⟩
  case inr =>
    rcases look h with ⟨db, eb, h⟩ | ⟨db, eb, h⟩
    · obtain ⟨_, z, _⟩ := h; cases z
    · obtain ⟨_, z, _⟩ := h; cases z
  rcases look h with ⟨db, eb, h⟩ | ⟨db, eb, h⟩
  case inr => obtain ⟨_, _, z, _⟩ := h; cases z
  obtain ⟨_, _, _, h⟩ := h
  split at h
  case h_2 => exact h.elim
  rename_i cc ec
  obtain ⟨x, ex, h⟩ := bnd_some h
  obtain ⟨yv, ey, h⟩ := bnd_some h
  obtain ⟨k1, ek1, h⟩ := bnd_some h
  obtain ⟨k2', ek2, h⟩ := bnd_some h
  obtain ⟨ad, o, es, ef, eh, ro⟩ := S.ow i _ ec
  have nim : ∀ {n : Nat} {dd : D}, ρ[n]? = some (.sh dd) → i ≠ n := fun {n dd} e z => by rw [← z, ec] at e; cases e
  have hi : i < ρ.length := (List.getElem?_eq_some_iff.mp ec).1
  refine ⟨_, ps_asg (pe_tup (pa_cons (pe_ix (ixrK X) (pe_var c1 c2 c3 c4) (peK s) (slice_ok n3)) (pa_cons (pe_ix (ixrK X) (pe_var d1 d2 d3 d4) (peK s') (slice_ok n4)) pa_nil rfl) rfl))
    (pg_tup C.lk.calm (pgs_cons (pg_sub (pe_var a1 a2 a3 a4) (peK r) (psetK X) (fun v => by cases r <;> first | rfl | cases n1)) (pgs_cons (pg_sub (pe_var b1 b2 b3 b4) (peK r') (psetK X) (fun v => by cases r' <;> first | rfl | cases n2)) pgs_nil)) rfl rfl) sws_tup sw_sub2, ?_⟩
  refine ⟨_, es, loc_ok ha' C S eb fun F1 v1 H1 T1 S1 r1 => ?_⟩
  refine ixOk S1 (by rw [C.lk.K]; exact C.e.ty.gK) C.hu (RdV.of_own S1 ec es rfl) (rd_of S1.sub r1) ex fun F2 H2 vx T2 S2 rx => ?_
  refine ⟨_, es, loc_ok hb' C S2 ea fun F3 v3 H3 T3 S3 r3 => ?_⟩
  refine ixOk S3 (by rw [C.lk.K]; exact C.e.ty.gK) C.hu (RdV.of_own S3 ec es rfl) (rd_of S3.sub r3) ey fun F4 H4 vy T4 S4 ry => ?_
  refine ⟨by show 2 ≤ sizeLine; decide, fun t ht => ?_⟩
  obtain ⟨S5, T5⟩ := S4.newH (o := .tup [vx, vy]) ht
  have Tall := (((T1.trans T2).trans T3).trans T4).trans T5
  refine ⟨t, [vx, vy], rfl, .of upd_same, rfl, vx, [vy], rfl, ?_⟩
  refine ⟨_, es, loc_ok ha C S5 ea fun F6 v6 H6 T6 S6 r6 => ?_⟩
  refine stOk S6 C.hu ec es (rd_of S6.sub r6) (rx.mono (((T3.trans T4).trans T5).trans T6).sub) ek1 fun ρ7 H7 e7 T7 S7 => ?_
  subst e7
  have ec7 : (ρ.set i (.ow k1))[i]? = some (.ow k1) := List.getElem?_set_self hi
  refine ⟨vy, [], rfl, _, es, loc_ok hb C S7 (by rw [List.getElem?_set_ne (nim eb)]; exact eb) fun F8 v8 H8 T8 S8 r8 => ?_⟩
  refine stOk S8 C.hu ec7 es (rd_of S8.sub r8) (ry.mono (((T5.trans T6).trans T7).trans T8).sub) ek2 fun ρ9 H9 e9 T9 S9 => ?_
  subst e9
  refine ⟨rfl, P.nx _ σ F8 H9 ?_ ((((Tall.trans T6).trans T7).trans T8).trans T9) S9 .refl⟩
  rw [List.set_set]; exact h
/-! ### return -/
theorem SlV.r {ρ ρ' : List Sl} {σ : L2.St} {H F' H' : Hp} {s : Sl} {v : V} (r : SlV g H F' H' ρ' σ s v) : SlR g ρ σ H F' H' ρ' σ s v := by
  cases s with
  | un => exact r
  | sh d => exact r
  | ow d =>
    obtain ⟨a, o, rfl, h1, h2, h3, h4, h5⟩ := r
    exact ⟨a, o, rfl, h1, h2, h3, h4, .inr h5⟩
theorem snd_retF {e : E} {x : Expr} {p : Pos} (he : SndF g b Γ c e x) (hw : ∀ ρ Q, wR Γ e ρ Q → wF Γ e ρ Q) : SndS g b Γ c (.ret e) (.Return (some x) p) := by
  intro X C ρ Q h F σ H DD S P
  unfold wS at h
  exact ⟨_, ps_ret (peK x), he X C ρ _ (hw _ _ h) F σ H _ S fun s ρ1 F1 v H1 q T S1 r => P.rt s ρ1 σ F1 v H1 q T S1 .refl r.r⟩
theorem snd_retL {i : Nat} {y : Str} {py p : Pos} (hy : c.vis y i = true) : SndS g b Γ c (.ret (.loc i)) (.Return (some (.Name y py)) p) := by
  intro X C ρ Q h F σ H DD S P
  unfold wS wR at h
  dsimp only at h
  obtain ⟨n1, n2, n3, n4⟩ := C.vis hy
  refine ⟨_, ps_ret (pe_var n1 n2 n3 n4), ?_⟩
  split at h
  · rename_i d e
    obtain ⟨v, ev, r⟩ := S.sh i d e
    exact ⟨v, ev, P.rt (.sh d) ρ σ F v H h .refl S .refl r⟩
  · rename_i d e
    obtain ⟨a, o, ea, ef, eh, ro⟩ := S.ow i d e
    have hi : i < ρ.length := (List.getElem?_eq_some_iff.mp e).1
    have key : ∀ (m : Nat) (dm : D), (ρ.set i .un)[m]? = some (Sl.ow dm) → i ≠ m ∧ ρ[m]? = some (Sl.ow dm) := fun m dm em => by
      by_cases z : i = m
      · subst z; rw [List.getElem?_set_self hi] at em; cases em
      · rw [List.getElem?_set_ne z] at em; exact ⟨z, em⟩
    have S' : SR g F (ρ.set i .un) σ H := by
      refine ⟨S.sub, by rw [List.length_set]; exact S.len, fun j d' ej => ?_, fun j d' ej => S.ow j d' (key j d' ej).2, fun j k d1 d2 z ej ek => S.inj j k d1 d2 z (key j d1 ej).2 (key k d2 ek).2⟩
      by_cases z : i = j
      · subst z; rw [List.getElem?_set_self hi] at ej; cases ej
      · rw [List.getElem?_set_ne z] at ej; exact S.sh j d' ej
    have T' : Stp ρ σ F H (ρ.set i .un) σ F H := ⟨Same.refl _, fun _ _ h _ => h, fun _ h => .inl h, fun z ⟨j, dj, ej, es⟩ => .inl ⟨j, dj, (key j dj ej).2, es⟩, fun _ h => h⟩
    refine ⟨.ref a, ea, P.rt (.ow d) _ σ F (.ref a) H h T' S' .refl ⟨a, o, rfl, ef, eh, ro, fun ⟨j, dj, ej, es⟩ => ?_, .inl ⟨i, d, e, ea⟩⟩⟩
    obtain ⟨k1, k2⟩ := key j dj ej
    exact k1 (S.inj i j d dj a e k2 ea es)
  · exact h.elim
/-! ### if, for, while -/
theorem snd_if {e : E} {x : Expr} {a d : Ss} {xs ys : List Stmt} {p : Pos} (he : SndT g b Γ c e x) (ha : SndB g b Γ c a xs) (hb : SndB g b Γ c d ys) : SndS g b Γ c (.ifs e a d) (.If x xs ys p) := by
  intro X C ρ Q h F σ H DD S P
  unfold wS at h
  refine ⟨_, ps_if (ptK x) (pbK xs) (pbK ys), he X C ρ _ h F σ H _ S (fun d s ρ' q => let ⟨k, e, _⟩ := wE_bl q; ⟨k, e⟩) fun k s ρ1 F1 H1 q T S1 => ?_⟩
  cases k with
  | true => rw [if_pos rfl]; exact ha X C ρ1 Q q F1 σ H1 DD S1 (P.step T .refl)
  | false => rw [if_neg Bool.false_ne_true]; exact hb X C ρ1 Q q F1 σ H1 DD S1 (P.step T .refl)
theorem snd_for {t : Tg} {it : It} {d : Ss} {tg iter : Expr} {xs : List Stmt} {p : Pos} (hi : SndI g b Γ c it tg iter) (hns : notSet iter = true) (hg : SndG g b Γ c t tg) (hb : SndB g b Γ c d xs) : SndS g b Γ c (.for_ t it d) (.For tg iter xs [] p) := by
  intro X C ρ Q h F σ H DD S P
  unfold wS at h
  refine ⟨_, ps_for (by rw [C.lk.xe]; exact PassesOwn.never) C.lk.calm (piK tg iter) (pgK tg) (pbK xs) (set_ok hns), ?_⟩
  refine hi X C ρ _ h F σ H _ S fun items st ρ0 F0 H0 J ok ⟨I, i0, istep, ifin⟩ T0 S0 hl W hok0 => ?_
  obtain ⟨F1, S1, T1, hok⟩ := hok0.frz S0
  refine ⟨fun i m σ' H' => ∃ ρ2 F2, i ≤ items.length ∧ m = items.length - i ∧ I i ρ2 ∧ Stp ρ σ F H ρ2 σ' F2 H' ∧ SR g F2 ρ2 σ' H' ∧ Same F1 F2 ∧ Fixd c σ σ', ⟨items.length, _, F1, Nat.zero_le _, rfl, i0, T0.trans T1, S1, .refl _, .refl⟩, ?_⟩
  rintro i m σ' H' ⟨ρ2, F2, hi1, hm, hI, T2, S2, sub2, f2⟩
  have hok2 := hok F2 H' sub2 S2.sub
  by_cases hlt : i < items.length
  · refine .inr ⟨W.go i F2 H' hok2 hlt, fun σ'' H'' => ∃ ρ2 F2, i + 1 ≤ items.length ∧ I (i + 1) ρ2 ∧ Stp ρ σ F H ρ2 σ'' F2 H'' ∧ SR g F2 ρ2 σ'' H'' ∧ Same F1 F2 ∧ Fixd c σ σ'',
      fun σ'' H'' ⟨ρ2, F2, a1, a2, a3, a4, a5, a6⟩ => ⟨items.length - (i + 1), by omega, ρ2, F2, a1, rfl, a2, a3, a4, a5, a6⟩, fun x H'' y => ?_⟩
    obtain ⟨dd, F3, ed, S3, T3, q3⟩ := W.draw S2 hok2 y hlt
    refine hg X C dd ρ2 _ (istep i dd ρ2 ed hI) F3 σ' H'' x _ S3 q3 fun ρ4 σ4 hq T4 S4 _ f4 => ?_
    have T24 := (T2.trans T3).trans T4
    refine hb X C ρ4 _ hq F3 σ4 H'' _ S4 ⟨fun ρ5 σ5 F5 H5 q T5 S5 f5 => ⟨ρ5, F5, hlt, q, T24.trans T5, S5, (sub2.trans T3.sub).trans T5.sub, (f2.trans f4).trans f5⟩, fun s ρ5 σ5 F5 v H5 q T5 S5 f5 r => P.rt s ρ5 σ5 F5 v H5 q (T24.trans T5) S5 ((f2.trans f4).trans f5) (r.step T24)⟩
  · have hii : i = items.length := by omega
    subst hii
    exact .inl ⟨W.stop F2 H' hok2, P.nx ρ2 σ' F2 H' (ifin ρ2 hI) T2 S2 f2⟩
/-- a loop over a list that stands alone and stays so: its slot is empty meanwhile -/
theorem snd_forK {i : Nat} {t : Tg} {d : Ss} {tg : Expr} {y : Str} {py : Pos} {xs : List Stmt} {p : Pos} (hy : c.vis y i = true) (hfx : c.fix = []) (hg : SndG g b Γ { c with fix := [i] } t tg) (hb : SndB g b Γ { c with fix := [i] } d xs) : SndS g b Γ c (.forK i t d) (.For tg (.Name y py) xs [] p) := by
  intro X C ρ Q h F σ H DD S P
  unfold wS at h
  split at h
  · rename_i items e
    obtain ⟨I, i0, istep, ifin⟩ := h
    obtain ⟨a, o, ea, ef, eh, ro⟩ := S.ow i _ e
    obtain ⟨vs, rfl, l1, r1⟩ := ro
    obtain ⟨n1, n2, n3, n4⟩ := C.vis hy
    have hi : i < ρ.length := (List.getElem?_eq_some_iff.mp e).1
    have key : ∀ (m : Nat) (dm : D), (ρ.set i .un)[m]? = some (Sl.ow dm) → i ≠ m ∧ ρ[m]? = some (Sl.ow dm) := fun m dm em => by
      by_cases z : i = m
      · subst z; rw [List.getElem?_set_self hi] at em; cases em
      · rw [List.getElem?_set_ne z] at em; exact ⟨z, em⟩
    have S0 : SR g F (ρ.set i .un) σ H := by
      refine ⟨S.sub, by rw [List.length_set]; exact S.len, fun j d' ej => ?_, fun j d' ej => S.ow j d' (key j d' ej).2, fun j k d1 d2 z ej ek => S.inj j k d1 d2 z (key j d1 ej).2 (key k d2 ek).2⟩
      by_cases z : i = j
      · subst z; rw [List.getElem?_set_self hi] at ej; cases ej
      · rw [List.getElem?_set_ne z] at ej; exact S.sh j d' ej
    have T0 : Stp ρ σ F H (ρ.set i .un) σ F H := ⟨Same.refl _, fun _ _ h _ => h, fun _ h => .inl h, fun z ⟨j, dj, ej, es⟩ => .inl ⟨j, dj, (key j dj ej).2, es⟩, fun _ h => h⟩
    have nO : ¬ OwnA (ρ.set i .un) σ a := fun ⟨j, dj, ej, es⟩ => by
      obtain ⟨k1, k2⟩ := key j dj ej
      exact k1 (S.inj i j _ dj a e k2 ea es)
    have C' : CfgOk g b Γ X { c with fix := [i] } := ⟨C.lk, C.N, C.nd, C.sc, C.kind, C.e, C.gd, C.blk⟩
    have W : WalkD g items (fun F H => ∃ vs, H a = some (.lst vs) ∧ RepL g F items vs) (Itl X.K a) := walk_lst
    refine ⟨_, ps_for (by rw [C.lk.xe]; exact PassesOwn.never) C.lk.calm (pi_val (pe_var n1 n2 n3 n4)) (pgK tg) (pbK xs) (set_ok rfl), .ref a, ea, .inl ⟨a, vs, rfl, .of eh, ?_⟩⟩
    refine ⟨fun k m σ' H' => ∃ ρ2 F2, k ≤ items.length ∧ m = items.length - k ∧ I k ρ2 ∧ Stp (ρ.set i .un) σ F H ρ2 σ' F2 H' ∧ SR g F2 ρ2 σ' H' ∧ Fixd { c with fix := [i] } σ σ', ⟨items.length, _, F, Nat.zero_le _, rfl, i0, .refl, S0, .refl⟩, ?_⟩
    rintro k m σ' H' ⟨ρ2, F2, hk1, hm, hI, T2, S2, f2⟩
    have hok2 : ∃ vs, H' a = some (.lst vs) ∧ RepL g F2 items vs := ⟨vs, T2.keep a _ eh nO, r1.mono T2.sub⟩
    by_cases hlt : k < items.length
    · refine .inr ⟨W.go k F2 H' hok2 hlt, fun σ'' H'' => ∃ ρ2 F2, k + 1 ≤ items.length ∧ I (k + 1) ρ2 ∧ Stp (ρ.set i .un) σ F H ρ2 σ'' F2 H'' ∧ SR g F2 ρ2 σ'' H'' ∧ Fixd { c with fix := [i] } σ σ'',
        fun σ'' H'' ⟨ρ2, F2, a1, a2, a3, a4, a5⟩ => ⟨items.length - (k + 1), by omega, ρ2, F2, a1, rfl, a2, a3, a4, a5⟩, fun x H'' yy => ?_⟩
      obtain ⟨dd, F3, ed, S3, T3, q3⟩ := W.draw S2 hok2 yy hlt
      refine hg X C' dd ρ2 _ (istep k dd ρ2 ed hI) F3 σ' H'' x _ S3 q3 fun ρ4 σ4 hq T4 S4 _ f4 => ?_
      have T24 := (T2.trans T3).trans T4
      refine hb X C' ρ4 _ hq F3 σ4 H'' _ S4 ⟨fun ρ5 σ5 F5 H5 q T5 S5 f5 => ⟨ρ5, F5, hlt, q, T24.trans T5, S5, (f2.trans f4).trans f5⟩, fun s ρ5 σ5 F5 v H5 q T5 S5 f5 r => ?_⟩
      exact P.rt s ρ5 σ5 F5 v H5 q (T0.trans (T24.trans T5)) S5 (fun j hj => by rw [hfx] at hj; cases hj) (r.step (T0.trans T24))
    · have hii : k = items.length := by omega
      subst hii
      have es : σ'[i]? = some (some (V.ref a)) := by rw [f2 i List.mem_cons_self]; exact ea
      have eset : σ'.set i (some (V.ref a)) = σ' := by
        apply List.ext_getElem?
        intro j
        by_cases z : i = j
        · subst z
          rw [List.getElem?_set_self (List.getElem?_eq_some_iff.mp es).1, es]
        · rw [List.getElem?_set_ne z]
      have fa : F2 a = none := by
        cases q : F2 a with
        | none => rfl
        | some u =>
          rcases T2.newF a (by rw [q]; simp) with z | z | z
          · exact absurd ef z
          · rw [eh] at z; cases z
          · exact absurd z nO
      have no2 : ¬ OwnA ρ2 σ' a := fun z => by
        rcases T2.own a z with z | z
        · exact nO z
        · rw [eh] at z; cases z
      have S5 := S2.setOw (i := i) (d := .lst items) (a := a) (o := .lst vs) ⟨vs, rfl, l1, r1.mono T2.sub⟩ fa (T2.keep a _ eh nO) no2
      rw [eset] at S5
      have T02 := T0.trans T2
      have T5 : Stp ρ σ F H (ρ2.set i (.ow (.lst items))) σ' F2 H' := ⟨T02.sub, T02.keep, T02.newF, fun z ⟨j, dj, ej, ez⟩ => by
        by_cases w : i = j
        · subst w
          rw [es] at ez
          cases ez
          exact .inl ⟨i, _, e, ea⟩
        · rw [List.getElem?_set_ne w] at ej
          exact T02.own z ⟨j, dj, ej, ez⟩, T02.grow⟩
      exact .inl ⟨W.stop F2 H' hok2, P.nx _ σ' F2 H' (ifin ρ2 hI) T5 S5 (fun j hj => by rw [hfx] at hj; cases hj)⟩
  · exact h.elim
theorem snd_whl {e : E} {x : Expr} {d : Ss} {xs : List Stmt} {p : Pos} (he : SndT g b Γ c e x) (hb : SndB g b Γ c d xs) : SndS g b Γ c (.whl e d) (.While x xs [] p) := by
  intro X C ρ Q h F σ H DD S P
  unfold wS at h
  obtain ⟨I, ⟨m0, i0⟩, istep⟩ := h
  refine ⟨_, ps_while (by rw [C.lk.xe]; exact PassesOwn.never) (ptK x) (pbK xs), ?_⟩
  refine ⟨fun m σ' H' => ∃ ρ2 F2, I m ρ2 ∧ Stp ρ σ F H ρ2 σ' F2 H' ∧ SR g F2 ρ2 σ' H' ∧ Fixd c σ σ', ⟨m0, ρ, F, i0, .refl, S, .refl⟩, ?_⟩
  rintro m σ' H' ⟨ρ2, F2, hI, T2, S2, f2⟩
  refine he X C ρ2 _ (istep m ρ2 hI) F2 σ' H' _ S2 (fun d s ρ' q => let ⟨k, e, _⟩ := wE_bl q; ⟨k, e⟩) fun k s ρ3 F3 H3 q T3 S3 => ?_
  cases k with
  | false => rw [if_neg Bool.false_ne_true]; exact P.nx ρ3 σ' F3 H3 q (T2.trans T3) S3 f2
  | true =>
    rw [if_pos rfl]
    have T23 := T2.trans T3
    refine ⟨fun σ'' H'' => ∃ m' ρ2 F2, m' < m ∧ I m' ρ2 ∧ Stp ρ σ F H ρ2 σ'' F2 H'' ∧ SR g F2 ρ2 σ'' H'' ∧ Fixd c σ σ'', fun σ'' H'' ⟨m', ρ2, F2, a1, a2, a3, a4, a5⟩ => ⟨m', a1, ρ2, F2, a2, a3, a4, a5⟩, ?_⟩
    exact hb X C ρ3 _ q F3 σ' H3 _ S3 ⟨fun ρ5 σ5 F5 H5 ⟨m', hm, q⟩ T5 S5 f5 => ⟨m', ρ5, F5, hm, q, T23.trans T5, S5, f2.trans f5⟩, fun s ρ5 σ5 F5 v H5 q T5 S5 f5 r => P.rt s ρ5 σ5 F5 v H5 q (T23.trans T5) S5 (f2.trans f5) (r.step T23)⟩
end
end FT

set_option Elab.async false
set_option linter.all false
set_option maxRecDepth 100000
set_option autoImplicit false
set_option maxHeartbeats 2000000
namespace FT
open PySem PySem.Spec PyProof.Rows L2
def isBool : Expr → Bool
  | .BoolOp .. => true | _ => false
/-- no rule of its own as a test -/
def plainT : Expr → Bool
  | .BoolOp .. => false | .Compare .. => false | .IfExp .. => false | .UnaryOp .Not _ _ => false | _ => true
theorem plain_true {x : Expr} (h : plainT x = true) (env : Env) (whole : Sem Value) : isTrue x env whole = (do let v ← whole; standAt x.pos; holding [v] (truthy v)) := by
  cases x <;> first | rfl | (cases h; done) | skip
  rename_i op y p
  cases op <;> first | rfl | (cases h; done)
section
variable {g : G} {b : BF} {Γ : Nat → Option Con} {c : Cfg}
/-- what stands for an expression -/
structure Al (g : G) (b : BF) (Γ : Nat → Option Con) (c : Cfg) (e : E) (x : Expr) : Prop where
  ev : SndE g b Γ c e x
  t : noIf e = true → SndT g b Γ c e x
  w : noIf e = true → isBool x = true → SndW g b Γ c e x
  f : SndF g b Γ c e x
theorem Al.plain {e : E} {x : Expr} (h : SndE g b Γ c e x) (hp : plainT x = true) (hf : SndF g b Γ c e x) : Al g b Γ c e x :=
  ⟨h, fun _ => SndE.t h (plain_true hp), fun _ hb => (by cases x <;> first | (cases hb; done) | (cases hp; done)), hf⟩
theorem Al.def' {e : E} {x : Expr} (h : SndE g b Γ c e x) (hp : plainT x = true) (hf : ∀ ρ Q, wF Γ e ρ Q → wE Γ e ρ fun d s ρ1 => bnd (cur s d ρ1) fun d => Q (.sh d) (frz s ρ1)) : Al g b Γ c e x := .plain h hp (snd_fdef h hf)
theorem Al.test {e : E} {x : Expr} (h : SndE g b Γ c e x) (ht : SndT g b Γ c e x) (hx : isBool x = false) (hf : ∀ ρ Q, wF Γ e ρ Q → wE Γ e ρ fun d s ρ1 => bnd (cur s d ρ1) fun d => Q (.sh d) (frz s ρ1)) : Al g b Γ c e x :=
  ⟨h, fun _ => ht, fun _ hb => (by rw [hx] at hb; cases hb), snd_fdef h hf⟩
theorem chkA_stars : ∀ {es : Es} {xs : List Expr}, chkA c es xs = true → notStars xs = true
  | .nil, [], _ => rfl
  | .nil, _ :: _, h => by unfold chkA at h; cases h
  | .cons e es, [], h => by unfold chkA at h; cases h
  | .cons e es, x :: xs, h => by
    unfold chkA at h
    simp only [Bool.and_eq_true] at h
    show (notStar x && notStars xs) = true
    rw [h.1.2, chkA_stars h.2]; rfl
theorem chkI_set {it : It} {x : Expr} (h : chkI c it x = true) : notSet x = true := by
  cases it with
  | val e => unfold chkI at h; rw [Bool.and_eq_true] at h; exact h.2
  | keys e => unfold chkI at h; cases h
  | rng1 a => unfold chkI at h; split at h <;> first | rfl | cases h
  | rng2 a d => unfold chkI at h; split at h <;> first | rfl | cases h
  | enum e => unfold chkI at h; split at h <;> first | rfl | cases h
  | zip a d => unfold chkI at h; split at h <;> first | rfl | cases h
/-! leaves -/
theorem snd_kInt {i : Int} {k : Nat} {p : Pos} : SndE g b Γ c (.kInt i) (.Constant (.int i) k p) := fun X C ρ Q h F σ H K S P => ⟨_, pe_int, P _ none ρ F _ H h .refl S rfl⟩
theorem snd_kBl {i : Bool} {k : Nat} {p : Pos} : SndE g b Γ c (.kBl i) (.Constant (.bool i) k p) := fun X C ρ Q h F σ H K S P => ⟨_, pe_bl, P _ none ρ F _ H h .refl S rfl⟩
theorem snd_kNon {k : Nat} {p : Pos} : SndE g b Γ c .kNon (.Constant .none k p) := fun X C ρ Q h F σ H K S P => ⟨_, pe_non, P _ none ρ F _ H h .refl S rfl⟩
theorem snd_kStr {s : Str} {k : Nat} {p : Pos} (h1 : fits s.length = true) (h2 : s.cps.all (· < 0x110000) = true) : SndE g b Γ c (.kStr s) (.Constant (.str s) k p) := fun X C ρ Q h F σ H K S P => ⟨_, pe_str, P _ none ρ F _ H h .refl S ⟨rfl, of_decide_eq_true h1, h2⟩⟩
theorem snd_loc {i : Nat} {y : Str} {p : Pos} (hy : c.vis y i = true) : SndE g b Γ c (.loc i) (.Name y p) := by
  intro X C ρ Q h F σ H K S P
  obtain ⟨n1, n2, n3, n4⟩ := C.vis hy
  unfold wE at h
  split at h
  · rename_i d e
    obtain ⟨v, ev, r⟩ := S.sh i d e
    exact ⟨_, pe_var n1 n2 n3 n4, v, ev, P d none ρ F v H h .refl S r⟩
  · rename_i d e
    obtain ⟨a, o, ea, _, _, ro⟩ := S.ow i d e
    exact ⟨_, pe_var n1 n2 n3 n4, _, ea, P d (some i) ρ F _ H h .refl S ⟨ea, ro.coll⟩⟩
  · exact h.elim
theorem snd_lr {e : E} {y r : Str} {z : Expr} {p p2 p3 pos : Pos} (hy : y = "list") (hg : c.bt y = true) (hr : r = "range") (hg2 : c.bt r = true) (ha : SndA g b Γ c (.cons e .nil) [z]) (hs : notStars [z] = true) (hE : ∀ e', Es.cons e .nil = .cons e' .nil → SndE g b Γ c e' z) :
    SndE g b Γ c (.bi .lrng1 (.cons e .nil)) (.Call (.Name y p) [.Call (.Name r p2) [z] [] p3] [] pos) :=
  fun X C ρ Q h F σ H K S P => snd_lrF hy hg hr hg2 ha hs rfl hE ⟨e, rfl⟩ X C ρ (fun s ρ' => Q s.d none ρ') (by unfold wF; unfold wE at h; exact h) F σ H K S P.f
mutual
theorem all_E : ∀ (e : E) (c : Cfg) (x : Expr), chkE c e x = true → Al g b Γ c e x
  | .kInt i, c, x, h => by
    unfold chkE at h
    split at h
    · cases of_decide_eq_true h; exact .def' snd_kInt rfl fun _ _ h => h
    · cases h
  | .kStr s, c, x, h => by
    unfold chkE at h
    split at h
    · simp only [Bool.and_eq_true, decide_eq_true_eq] at h
      obtain ⟨⟨rfl, h1⟩, h2⟩ := h
      exact .def' (snd_kStr h1 h2) rfl fun _ _ h => h
    · cases h
  | .kBl i, c, x, h => by
    unfold chkE at h
    split at h
    · cases eq_of_beq h; exact .def' snd_kBl rfl fun _ _ h => h
    · cases h
  | .kNon, c, x, h => by
    unfold chkE at h
    split at h
    · exact .def' snd_kNon rfl fun _ _ h => h
    · cases h
  | .loc i, c, x, h => by
    unfold chkE at h
    split at h
    · exact .def' (snd_loc h) rfl fun _ _ h => h
    · cases h
  | .bin o a d, c, x, h => by
    unfold chkE at h
    split at h
    · simp only [Bool.and_eq_true, decide_eq_true_eq] at h
      obtain ⟨⟨rfl, h1⟩, h2⟩ := h
      exact .plain (snd_bin (all_E a c _ h1).ev (all_E d c _ h2).ev) rfl (snd_binF (all_E a c _ h1).ev (all_E d c _ h2).ev)
    · cases h
  | .neg a, c, x, h => by
    unfold chkE at h
    split at h
    · exact .def' (snd_neg (all_E a c _ h).ev) rfl fun _ _ h => h
    · cases h
  | .cmp o a d, c, x, h => by
    unfold chkE at h
    split at h
    · simp only [Bool.and_eq_true, decide_eq_true_eq, Bool.not_eq_true'] at h
      obtain ⟨⟨⟨rfl, h1⟩, h2⟩, h3⟩ := h
      exact .test (snd_cmp (all_E a c _ h1).ev (all_E d c _ h2).ev h3) (snd_cmpT (all_E a c _ h1).ev (all_E d c _ h2).ev h3) rfl fun _ _ h => h
    · cases h
  | .cmp2 o p a d e, c, x, h => by
    unfold chkE at h
    split at h
    · simp only [Bool.and_eq_true, decide_eq_true_eq, Bool.not_eq_true'] at h
      obtain ⟨⟨⟨⟨⟨rfl, rfl⟩, h1⟩, h2⟩, h3⟩, h4⟩ := h
      exact .test (snd_cmp2 (all_E a c _ h1).ev (all_E d c _ h2).ev (all_E e c _ h3).ev h4) (snd_cmp2T (all_E a c _ h1).ev (all_E d c _ h2).ev (all_E e c _ h3).ev h4) rfl fun _ _ h => h
    · cases h
  | .and a d, c, x, h => by
    unfold chkE at h
    split at h
    · rename_i l r pos
      rw [Bool.and_eq_true] at h
      have A := all_E a c _ h.1
      have B := all_E d c _ h.2
      have E1 := snd_and (pos := pos) A.ev B.ev
      have W : noIf (.and a d) = true → SndW g b Γ c (.and a d) (.BoolOp .And [l, r] pos) := fun hn => by
        have hn : (noIf a && noIf d) = true := hn
        rw [Bool.and_eq_true] at hn
        exact snd_andW (A.t hn.1) (B.t hn.2)
      exact ⟨E1, fun hn => (W hn).t, fun hn _ => W hn, snd_fdef E1 fun _ _ h => h⟩
    · rename_i l m r rest pos
      rw [Bool.and_eq_true] at h
      have A := all_E a c _ h.1
      have B := all_E d c _ h.2
      have E1 := snd_and3 (pos := pos) A.ev B.ev
      have W : noIf (.and a d) = true → SndW g b Γ c (.and a d) (.BoolOp .And (l :: m :: r :: rest) pos) := fun hn => by
        have hn : (noIf a && noIf d) = true := hn
        rw [Bool.and_eq_true] at hn
        exact snd_andW3 (A.t hn.1) (B.w hn.2 rfl)
      exact ⟨E1, fun hn => (W hn).t, fun hn _ => W hn, snd_fdef E1 fun _ _ h => h⟩
    · cases h
  | .or a d, c, x, h => by
    unfold chkE at h
    split at h
    · rename_i l r pos
      rw [Bool.and_eq_true] at h
      have A := all_E a c _ h.1
      have B := all_E d c _ h.2
      have E1 := snd_or (pos := pos) A.ev B.ev
      have W : noIf (.or a d) = true → SndW g b Γ c (.or a d) (.BoolOp .Or [l, r] pos) := fun hn => by
        have hn : (noIf a && noIf d) = true := hn
        rw [Bool.and_eq_true] at hn
        exact snd_orW (A.t hn.1) (B.t hn.2)
      exact ⟨E1, fun hn => (W hn).t, fun hn _ => W hn, snd_fdef E1 fun _ _ h => h⟩
    · rename_i l m r rest pos
      rw [Bool.and_eq_true] at h
      have A := all_E a c _ h.1
      have B := all_E d c _ h.2
      have E1 := snd_or3 (pos := pos) A.ev B.ev
      have W : noIf (.or a d) = true → SndW g b Γ c (.or a d) (.BoolOp .Or (l :: m :: r :: rest) pos) := fun hn => by
        have hn : (noIf a && noIf d) = true := hn
        rw [Bool.and_eq_true] at hn
        exact snd_orW3 (A.t hn.1) (B.w hn.2 rfl)
      exact ⟨E1, fun hn => (W hn).t, fun hn _ => W hn, snd_fdef E1 fun _ _ h => h⟩
    · cases h
  | .not a, c, x, h => by
    unfold chkE at h
    split at h
    · rename_i y pos
      have A := all_E a c _ h
      have E1 := snd_not (pos := pos) A.ev
      exact ⟨E1, fun hn => snd_notT (A.t hn), fun _ hb => (nomatch hb), snd_fdef E1 fun _ _ h => h⟩
    · cases h
  | .ife t a d, c, x, h => by
    unfold chkE at h
    split at h
    · simp only [Bool.and_eq_true] at h
      obtain ⟨⟨⟨h1, hn⟩, h2⟩, h3⟩ := h
      rename_i l r pos
      have E1 := snd_ife (pos := pos) ((all_E t c _ h1).t hn) (all_E a c _ h2).ev (all_E d c _ h3).ev
      exact ⟨E1, fun hn => (nomatch hn), fun hn => (nomatch hn), snd_fdef E1 fun _ _ h => h⟩
    · cases h
  | .sub a i, c, x, h => by
    unfold chkE at h
    split at h
    · simp only [Bool.and_eq_true] at h
      obtain ⟨⟨h1, h2⟩, h3⟩ := h
      exact .def' (snd_sub (all_E a c _ h1).ev (all_E i c _ h2).ev h3) rfl fun _ _ h => h
    · cases h
  | .slc a lo hi, c, x, h => by
    unfold chkE at h
    split at h
    · simp only [Bool.and_eq_true] at h
      obtain ⟨⟨h1, h2⟩, h3⟩ := h
      exact .def' (snd_slc (all_E a c _ h1).ev (all_O lo c _ h2) (all_O hi c _ h3)) rfl fun _ _ h => h
    · cases h
  | .rev a, c, x, h => by
    unfold chkE at h
    split at h
    · exact .def' (snd_rev (all_E a c _ h).ev) rfl fun _ _ h => h
    · cases h
  | .tup es, c, x, h => by
    unfold chkE at h
    split at h
    · simp only [Bool.and_eq_true, decide_eq_true_eq] at h
      exact .def' (snd_tup (all_A es c _ h.1) h.2) rfl fun _ _ h => h
    · cases h
  | .lst es, c, x, h => by
    unfold chkE at h
    split at h
    · simp only [Bool.and_eq_true, decide_eq_true_eq] at h
      exact .plain (snd_lst (all_A es c _ h.1) h.2) rfl (snd_lstF (all_A es c _ h.1) h.2)
    · cases h
  | .dic0, c, x, h => by
    unfold chkE at h
    split at h
    · exact .plain snd_dic0 rfl snd_dic0F
    · cases h
  | .dic1 k v, c, x, h => by
    unfold chkE at h
    split at h
    · rw [Bool.and_eq_true] at h
      exact .plain (snd_dic1 (all_E k c _ h.1).ev (all_E v c _ h.2).ev) rfl (snd_dic1F (all_E k c _ h.1).ev (all_E v c _ h.2).ev)
    · cases h
  | .call f es, c, x, h => by
    unfold chkE at h
    split at h
    · simp only [Bool.and_eq_true, decide_eq_true_eq] at h
      obtain ⟨⟨h1, h2⟩, h3⟩ := h
      exact .plain (snd_call h1 h2 (all_A es c _ h3) (chkA_stars h3)) rfl (snd_callF h1 h2 (all_A es c _ h3) (chkA_stars h3))
    · simp only [Bool.and_eq_true, decide_eq_true_eq] at h
      obtain ⟨⟨h1, h2⟩, h3⟩ := h
      cases es with
      | nil => exact .plain (snd_call0 h1 h2) rfl (snd_call0F h1 h2)
      | cons _ _ => unfold chkA at h3; cases h3
    · rename_i y _ k ks _
      rw [Bool.and_eq_true, Bool.and_eq_true] at h
      obtain ⟨⟨h1, h2⟩, h3⟩ := h
      cases en : kwNs (k :: ks) with
      | none => rw [en] at h1; cases h1
      | some ns =>
        rw [en] at h1
        exact .plain (snd_callK (of_decide_eq_true h1) en h2 (all_K es c _ h3)) rfl (snd_callKF (of_decide_eq_true h1) en h2 (all_K es c _ h3))
    · simp only [Bool.and_eq_true, decide_eq_true_eq] at h
      obtain ⟨⟨⟨⟨h1, h2⟩, h4⟩, h5⟩, h3⟩ := h
      subst h4 h5
      cases es with
      | nil => unfold chkA at h3; cases h3
      | cons e es =>
        unfold chkA at h3
        simp only [Bool.and_eq_true] at h3
        cases es with
        | nil => exact .plain (snd_exv h1 h2 (all_E e c _ h3.1.1).ev) rfl (snd_exvF h1 h2 (all_E e c _ h3.1.1).ev)
        | cons _ _ => have h4 := h3.2; unfold chkA at h4; cases h4
    · cases h
  | .bi bi es, c, x, h => by
    unfold chkE at h
    split at h
    · cases bi with
      | lrng2 => cases h
      | reprD =>
        simp only [Bool.and_eq_true, decide_eq_true_eq] at h
        obtain ⟨⟨⟨h0, h1⟩, h2⟩, h3⟩ := h
        exact .plain (snd_rp h0 h1 h2 (all_A es c _ h3) (chkA_stars h3)) rfl (snd_rpF h0 h1 h2 (all_A es c _ h3) (chkA_stars h3))
      | lrng1 =>
        dsimp only at h
        split at h
        · simp only [Bool.and_eq_true, decide_eq_true_eq] at h
          obtain ⟨⟨⟨⟨h1, h2⟩, h3⟩, h4⟩, h5⟩ := h
          have A := all_A es c _ h5
          cases es with
          | nil => unfold chkA at h5; cases h5
          | cons e es =>
            have h5' := h5
            unfold chkA at h5'
            simp only [Bool.and_eq_true] at h5'
            cases es with
            | nil =>
              exact .plain (snd_lr h1 h2 h3 h4 A (chkA_stars h5) (fun e' he => by cases he; exact (all_E e c _ h5'.1.1).ev)) rfl (snd_lrF h1 h2 h3 h4 A (chkA_stars h5) rfl (fun e' he => by cases he; exact (all_E e c _ h5'.1.1).ev) ⟨e, rfl⟩)
            | cons _ _ => have := h5'.2; unfold chkA at this; cases this
        · cases h
      | _ =>
        simp only [Bool.and_eq_true, decide_eq_true_eq] at h
        obtain ⟨⟨h1, h2⟩, h3⟩ := h
        exact .plain (snd_bi (fun z => nomatch z) (fun z => nomatch z) h1 h2 (all_A es c _ h3) (chkA_stars h3)) rfl (snd_biF (fun z => nomatch z) (fun z => nomatch z) h1 h2 (all_A es c _ h3) (chkA_stars h3))
    · cases h
  | .me m a es, c, x, h => by
    unfold chkE at h
    split at h
    · simp only [Bool.and_eq_true, decide_eq_true_eq] at h
      obtain ⟨⟨⟨⟨⟨⟨h1, hm⟩, h2⟩, h3⟩, h4⟩, h5⟩, h6⟩ := h
      exact .def' (snd_me (by rintro rfl; cases hm) h1 (all_E a c _ h2).ev (all_A es c _ h4) (chkA_stars h4) h5 h3 h6) rfl fun _ _ h => h
    · cases h
  | .mt m i es, c, x, h => by
    unfold chkE at h
    split at h
    · simp only [Bool.and_eq_true, decide_eq_true_eq] at h
      obtain ⟨⟨⟨⟨h1, h2⟩, h3⟩, h4⟩, h5⟩ := h
      exact .def' (snd_mt h1 h2 (all_A es c _ h3) (chkA_stars h3) h4 h5 (fun e => by
        subst e
        cases es with
        | nil => rfl
        | cons _ _ => unfold chkA at h3; cases h3)) rfl fun _ _ h => h
    · cases h
  | .fld a f, c, x, h => by
    unfold chkE at h
    split at h
    · simp only [Bool.and_eq_true, decide_eq_true_eq] at h
      obtain ⟨⟨⟨rfl, h1⟩, h2⟩, h3⟩ := h
      exact .def' (snd_fld h1 (all_E a c _ h2).ev h3) rfl fun _ _ h => h
    · cases h
  | .prp a f, c, x, h => by
    unfold chkE at h
    split at h
    · simp only [Bool.and_eq_true, decide_eq_true_eq] at h
      obtain ⟨⟨⟨h1, h2⟩, h3⟩, h4⟩ := h
      exact .def' (snd_prp h1 h2 (all_E a c _ h3).ev h4) rfl fun _ _ h => h
    · cases h
  | .eqT n f a d, c, x, h => by
    unfold chkE at h
    split at h
    · simp only [Bool.and_eq_true, decide_eq_true_eq] at h
      obtain ⟨⟨⟨rfl, h2⟩, h3⟩, h4⟩ := h
      exact .test (snd_eqT h2 (all_E a c _ h3).ev (all_E d c _ h4).ev) (snd_eqTT h2 (all_E a c _ h3).ev (all_E d c _ h4).ev) rfl fun _ _ h => h
    · cases h
  | .isi a t, c, x, h => by
    unfold chkE at h
    split at h
    · simp only [Bool.and_eq_true, decide_eq_true_eq] at h
      obtain ⟨⟨⟨⟨⟨⟨h1, h2⟩, h3⟩, h4⟩, h5⟩, h6⟩, h7⟩ := h
      cases ho : t.old with
      | true => exact .def' (snd_isi h1 h2 (all_E a c _ h3).ev h4 ho h5 h6 (by cases t <;> first | rfl | exact h7 | (cases ho; done))) rfl fun _ _ h => h
      | false => exact .def' (snd_isiX h1 h2 (all_E a c _ h3).ev h4 ho h5 h6 (fun e => by subst e; exact h7)) rfl fun _ _ h => h
    · cases h
  | .lc own t it d e, c, x, h => by
    unfold chkE at h
    split at h
    · simp only [Bool.and_eq_true] at h
      obtain ⟨⟨⟨⟨⟨⟨h1, h2⟩, h3⟩, h4⟩, h5⟩, h6⟩, h7⟩ := h
      exact .plain (snd_lc h1 h3 (chkI_set h4) (all_I it c _ _ h4 h5) (snd_g h2) (all_C d _ _ h6) (all_E e _ _ h7).ev) rfl (snd_lcF h1 h3 (chkI_set h4) (all_I it c _ _ h4 h5) (snd_g h2) (all_C d _ _ h6) (all_E e _ _ h7).ev)
    · cases h
  | .lc2 own own2 t it d t2 it2 d2 e, c, x, h => by
    unfold chkE at h
    split at h
    · simp only [Bool.and_eq_true] at h
      obtain ⟨⟨⟨⟨⟨⟨⟨⟨⟨⟨⟨⟨h1, h2⟩, h3⟩, h4⟩, h5⟩, h6⟩, h7⟩, k1⟩, k2⟩, k3⟩, k4⟩, k5⟩, k6⟩ := h
      exact .plain (snd_lc2 h1 h2 h4 k2 (chkI_set h5) (chkI_set k3) (all_I it c _ _ h5 h6) (snd_g h3) (all_C d _ _ h7) (all_I it2 _ _ _ k3 k4) (snd_g k1) (all_C d2 _ _ k5) (all_E e _ _ k6).ev) rfl
        (snd_lc2F h1 h2 h4 k2 (chkI_set h5) (chkI_set k3) (all_I it c _ _ h5 h6) (snd_g h3) (all_C d _ _ h7) (all_I it2 _ _ _ k3 k4) (snd_g k1) (all_C d2 _ _ k5) (all_E e _ _ k6).ev)
    · cases h
  | .dc own t it k v, c, x, h => by
    unfold chkE at h
    split at h
    · simp only [Bool.and_eq_true] at h
      obtain ⟨⟨⟨⟨⟨⟨h1, h2⟩, h3⟩, h4⟩, h5⟩, h6⟩, h7⟩ := h
      exact .plain (snd_dc h1 h3 (chkI_set h4) (all_I it c _ _ h4 h5) (snd_g h2) (all_E k _ _ h6).ev (all_E v _ _ h7).ev) rfl (snd_dcF h1 h3 (chkI_set h4) (all_I it c _ _ h4 h5) (snd_g h2) (all_E k _ _ h6).ev (all_E v _ _ h7).ev)
    · cases h
theorem all_O : ∀ (e : O) (c : Cfg) (x : Option Expr), chkO c e x = true → SndO g b Γ c e x
  | .no, c, x, h => by
    unfold chkO at h
    split at h
    · exact snd_ono
    · cases h
  | .so e, c, x, h => by
    unfold chkO at h
    split at h
    · exact snd_oso (all_E e c _ h).ev
    · cases h
theorem all_C : ∀ (e : O) (c : Cfg) (x : List Expr), chkC c e x = true → SndC g b Γ c e x
  | .no, c, x, h => by
    unfold chkC at h
    split at h
    · exact snd_cno
    · cases h
  | .so e, c, x, h => by
    unfold chkC at h
    split at h
    · rw [Bool.and_eq_true] at h
      exact snd_cso ((all_E e c _ h.1).t h.2)
    · cases h
theorem all_A : ∀ (es : Es) (c : Cfg) (xs : List Expr), chkA c es xs = true → SndA g b Γ c es xs
  | .nil, c, x, h => by
    unfold chkA at h
    split at h
    · exact snd_anil
    · cases h
  | .cons e es, c, x, h => by
    unfold chkA at h
    split at h
    · simp only [Bool.and_eq_true] at h
      exact snd_acons (all_E e c _ h.1.1).ev (all_A es c _ h.2) h.1.2
    · cases h
theorem all_K : ∀ (es : Es) (c : Cfg) (xs : List Keyword), chkK c es xs = true → SndK g b Γ c es xs
  | .nil, c, x, h => by
    unfold chkK at h
    split at h
    · exact snd_knil
    · cases h
  | .cons e es, c, x, h => by
    unfold chkK at h
    split at h
    · rw [Bool.and_eq_true] at h
      exact snd_kcons (all_E e c _ h.1).ev (all_K es c _ h.2)
    · cases h
theorem all_I : ∀ (it : It) (c : Cfg) (tg x : Expr), chkI c it x = true → itTg it tg = true → SndI g b Γ c it tg x
  | .val e, c, tg, x, h, ht => by
    unfold chkI at h
    rw [Bool.and_eq_true] at h
    exact snd_ival (all_E e c _ h.1).ev
  | .keys e, c, tg, x, h, ht => by unfold chkI at h; cases h
  | .rng1 a, c, tg, x, h, ht => by
    unfold chkI at h
    split at h
    · simp only [Bool.and_eq_true, decide_eq_true_eq] at h
      exact snd_irng1 h.1.1.1 h.1.1.2 (all_E a c _ h.1.2).ev h.2
    · cases h
  | .rng2 a d, c, tg, x, h, ht => by
    unfold chkI at h
    split at h
    · simp only [Bool.and_eq_true, decide_eq_true_eq] at h
      obtain ⟨⟨⟨⟨⟨h1, h2⟩, h3⟩, h4⟩, h5⟩, h6⟩ := h
      exact snd_irng2 h1 h2 (all_E a c _ h3).ev h4 (all_E d c _ h5).ev h6
    · cases h
  | .enum e, c, tg, x, h, ht => by
    unfold chkI at h
    split at h
    · simp only [Bool.and_eq_true, decide_eq_true_eq] at h
      cases tg <;> first | exact snd_ienum h.1.1.1 h.1.1.2 (all_E e c _ h.1.2).ev h.2 | cases ht
    · cases h
  | .zip a d, c, tg, x, h, ht => by
    unfold chkI at h
    split at h
    · simp only [Bool.and_eq_true, decide_eq_true_eq] at h
      obtain ⟨⟨⟨⟨⟨h1, h2⟩, h3⟩, h4⟩, h5⟩, h6⟩ := h
      cases tg <;> first | exact snd_izip h1 h2 (all_E a c _ h3).ev h4 (all_E d c _ h5).ev h6 | cases ht
    · cases h
end
end
end FT

set_option Elab.async false
set_option linter.all false
set_option maxRecDepth 100000
set_option autoImplicit false
set_option maxHeartbeats 2000000
namespace FT
open PySem PySem.Spec PyProof.Rows L2
section
variable {g : G} {b : BF} {Γ : Nat → Option Con} {c : Cfg}
/-! ### a result whose list is changed later: the call is made in a heap without lists, so its lists are new -/
def nlF (F : Hp) : Hp := fun a => match F a with
  | some (.lst _) => none
  | x => x
theorem nlF_sub (F : Hp) : Same (nlF F) F := fun a o e => by
  unfold nlF at e
  split at e
  · cases e
  · exact e
theorem nlF_lst {F : Hp} {a : Addr} {vs : List V} : nlF F a ≠ some (.lst vs) := fun e => by
  have h := nlF_sub F a _ e
  unfold nlF at e
  rw [h] at e
  cases e
theorem nlF_of {F : Hp} {a : Addr} {o : HO} (h : F a = some o) (n : ∀ vs, o ≠ .lst vs) : nlF F a = some o := by
  unfold nlF
  split
  · rename_i q
    rw [h] at q
    cases q
    exact absurd rfl (n _)
  · exact h
mutual
theorem Rep.nl {F : Hp} : ∀ {d : D} {v : V}, noLst d = true → Rep g F d v → Rep g (nlF F) d v
  | .non, _, _, r => r
  | .bl _, _, _, r => r
  | .int _, _, _, r => r
  | .str _, _, _, r => r
  | .lst _, _, h, _ => by cases h
  | .tup ds, _, h, ⟨a, vs, e, q, l, r⟩ => ⟨a, vs, e, nlF_of q fun _ z => (by cases z), l, RepL.nl h r⟩
  | .dic ds, _, h, ⟨a, vs, e, q, l, r⟩ => ⟨a, vs, e, nlF_of q fun _ z => (by cases z), l, RepK.nl h r⟩
  | .ins c fs, _, h, ⟨a, dx, vs, e, q, n, r⟩ => ⟨a, dx, vs, e, nlF_of q fun _ z => (by cases z), n, RepF.nl h r⟩
  | .scr _, _, h, _ => by cases h
  | .any, _, _, r => r
  | .exc c d, _, h, ⟨a, dx, u, e, q, q2, n, r⟩ => ⟨a, dx, u, e, nlF_of q fun _ z => (by have z : HO.ext _ = HO.lst _ := z; cases z), nlF_of q2 fun _ z => (by have z : HO.ext _ = HO.lst _ := z; cases z), n, Rep.nl (show noLst d = true from h) r⟩
theorem RepL.nl {F : Hp} : ∀ {d : List D} {v : List V}, noLstL d = true → RepL g F d v → RepL g (nlF F) d v
  | [], _, _, r => r
  | d :: ds, _, h, ⟨v, vr, e, q, r⟩ => by
    have h : (noLst d && noLstL ds) = true := h
    rw [Bool.and_eq_true] at h
    exact ⟨v, vr, e, Rep.nl h.1 q, RepL.nl h.2 r⟩
theorem RepK.nl {F : Hp} : ∀ {d : List (Key × D)} {v : List (Key × V)}, noLstK d = true → RepK g F d v → RepK g (nlF F) d v
  | [], _, _, r => r
  | (_, d) :: ds, _, h, ⟨v, vr, e, q, r⟩ => by
    have h : (noLst d && noLstK ds) = true := h
    rw [Bool.and_eq_true] at h
    exact ⟨v, vr, e, Rep.nl h.1 q, RepK.nl h.2 r⟩
theorem RepF.nl {F : Hp} : ∀ {d : List (Str × D)} {v : List (Str × V)}, noLstF d = true → RepF g F d v → RepF g (nlF F) d v
  | [], _, _, r => r
  | (_, d) :: ds, _, h, ⟨v, vr, e, q, r⟩ => by
    have h : (noLst d && noLstF ds) = true := h
    rw [Bool.and_eq_true] at h
    exact ⟨v, vr, e, Rep.nl h.1 q, RepF.nl h.2 r⟩
end
theorem RepL.flatF2 {F F' : Hp} : ∀ {ds : List D} {vs : List V}, ds.all D.flat = true → RepL g F ds vs → RepL g F' ds vs
  | [], _, _, r => r
  | d :: ds, _, h, ⟨v, vr, e, q, r⟩ => by
    rw [List.all_cons, Bool.and_eq_true] at h
    exact ⟨v, vr, e, q.flat h.1, RepL.flatF2 h.2 r⟩
theorem Rep.blur {F F' : Hp} {d : D} {v : V} (r : Rep g F d v) : Rep g F' (FT.blur d) v := by
  unfold FT.blur
  cases h : d.flat with
  | true => exact r.flat h
  | false =>
    rw [cond_false]
    cases d with
    | lst _ => obtain ⟨a, _, e, _⟩ := r; exact ⟨a, e⟩
    | tup _ => obtain ⟨a, _, e, _⟩ := r; exact ⟨a, e⟩
    | dic _ => obtain ⟨a, _, e, _⟩ := r; exact ⟨a, e⟩
    | ins _ _ => obtain ⟨a, _, _, e, _⟩ := r; exact ⟨a, e⟩
    | scr _ => obtain ⟨a, e, _⟩ := r; exact ⟨a, e⟩
    | any => exact r
    | exc _ _ => obtain ⟨a, _, _, e, _⟩ := r; exact ⟨a, e⟩
    | _ => cases h
theorem RepL.blur {F F' : Hp} : ∀ {ds : List D} {vs : List V}, RepL g F ds vs → RepL g F' (ds.map FT.blur) vs
  | [], _, r => r
  | _ :: _, _, ⟨v, vr, e, q, r⟩ => ⟨v, vr, e, q.blur, RepL.blur r⟩
theorem RepL.cutT {F F' : Hp} {n : D} {u : V} : ∀ {ds : List D} {vs : List V} {k : Nat}, RepL g F ds vs → vs[k]? = some u → Rep g F' n u → RepL g F' (FT.cutT ds k n) vs
  | [], _, _, r, _, _ => r
  | _ :: _, _, 0, ⟨v, vr, e, q, r⟩, h, hn => by
    subst e
    cases h
    exact ⟨_, vr, rfl, hn, r.blur⟩
  | _ :: _, _, k + 1, ⟨v, vr, e, q, r⟩, h, hn => by
    subst e
    exact ⟨_, vr, rfl, q.blur, RepL.cutT r h hn⟩
theorem cutT_len {n : D} : ∀ {ds : List D} {k : Nat}, (FT.cutT ds k n).length = ds.length
  | [], _ => rfl
  | _ :: ds, 0 => by
    show (ds.map FT.blur).length + 1 = _
    rw [List.length_map]; rfl
  | _ :: ds, k + 1 => by
    show (FT.cutT ds k n).length + 1 = _
    rw [cutT_len]; rfl
theorem keepL_get {kp : List Nat} : ∀ {ρ0 ρ3 : List Sl} {p q : Nat} {s : Sl}, (FT.keepL kp p ρ0 ρ3)[q]? = some s → ∃ a b', ρ0[q]? = some a ∧ ρ3[q]? = some b' ∧ s = cutX (kp.contains (p + q)) a b'
  | a :: ρ0, b' :: ρ3, p, 0, s, h => by
    cases h
    exact ⟨a, b', rfl, rfl, rfl⟩
  | a :: ρ0, b' :: ρ3, p, q + 1, s, h => by
    obtain ⟨x, y, h1, h2, h3⟩ := keepL_get (ρ0 := ρ0) (ρ3 := ρ3) (p := p + 1) (q := q) (s := s) h
    exact ⟨x, y, h1, h2, by rw [h3, show p + 1 + q = p + (q + 1) by omega]⟩
  | [], _, _, _, _, h => by cases h
  | _ :: _, [], _, _, _, h => by cases h
theorem keepL_len {kp : List Nat} : ∀ {ρ0 ρ3 : List Sl} {p : Nat}, ρ0.length = ρ3.length → (FT.keepL kp p ρ0 ρ3).length = ρ3.length
  | [], [], _, _ => rfl
  | a :: ρ0, b' :: ρ3, p, h => by
    show (FT.keepL kp (p + 1) ρ0 ρ3).length + 1 = _
    rw [keepL_len (by simpa using h)]; rfl
  | [], _ :: _, _, h => by cases h
  | _ :: _, [], _, h => by cases h
theorem cutX_sh {k : Bool} {a b' : Sl} {d : D} (h : cutX k a b' = .sh d) : (b' = .sh d ∧ d.flat = true) ∨ (k = true ∧ a = .sh d) := by
  unfold cutX at h
  cases b' with
  | un => cases h
  | ow x => dsimp only at h; cases e : flatC x <;> (rw [e] at h; cases h)
  | sh x =>
    dsimp only at h
    cases e : x.flat with
    | true => rw [e] at h; cases h; exact .inl ⟨rfl, e⟩
    | false =>
      rw [e] at h
      cases k with
      | false => cases h
      | true =>
        cases a with
        | sh y => cases h; exact .inr ⟨rfl, rfl⟩
        | un => cases h
        | ow y => cases h
theorem cutX_ow {k : Bool} {a b' : Sl} {d : D} (h : cutX k a b' = .ow d) : b' = .ow d ∧ flatC d = true := by
  unfold cutX at h
  cases b' with
  | un => cases h
  | ow x =>
    dsimp only at h
    cases e : flatC x with
    | true => rw [e] at h; cases h; exact ⟨rfl, e⟩
    | false => rw [e] at h; cases h
  | sh x =>
    dsimp only at h
    cases e : x.flat with
    | true => rw [e] at h; cases h
    | false =>
      rw [e] at h
      cases k with
      | false => cases h
      | true => cases a <;> cases h
theorem RepO.flatC {F F' : Hp} {d : D} {o : HO} (h : FT.flatC d = true) (r : RepO g F d o) : RepO g F' d o := by
  cases d with
  | lst ds => obtain ⟨vs, e, l, r⟩ := r; exact ⟨vs, e, l, RepL.flatF2 h r⟩
  | _ => cases h
def AppOk (g : G) (b : BF) (Γ : Nat → Option Con) (c : Cfg) (s : Ss) (xs : List Stmt) : Prop := ∀ (rest : List Stmt) X, CfgOk g b Γ X c → ∀ ρ Q, wB Γ s ρ Q → ∀ F σ H D, SR g F ρ σ H → PostS g c ρ σ F H Q { D with nx := fun σ' H' => OkB X rest D σ' H' } → OkB X (xs ++ rest) D σ H
theorem snd_cut {i f j k : Nat} {kp : List Nat} {pre oth mid post fin : Ss} {neg : Bool} {t : E} {s gn y w y2 : Str} {py gp wp cp p ip py2 cp2 sp ap cp3 pq ep : Pos} {ck ck3 : Nat} {preL midL b1 b2 bo ws zs : List Stmt} {tv : Expr}
    (hy : c.sto y i = true) (hf : c.fn f = some gn) (hg : c.gl gn = true) (hw : c.vis w j = true) (hfx : c.fix = []) (hpre : AppOk g b Γ { c with fix := i :: kp } pre preL) (ht : SndT g b Γ c t tv) (hoth : SndB g b Γ c oth bo)
    (hmid : AppOk g b Γ { c with fix := i :: kp } mid midL) (hy2 : c.vis y2 i = true) (hs1 : fits s.length = true) (hs2 : s.cps.all (· < 0x110000) = true) (hline : (ap.endLine == pq.line) = true) (hpost : SndB g b Γ c post ws) (hfin : SndB g b Γ c fin zs)
    (e1 : (bif neg then b1 else b2) = bo) (e2 : (bif neg then b2 else b1) = midL ++ .Expr (.Call (.Attribute (.Subscript (.Name y2 py2) (.Constant (.int (k : Int)) ck cp2) sp) "append" ap) [.Constant (.str s) ck3 cp3] [] pq) ep :: ws) :
    SndB g b Γ c (.cut i f j kp pre neg t oth mid k s post fin) (.Assign [.Name y py] (.Call (.Name gn gp) [.Name w wp] [] cp) p :: (preL ++ .If tv b1 b2 ip :: zs)) := by
  intro X C ρ Q h F σ H D S P
  unfold wB at h
  split at h
  case h_2 => exact h.elim
  rename_i d0 con ej eΓ
  obtain ⟨hn, hio, hret, hwp⟩ := h
  obtain ⟨u, eu, ru⟩ := S.sh j d0 ej
  obtain ⟨n1, n2, n3, n4⟩ := C.vis hw
  obtain ⟨h1, h2, h3, h4⟩ := C.sto hy
  have call := C.e.call f con gn eΓ hf X C.lk (C.gl hg).1
  have C' : CfgOk g b Γ X { c with fix := i :: kp } := ⟨C.lk, C.N, C.nd, C.sc, C.kind, C.e, C.gd, C.blk⟩
  have nofx : ∀ σ' : L2.St, Fixd c σ σ' := fun σ' m hm => by rw [hfx] at hm; cases hm
  refine ⟨_, pss_cons (psK _) (pbK _), _, ps_set C.nd h1 h2 (peK _) (comp_ok rfl) h3, ?_⟩
  refine call (.Name w wp) [] gp cp σ H _ rfl ⟨_, pa_cons (pe_var n1 n2 n3 n4) pa_nil rfl, u, eu, ?_⟩
  unfold Con.sp
  rw [hio]
  obtain ⟨ι, ea, pr, hp⟩ := hwp
  refine ⟨nlF F, [d0], (nlF_sub F).trans S.sub, ⟨u, [], rfl, ru.nl hn, rfl⟩, ι, ea, pr, fun d o' hd F' H' v cs rr => ?_⟩
  have hq := hp d o' hd
  rw [hret] at rr
  have rr : Rep g F' d v := rr
  have keepH : ∀ a o, H a = some o → H' a = some o := fun a o e => cs.keep a o e fun z => z
  have newA : ∀ a, F' a ≠ none → F a ≠ none ∨ H a = none := fun a hF => (cs.newF a hF).imp_left fun z z2 => z (by unfold nlF; rw [z2])
  obtain ⟨F1, sF, sF', sH, nF⟩ : ∃ F1 : Hp, Same F F1 ∧ Same F' F1 ∧ Same F1 H' ∧ ∀ a, F1 a ≠ none → F a ≠ none ∨ F' a ≠ none := by
    refine ⟨fun a => match F a with | some o => some o | none => F' a, fun a o e => ?_, fun a o e => ?_, fun a o e => ?_, fun a hz => ?_⟩
    · show (match F a with | some o => some o | none => F' a) = some o
      rw [e]
    · show (match F a with | some o => some o | none => F' a) = some o
      cases z : F a with
      | none => exact e
      | some o2 =>
        have a1 := keepH a o2 (S.sub a o2 z)
        rw [cs.sub2 a o e] at a1
        cases a1; rfl
    · have e : (match F a with | some o => some o | none => F' a) = some o := e
      cases z : F a with
      | none => rw [z] at e; exact cs.sub2 a o e
      | some o2 => rw [z] at e; cases e; exact keepH a _ (S.sub a _ z)
    · cases z : F a with
      | some o => exact .inl fun z2 => nomatch z2
      | none =>
        have hz : (match F a with | some o => some o | none => F' a) ≠ none := hz
        rw [z] at hz
        exact .inr hz
  have F1n : ∀ a o, F a = none → H a = some o → F1 a = none := fun a o e1 e2 => by
    cases z : F1 a with
    | none => rfl
    | some x =>
      rcases nF a (by rw [z]; exact fun z2 => nomatch z2) with q1 | q1
      · exact absurd e1 q1
      · rcases newA a q1 with q2 | q2
        · exact absurd e1 q2
        · rw [e2] at q2; cases q2
  have S1 : SR g F1 ρ σ H' := by
    refine ⟨sH, S.len, fun m e em => ?_, fun m e em => ?_, S.inj⟩
    · obtain ⟨x, ex, rx⟩ := S.sh m e em; exact ⟨x, ex, rx.mono sF⟩
    · obtain ⟨a, o, q1, q2, q3, q4⟩ := S.ow m e em
      exact ⟨a, o, q1, F1n a o q2 q3, keepH a o q3, q4.mono sF⟩
  have T1 : Stp ρ σ F H ρ σ F1 H' := by
    refine ⟨sF, fun a o e _ => keepH a o e, fun a e => ?_, fun a e => .inl e, cs.grow⟩
    rcases nF a e with q1 | q1
    · exact .inl q1
    · exact (newA a q1).imp_right .inl
  obtain ⟨S2, T2⟩ := S1.setSh (i := i) (rr.mono sF')
  have T12 := T1.trans T2
  refine hpre (.If tv b1 b2 ip :: zs) X C' _ _ hq F1 _ H' D S2 ⟨fun ρ1 σ1 F2 H2 q T Sp f => ?_, fun s' ρ' σ' F2 v' H2 q T Sp f r => P.rt s' ρ' σ' F2 v' H2 q (T12.trans T) Sp (nofx σ') (r.step T12)⟩
  refine ⟨_, pss_cons (psK _) (pbK zs), _, ps_if (ptK tv) (pbK b1) (pbK b2), ht X C ρ1 _ q F2 σ1 H2 _ Sp (fun d s ρ' q => let ⟨k, e, _⟩ := wE_bl q; ⟨k, e⟩) fun vb _ ρ2 F3 H3 q T3 S3 => ?_⟩
  have T13 := (T12.trans T).trans T3
  have oth_ok : wB Γ oth ρ2 ⟨fun ρ4 => wB Γ fin ρ4 Q, Q.rt⟩ → OkB X bo { D with nx := fun σ' H' => OkB X zs D σ' H' } σ1 H3 := fun q =>
    hoth X C ρ2 _ q F3 σ1 H3 _ S3 ⟨fun ρ4 σ4 F4 H4 q T4 S4 f4 => hfin X C ρ4 Q q F4 σ4 H4 D S4 (P.step (T13.trans T4) (nofx σ4)), fun s' ρ' σ' F4 v' H4 q T4 S4 f4 r => P.rt s' ρ' σ' F4 v' H4 q (T13.trans T4) S4 (nofx σ') (r.step T13)⟩
  have mid_ok : wB Γ mid ρ2 ⟨fun ρ3 => ρ.length = ρ3.length ∧ ρ3[i]? = some (.sh d) ∧ ∃ ds ks, d = .tup ds ∧ ds[k]? = some (.lst ks) ∧ ks.all FT.D.flat = true ∧ ks.length < sizeLine ∧
      wB Γ post ((FT.keepL kp 0 ρ ρ3).set i (.sh (.tup (FT.cutT ds k (.lst (ks ++ [.str s])))))) ⟨fun ρ4 => wB Γ fin ρ4 Q, Q.rt⟩, Q.rt⟩ →
      OkB X (midL ++ .Expr (.Call (.Attribute (.Subscript (.Name y2 py2) (.Constant (.int (k : Int)) ck cp2) sp) "append" ap) [.Constant (.str s) ck3 cp3] [] pq) ep :: ws) { D with nx := fun σ' H' => OkB X zs D σ' H' } σ1 H3 := fun q => by
    refine hmid (_ :: ws) X C' ρ2 _ q F3 σ1 H3 { D with nx := fun σ' H' => OkB X zs D σ' H' } S3 ⟨fun ρ3 σ4 F4 H4 q T4 S4 f4 => ?_, fun s' ρ' σ' F4 v' H4 q T4 S4 f4 r => P.rt s' ρ' σ' F4 v' H4 q (T13.trans T4) S4 (nofx σ') (r.step T13)⟩
    obtain ⟨eln, ei, ds, ks, rfl, ek, hfl, hlen, q⟩ := q
    have Tt := T13.trans T4
    obtain ⟨tA, vs, rfl, et, lt, rvs⟩ := rr
    obtain ⟨lv, elv, rl⟩ := rvs.get ek
    obtain ⟨L, us, rfl, eL, lL, rks⟩ := rl
    have sub4 : Same F' F4 := ((sF'.trans T.sub).trans T3.sub).trans T4.sub
    have sub04 : Same F F4 := ((sF.trans T.sub).trans T3.sub).trans T4.sub
    have H4L : H4 L = some (.lst us) := S4.sub _ _ (sub4 _ _ eL)
    have H4t : H4 tA = some (.tup vs) := S4.sub _ _ (sub4 _ _ et)
    have HL0 : H L = none := by
      rcases cs.newF L (by rw [eL]; exact fun z => nomatch z) with z | z
      · cases q1 : nlF F L with
        | none => exact absurd q1 z
        | some o1 =>
          have := cs.sub L o1 q1
          rw [eL] at this
          cases this
          exact absurd q1 nlF_lst
      · exact z
    have FL0 : F L = none := S.sub.free HL0
    have tL : tA ≠ L := fun z => by rw [z, eL] at et; cases et
    have F0t : ∀ o1, F tA = some o1 → o1 = .tup vs := fun o1 z => by
      have a1 := sF _ _ z
      rw [sF' _ _ et] at a1
      cases a1; rfl
    have ff : Fixd { c with fix := i :: kp } (σ.set i (some (V.ref tA))) σ4 := f.trans f4
    have es : σ4[i]? = some (some (V.ref tA)) := by
      obtain ⟨v1, ev1, _⟩ := S4.sh i _ ei
      have a1 := ff i List.mem_cons_self
      rw [ev1] at a1
      have hi : i < (σ.set i (some (V.ref tA))).length := (List.getElem?_eq_some_iff.mp a1.symm).1
      rw [List.length_set] at hi
      rw [List.getElem?_set_self hi] at a1
      rw [ev1, a1]
    obtain ⟨m1, m2, m3, m4⟩ := C.vis hy2
    have hs3 : s.length ≤ sizeLine := of_decide_eq_true hs1
    -- the heap where the list is changed, and what is known there
    have big : ∃ F5 : Hp, SR g F5 ((FT.keepL kp 0 ρ ρ3).set i (.sh (.tup (FT.cutT ds k (.lst (ks ++ [.str s])))))) σ4 (upd H4 L (.lst (us ++ [V.str s]))) ∧ Stp ρ σ F H ((FT.keepL kp 0 ρ ρ3).set i (.sh (.tup (FT.cutT ds k (.lst (ks ++ [.str s])))))) σ4 F5 (upd H4 L (.lst (us ++ [V.str s]))) := by
      have hL5 : (fun a => if a = L then some (HO.lst (us ++ [V.str s])) else if a = tA then some (.tup vs) else F a : Hp) L = some (.lst (us ++ [V.str s])) := if_pos rfl
      have ht5 : (fun a => if a = L then some (HO.lst (us ++ [V.str s])) else if a = tA then some (.tup vs) else F a : Hp) tA = some (.tup vs) := (if_neg tL).trans (if_pos rfl)
      have ho5 : ∀ a, a ≠ L → a ≠ tA → (fun a => if a = L then some (HO.lst (us ++ [V.str s])) else if a = tA then some (.tup vs) else F a : Hp) a = F a := fun a n1 n2 => (if_neg n1).trans (if_neg n2)
      generalize (fun a => if a = L then some (HO.lst (us ++ [V.str s])) else if a = tA then some (.tup vs) else F a : Hp) = F5 at hL5 ht5 ho5
      have s05 : Same F F5 := fun a o1 e => by
        by_cases z : a = L
        · rw [z, FL0] at e; cases e
        · by_cases z2 : a = tA
          · rw [z2, ht5, F0t o1 (by rw [← z2]; exact e)]
          · rw [ho5 a z z2]; exact e
      have s5H : Same F5 (upd H4 L (.lst (us ++ [V.str s]))) := fun a o1 e => by
        by_cases z : a = L
        · subst z; rw [hL5] at e; rw [upd_same]; exact e
        · rw [upd_ne z]
          by_cases z2 : a = tA
          · subst z2; rw [ht5] at e; rw [H4t]; exact e
          · rw [ho5 a z z2] at e; exact S4.sub _ _ (sub04 _ _ e)
      have own5 : ∀ m e, ((FT.keepL kp 0 ρ ρ3).set i (.sh (.tup (FT.cutT ds k (.lst (ks ++ [.str s]))))))[m]? = some (Sl.ow e) → ρ3[m]? = some (Sl.ow e) ∧ FT.flatC e = true := fun m e em => by
        by_cases z : i = m
        · subst z
          by_cases hi : i < (FT.keepL kp 0 ρ ρ3).length
          · rw [List.getElem?_set_self hi] at em; cases em
          · rw [List.getElem?_eq_none (by rw [List.length_set]; omega)] at em; cases em
        · rw [List.getElem?_set_ne z] at em
          obtain ⟨a, b', _, q2, q3⟩ := keepL_get em
          obtain ⟨q4, q5⟩ := cutX_ow q3.symm
          exact ⟨by rw [q2, q4], q5⟩
      refine ⟨F5, ⟨s5H, ?_, fun m e em => ?_, fun m e em => ?_, fun m n e e' a em en => S4.inj m n e e' a (own5 m e em).1 (own5 n e' en).1⟩, ⟨s05, fun a o1 e no => ?_, fun a e => ?_, fun a ⟨m, e, em, ea⟩ => ?_, fun a e => ?_⟩⟩
      · rw [List.length_set, keepL_len eln]; exact S4.len
      · by_cases z : i = m
        · subst z
          have hi : i < (FT.keepL kp 0 ρ ρ3).length := by rw [keepL_len eln]; exact (List.getElem?_eq_some_iff.mp ei).1
          rw [List.getElem?_set_self hi] at em
          cases em
          refine ⟨.ref tA, es, tA, vs, rfl, ht5, by rw [cutT_len]; exact lt, RepL.cutT rvs elv ⟨L, us ++ [V.str s], rfl, hL5, by rw [List.length_append]; exact hlen, (RepL.flatF2 hfl rks).snoc ⟨rfl, hs3, hs2⟩⟩⟩
        · rw [List.getElem?_set_ne z] at em
          obtain ⟨a, b', q1, q2, q3⟩ := keepL_get em
          rcases cutX_sh q3.symm with ⟨q4, q5⟩ | ⟨q4, q5⟩
          · obtain ⟨v1, ev1, rv1⟩ := S4.sh m e (by rw [q2, q4])
            exact ⟨v1, ev1, rv1.flat q5⟩
          · obtain ⟨v1, ev1, rv1⟩ := S.sh m e (by rw [q1, q5])
            have a1 := ff m (List.mem_cons_of_mem _ (List.contains_iff_mem.mp (by rw [← Nat.zero_add m]; exact q4)))
            rw [List.getElem?_set_ne z] at a1
            exact ⟨v1, by rw [a1]; exact ev1, rv1.mono s05⟩
      · obtain ⟨o3, hfc⟩ := own5 m e em
        obtain ⟨a, o1, q1, q2, q3, q4⟩ := S4.ow m e o3
        have nL : a ≠ L := fun z => by rw [z, sub4 _ _ eL] at q2; cases q2
        have nt : a ≠ tA := fun z => by rw [z, sub4 _ _ et] at q2; cases q2
        refine ⟨a, o1, q1, ?_, by rw [upd_ne nL]; exact q3, q4.flatC hfc⟩
        rw [ho5 a nL nt]
        cases z : F a with
        | none => rfl
        | some o2 => rw [sub04 _ _ z] at q2; cases q2
      · have nL : a ≠ L := fun z => by rw [z, HL0] at e; cases e
        rw [upd_ne nL]
        exact Tt.keep a o1 e no
      · by_cases z : a = L
        · exact .inr (.inl (by rw [z]; exact HL0))
        · by_cases z2 : a = tA
          · rw [z2]
            rcases newA tA (by rw [et]; exact fun z => nomatch z) with q1 | q1
            · exact .inl q1
            · exact .inr (.inl q1)
          · rw [ho5 a z z2] at e; exact .inl e
      · exact Tt.own a ⟨m, e, (own5 m e em).1, ea⟩
      · by_cases z : a = L
        · rw [z]; exact HL0
        · rw [upd_ne z] at e; exact Tt.grow a e
    obtain ⟨F5, S5, T5⟩ := big
    refine ⟨_, pss_cons (psK _) (pbK ws), _, ps_expr (peK _) (comp_ok rfl), ?_⟩
    obtain ⟨t1, t2, t3⟩ := mtSlot .append (fun z => nomatch z)
    refine ⟨_, pe_bm t1 t2 t3 (mtrK X _) (peK _) (paK _) (super_ok rfl) (few_ok (es := [.Constant (.str s) ck3 cp3]) rfl (by show 1 < 20; decide)) hline (star1 rfl) (stars_any rfl), ?_⟩
    refine ⟨_, pe_ix (ixrK X) (pe_var m1 m2 m3 m4) pe_int (slice_ok rfl), _, es, _, ix_tup, _, vs, _, .ref L, rfl, rfl, .of H4t, ?_, .inl ⟨rfl, us, .of H4L⟩, _, pa_cons pe_str pa_nil rfl, _, mt_append, L, us, V.str s, rfl, rfl, H4L, ?_, ?_⟩
    · show atI vs (k : Int) = some (V.ref L)
      unfold atI ixN
      have hk : k < vs.length := (List.getElem?_eq_some_iff.mp elv).1
      rw [if_pos (by omega), if_pos (by omega)]
      exact elv
    · rw [rks.len]; exact hlen
    · exact hpost X C _ _ q F5 σ4 _ _ S5 ⟨fun ρ4 σ5 F6 H6 q T6 S6 f6 => hfin X C ρ4 Q q F6 σ5 H6 D S6 (P.step (T5.trans T6) (nofx σ5)), fun s' ρ' σ' F6 v' H6 q T6 S6 f6 r => P.rt s' ρ' σ' F6 v' H6 q (T5.trans T6) S6 (nofx σ') (r.step T5)⟩
  cases vb with
  | true =>
    rw [if_pos rfl]
    cases neg with
    | true => cases e1; exact oth_ok q
    | false =>
      have e2 : b1 = _ := e2
      rw [e2]; exact mid_ok q
  | false =>
    rw [if_neg Bool.false_ne_true]
    cases neg with
    | true =>
      have e2 : b2 = _ := e2
      rw [e2]; exact mid_ok q
    | false => cases e1; exact oth_ok q
theorem set_lc {i : Nat} {e : E} {y : Str} {py p q : Pos} {elt : Expr} {gs : List Comprehension} {s : Scope} (hy : c.sto y i = true) (he : chkE c e (.ListComp elt gs s q) = true) (hline : (py.line == q.line) = true) (hl : c.kind y = some .local) (hany : (s.names.any fun (n, k) => n == y && (k == .local || k == .cell)) = false) :
    SndS g b Γ c (.set i e) (.Assign [.Name y py] (.ListComp elt gs s q) p) := by
  have he0 := he
  cases e with
  | lc own t it d e =>
    unfold chkE at he
    split at he
    · rename_i heq
      simp only [Bool.and_eq_true] at he
      obtain ⟨⟨⟨⟨⟨⟨h1, h2⟩, h3⟩, h4⟩, h5⟩, h6⟩, h7⟩ := he
      injection heq with e1 e2 e3 e4
      subst e1 e2 e3 e4
      exact snd_setLc hy hl hline hany h1 h3 (chkI_set h4) (all_I it c _ _ h4 h5) (snd_g h2) (all_C d _ _ h6) (all_E e _ _ h7).ev
    · cases he
  | lc2 own own2 t it d t2 it2 d2 e =>
    unfold chkE at he
    split at he
    · rename_i heq
      simp only [Bool.and_eq_true] at he
      obtain ⟨⟨⟨⟨⟨⟨⟨⟨⟨⟨⟨⟨h1, h2⟩, h3⟩, h4⟩, h5⟩, h6⟩, h7⟩, k1⟩, k2⟩, k3⟩, k4⟩, k5⟩, k6⟩ := he
      injection heq with e1 e2 e3 e4
      subst e1 e2 e3 e4
      exact snd_setLc2 hy hl hline hany h1 h2 h4 k2 (chkI_set h5) (chkI_set k3) (all_I it c _ _ h5 h6) (snd_g h3) (all_C d _ _ h7) (all_I it2 _ _ _ k3 k4) (snd_g k1) (all_C d2 _ _ k5) (all_E e _ _ k6).ev
    · cases he
  | _ => (unfold chkE at he; cases he)
theorem ret_ok {e : E} {v : Expr} {p : Pos} (h : chkE c e v = true) : SndS g b Γ c (.ret e) (.Return (some v) p) := by
  have A : Al g b Γ c e v := all_E e c v h
  cases e with
  | loc i =>
    unfold chkE at h
    split at h
    · exact snd_retL h
    · cases h
  | _ => exact snd_retF A.f fun _ _ h => h
mutual
theorem all_S : ∀ (s : S) (c : Cfg) (x : Stmt), chkS c s x = true → SndS g b Γ c s x
  | .set i e, c, x, h => by
    unfold chkS at h
    split at h
    · rename_i y py v p
      rw [Bool.and_eq_true, Bool.and_eq_true] at h
      obtain ⟨⟨h1, h2⟩, h3⟩ := h
      have A := all_E (g := g) (b := b) (Γ := Γ) e c _ h2
      rw [Bool.or_eq_true] at h3
      rcases h3 with h3 | h3
      · exact snd_set h1 A.f (.inl h3)
      · split at h3
        · rw [Bool.or_eq_true] at h3
          rcases h3 with h3 | h3
          · simp only [Bool.and_eq_true, decide_eq_true_eq, Bool.not_eq_true'] at h3
            exact set_lc h1 h2 h3.1.1 h3.1.2 h3.2
          · simp only [Bool.not_eq_true', decide_eq_false_iff_not] at h3
            exact snd_set h1 A.f (.inr h3)
        · cases h3
    · cases h
  | .setT l e, c, x, h => by
    unfold chkS at h
    split at h
    · simp only [Bool.and_eq_true] at h
      exact snd_setT h.1.1 (all_E e c _ h.1.2).ev h.2
    · cases h
  | .par2 i j a d, c, x, h => by
    unfold chkS at h
    split at h
    · rw [Bool.and_eq_true] at h
      obtain ⟨h, hp⟩ := h
      simp only [Bool.and_eq_true, decide_eq_true_eq] at h
      obtain ⟨⟨⟨⟨⟨⟨h1, h2⟩, h3⟩, h4⟩, h5⟩, h6⟩, h7⟩ := h
      exact snd_par2 h1 h2 h3 (all_E a c _ h4).f (all_E d c _ h6).f (by show (notStar _ && (notStar _ && true)) = true; rw [h5, h7]; rfl) hp
    · cases h
  | .par3 i j l a d e, c, x, h => by
    unfold chkS at h
    split at h
    · rw [Bool.and_eq_true] at h
      obtain ⟨h, hp⟩ := h
      simp only [Bool.and_eq_true, decide_eq_true_eq] at h
      obtain ⟨⟨⟨⟨⟨⟨⟨⟨⟨⟨⟨h1, h2⟩, h3⟩, h4⟩, h5⟩, h6⟩, h7⟩, h8⟩, h9⟩, k1⟩, k2⟩, k3⟩ := h
      exact snd_par3 h1 h2 h3 h4 h5 h6 (all_E a c _ h7).f (all_E d c _ h9).f (all_E e c _ k2).f (by show (notStar _ && (notStar _ && (notStar _ && true))) = true; rw [h8, k1, k3]; rfl) hp
    · cases h
  | .put i k e, c, x, h => by
    unfold chkS at h
    split at h
    · simp only [Bool.and_eq_true] at h
      exact snd_put h.1.1.1 (all_E k c _ h.1.1.2).ev h.1.2 (all_E e c _ h.2).ev
    · cases h
  | .swap i a d, c, x, h => by
    unfold chkS at h
    split at h
    · rw [Bool.and_eq_true] at h
      obtain ⟨h, hl⟩ := h
      simp only [Bool.and_eq_true] at h
      obtain ⟨⟨⟨⟨⟨⟨⟨⟨⟨⟨⟨h1, h2⟩, h3⟩, h4⟩, h5⟩, h6⟩, h7⟩, h8⟩, k1⟩, k2⟩, k3⟩, k4⟩ := h
      split at hl
      · exact snd_swap h1 h2 h3 h4 (all_E _ c _ h5).ev (all_E _ c _ h6).ev (all_E _ c _ h7).ev (all_E _ c _ h8).ev k1 k2 k3 k4 ⟨_, rfl⟩ ⟨_, rfl⟩
      · cases hl
    · cases h
  | .ex e, c, x, h => by
    unfold chkS at h
    split at h
    · rw [Bool.and_eq_true] at h
      exact snd_ex (all_E e c _ h.1).ev h.2
    · cases h
  | .ret e, c, x, h => by
    unfold chkS at h
    split at h
    · exact ret_ok h
    · cases h
  | .retN, c, x, h => by
    unfold chkS at h
    split at h
    · exact snd_retN
    · cases h
  | .pass, c, x, h => by
    unfold chkS at h
    split at h
    · exact snd_pass
    · cases h
  | .never, c, x, h => snd_never
  | .ifs t a d, c, x, h => by
    unfold chkS at h
    split at h
    · simp only [Bool.and_eq_true] at h
      exact snd_if ((all_E t c _ h.1.1.1).t h.1.1.2) (all_B a c _ h.1.2) (all_B d c _ h.2)
    · cases h
  | .for_ t it d, c, x, h => by
    unfold chkS at h
    split at h
    · simp only [Bool.and_eq_true] at h
      exact snd_for (all_I it c _ _ h.1.1.2 h.1.2) (chkI_set h.1.1.2) (snd_g h.1.1.1) (all_B d c _ h.2)
    · cases h
  | .forK i t d, c, x, h => by
    unfold chkS at h
    split at h
    · simp only [Bool.and_eq_true, decide_eq_true_eq] at h
      exact snd_forK h.1.1.1 h.1.1.2 (snd_g h.1.2) (all_B d _ _ h.2)
    · cases h
  | .whl t d, c, x, h => by
    unfold chkS at h
    split at h
    · simp only [Bool.and_eq_true] at h
      exact snd_whl ((all_E t c _ h.1.1).t h.1.2) (all_B d c _ h.2)
    · cases h
theorem all_B : ∀ (s : Ss) (c : Cfg) (x : List Stmt), chkB c s x = true → SndB g b Γ c s x
  | .nil, c, x, h => by
    unfold chkB at h
    split at h
    · exact snd_bnil
    · cases h
  | .cons s ss, c, x, h => by
    unfold chkB at h
    split at h
    · rw [Bool.and_eq_true] at h
      exact snd_bcons (all_S s c _ h.1) (all_B ss c _ h.2)
    · cases h
  | .cut i f j kp pre neg t oth mid k s post fin, c, x, h => by
    unfold chkB at h
    split at h
    · rename_i y py gn gp w wp cp p ys
      simp only [Bool.and_eq_true, decide_eq_true_eq] at h
      obtain ⟨⟨⟨⟨⟨⟨⟨⟨hy, hf⟩, hg⟩, hw⟩, hfx⟩, pl1⟩, pl2⟩, hpre⟩, h⟩ := h
      split at h
      · rename_i tv b1 b2 ip zs ez
        simp only [Bool.and_eq_true, decide_eq_true_eq] at h
        obtain ⟨⟨⟨⟨⟨ht, hni⟩, hoth⟩, hmid⟩, hfin⟩, h⟩ := h
        split at h
        · rename_i y2 py2 kk ck cp2 sp at_ ap u ck3 cp3 pq ep ws ew
          simp only [Bool.and_eq_true, decide_eq_true_eq] at h
          obtain ⟨⟨⟨⟨⟨⟨⟨hy2, hk⟩, hat⟩, hu⟩, hs1⟩, hs2⟩, hl⟩, hpost⟩ := h
          subst hk hat hu
          have e1 := (List.take_append_drop pre.len ys).symm
          rw [ez] at e1
          have e2 := (List.take_append_drop mid.len (bif neg then b2 else b1)).symm
          rw [ew] at e2
          rw [e1]
          exact snd_cut hy hf hg hw hfx (all_app pre _ _ pl1 hpre) ((all_E t c _ ht).t hni) (all_B oth c _ hoth) (all_app mid _ _ pl2 hmid) hy2 hs1 hs2 hl (all_B post c _ hpost) (all_B fin c _ hfin) rfl e2
        · cases h
      · cases h
    · cases h
theorem all_app : ∀ (s : Ss) (c : Cfg) (x : List Stmt), s.plain = true → chkB c s x = true → AppOk g b Γ c s x
  | .nil, c, x, _, h => by
    unfold chkB at h
    split at h
    · exact fun rest X C ρ Q hw F σ H D S P => P.nx ρ σ F H hw .refl S .refl
    · cases h
  | .cons s ss, c, x, hp, h => by
    unfold chkB at h
    split at h
    · rename_i y ys
      rw [Bool.and_eq_true] at h
      intro rest X C ρ Q hw F σ H D S P
      unfold wB at hw
      refine ⟨_, pss_cons (psK y) (pbK (ys ++ rest)), all_S s c _ h.1 X C ρ _ hw F σ H _ S ⟨fun ρ1 σ1 F1 H1 q T S1 f => ?_, P.rt⟩⟩
      exact all_app ss c ys hp h.2 rest X C ρ1 Q q F1 σ1 H1 D S1 (P.step T f)
    · cases h
  | .cut .., c, x, hp, h => by cases hp
end
end
end FT

set_option Elab.async false
set_option linter.all false
set_option maxRecDepth 100000
set_option autoImplicit false
set_option maxHeartbeats 2000000
namespace FT
open PySem PySem.Spec PyProof.Rows L2
/-! ### a def against its contract -/
def RK.ok : RK → Sl → Prop
  | .nor, _ => True
  | .flt, s => s.d.flat = true
  | .fre, .sh d => d.flat = true
  | .fre, s => s.d.flat = false
def Con.rtOk (c : Con) (i : c.ι) (s : Sl) (ρ : List Sl) : Prop := c.ret.ok s ∧
  match c.io with
  | false => c.post i s.d .non
  | true => ∃ out, ρ[0]? = some (.ow out) ∧ c.post i s.d out
def Con.fin (c : Con) (i : c.ι) : Fin := { nx := fun ρ => c.rtOk i (.sh .non) ρ, rt := c.rtOk i }
def initS (io : Bool) (ds : List D) (n : Nat) : List Sl := (match io with
  | false => ds.map .sh
  | true => match ds with
    | [] => []
    | d :: r => .ow d :: r.map .sh) ++ List.replicate (n - ds.length) .un
section
variable {g : G}
theorem init_sr {F H : Hp} (sub : Same F H) {ds : List D} {vs : List V} {N : List Str} (r : RepL g F ds vs) (hl : ds.length ≤ N.length) : SR g F (initS false ds N.length) (L2.start N vs) H ∧ ∀ a, ¬ OwnA (initS false ds N.length) (L2.start N vs) a := by
  have no : ∀ (i : Nat) (d : D), (initS false ds N.length)[i]? ≠ some (.ow d) := fun i d e => by
    unfold initS at e
    dsimp only at e
    by_cases h : i < (ds.map Sl.sh).length
    · rw [List.getElem?_append_left h, List.getElem?_map] at e
      obtain ⟨x, _, ex⟩ := Option.map_eq_some_iff.mp e
      cases ex
    · rw [List.getElem?_append_right (by omega), List.getElem?_replicate] at e
      split at e <;> cases e
  refine ⟨⟨sub, ?_, fun i d e => ?_, fun i d e => absurd e (no i d), fun i j d d' a e => absurd e (no i d)⟩, fun a ⟨i, d, e, _⟩ => no i d e⟩
  · unfold initS L2.start
    simp only [List.length_append, List.length_map, List.length_replicate, r.len]
  · unfold initS at e
    dsimp only at e
    by_cases h : i < (ds.map Sl.sh).length
    · rw [List.getElem?_append_left h, List.getElem?_map] at e
      obtain ⟨x, ex, e⟩ := Option.map_eq_some_iff.mp e
      cases e
      obtain ⟨v, ev, rv⟩ := r.get ex
      refine ⟨v, ?_, rv⟩
      unfold L2.start
      rw [List.getElem?_append_left (by rw [List.length_map, r.len]; simpa using h), List.getElem?_map, ev]; rfl
    · rw [List.getElem?_append_right (by omega), List.getElem?_replicate] at e
      split at e <;> cases e
theorem init_io {F H : Hp} (sub : Same F H) {d0 : D} {ds : List D} {a : Addr} {o : HO} {vs : List V} {N : List Str} (fa : F a = none) (ha : H a = some o) (ro : RepO g F d0 o) (r : RepL g F ds vs) (hl : ds.length + 1 ≤ N.length) :
    SR g F (initS true (d0 :: ds) N.length) (L2.start N (.ref a :: vs)) H ∧ ∀ z, OwnA (initS true (d0 :: ds) N.length) (L2.start N (.ref a :: vs)) z → z = a := by
  have only : ∀ (i : Nat) (d : D), (initS true (d0 :: ds) N.length)[i]? = some (.ow d) → i = 0 ∧ d = d0 := fun i d e => by
    unfold initS at e
    dsimp only at e
    cases i with
    | zero => cases e; exact ⟨rfl, rfl⟩
    | succ i =>
      rw [List.cons_append, List.getElem?_cons_succ] at e
      by_cases h : i < (ds.map Sl.sh).length
      · rw [List.getElem?_append_left h, List.getElem?_map] at e
        obtain ⟨x, _, ex⟩ := Option.map_eq_some_iff.mp e
        cases ex
      · rw [List.getElem?_append_right (by omega), List.getElem?_replicate] at e
        split at e <;> cases e
  have s0 : (L2.start N (.ref a :: vs))[0]? = some (some (.ref a)) := rfl
  refine ⟨⟨sub, ?_, fun i d e => ?_, fun i d e => ?_, fun i j d d' z ei ej _ _ => (only i d ei).1.trans (only j d' ej).1.symm⟩, fun z ⟨i, d, e, es⟩ => ?_⟩
  · unfold initS L2.start
    simp only [List.length_append, List.length_map, List.length_replicate, List.length_cons, r.len]
  · unfold initS at e
    dsimp only at e
    cases i with
    | zero => cases e
    | succ i =>
      rw [List.cons_append, List.getElem?_cons_succ] at e
      by_cases h : i < (ds.map Sl.sh).length
      · rw [List.getElem?_append_left h, List.getElem?_map] at e
        obtain ⟨x, ex, e⟩ := Option.map_eq_some_iff.mp e
        cases e
        obtain ⟨v, ev, rv⟩ := r.get ex
        refine ⟨v, ?_, rv⟩
        unfold L2.start
        rw [List.map_cons, List.cons_append, List.getElem?_cons_succ, List.getElem?_append_left (by rw [List.length_map, r.len]; simpa using h), List.getElem?_map, ev]; rfl
      · rw [List.getElem?_append_right (by omega), List.getElem?_replicate] at e
        split at e <;> cases e
  · obtain ⟨rfl, rfl⟩ := only i d e
    exact ⟨a, o, s0, fa, ha, ro⟩
  · obtain ⟨rfl, rfl⟩ := only i d e
    rw [s0] at es; cases es; rfl
/-- a result as its contract wants it -/
theorem ret_con {k : Con} {ρ ρ' : List Sl} {σ σ' : L2.St} {F H F' H' : Hp} {A : Addr → Prop} {s : Sl} {v : V} (T : Stp ρ σ F H ρ' σ' F' H') (S' : SR g F' ρ' σ' H') (hA : ∀ z, OwnA ρ σ z → A z) (hF : ∀ z, A z → F' z = none) (r : SlR g ρ σ H F' H' ρ' σ' s v) (hr : ∀ a, OwnA ρ σ a → v = .ref a → OwnA ρ' σ' a)
    (hk : k.ret.ok s) :
    ∃ F'', Same F' F'' ∧ CStp F H F'' H' A ∧ (∀ z, A z → OwnA ρ σ z → F'' z = none) ∧ RetR g k.ret F'' H H' s.d v := by
  have base : CStp F H F' H' A := ⟨T.sub, S'.sub, fun b o h n => T.keep b o h fun z => n (hA b z), fun b h => by
    rcases T.newF b h with z | z | z
    · exact .inl z
    · exact .inr z
    · exact absurd (hF b (hA b z)) h, T.grow⟩
  cases s with
  | un => exact r.elim
  | sh d =>
    refine ⟨F', .refl _, base, fun z hz _ => hF z hz, ?_⟩
    cases e : k.ret with
    | nor => exact r
    | flt => rw [e] at hk; exact ⟨hk, r⟩
    | fre => rw [e] at hk; exact .inl ⟨hk, r⟩
  | ow d =>
    obtain ⟨a, o, rfl, h1, h2, h3, h4, h5⟩ := r
    have hn : H a = none := h5.resolve_left fun z => h4 (hr a z rfl)
    have nA : ∀ z, OwnA ρ σ z → z ≠ a := fun z hz e => h4 (hr a (e ▸ hz) rfl)
    have frozen : CStp F H (upd F' a o) H' A := by
      refine ⟨T.sub.trans (same_upd h1), fun b x hb => ?_, base.keep, fun b hb => ?_, base.grow⟩
      · by_cases e : b = a
        · subst e; rw [upd_same] at hb; cases hb; exact h2
        · rw [upd_ne e] at hb; exact S'.sub _ _ hb
      · by_cases e : b = a
        · subst e; exact .inr hn
        · rw [upd_ne e] at hb; exact base.newF b hb
    cases e : k.ret with
    | nor => exact ⟨upd F' a o, same_upd h1, frozen, fun z hz ho => by rw [upd_ne (nA z ho)]; exact hF z hz, RepO.rep upd_same (h3.mono (same_upd h1))⟩
    | flt =>
      rw [e] at hk
      have := h3.coll
      cases d <;> first | (cases this; done) | cases hk
    | fre =>
      rw [e] at hk
      exact ⟨F', .refl _, base, fun z hz _ => hF z hz, .inr ⟨hk, a, o, rfl, h1, hn, h2, h3⟩⟩
end
/-- a contract as a promise of HandS -/
def spC (g : G) (c : Con) : Sp := fun vs H Q _ => c.sp g vs H Q
theorem spC_len {g : G} {c : Con} {n : Nat} (hn : ∀ i, (c.args i).length = n) {vs : List V} {H : Hp} {Q : VK} {E : XK} (h : spC g c vs H Q E) : vs.length = n := by
  unfold spC Con.sp at h
  split at h
  · obtain ⟨F, ds, _, r, i, e, _⟩ := h
    rw [r.len, ← e, hn]
  · obtain ⟨F, d0, ds, a, o, vr, rfl, _, _, _, _, r, i, e, _⟩ := h
    rw [List.length_cons, r.len, ← hn i, e]; rfl
section
variable {g : G} {P : Program} {w : World} {K : PySem.W.Frag} {mg : Str → Option Value} {base : Heap} {Γ : Nat → Option Con} {x qual : Str} {params : Arguments} {body : List Stmt} {scope : Scope} {f : Addr} {fd : FuncData}
/-- THE RULE for a def -/
theorem fn_ok {con : Con} {tree : Ss} {N ps : List Str} {c : Cfg} {k : Nat} (F : FunD K x qual params body scope [] [] f fd) (S : FnScope N ps scope) (hN : c.N = N) (hsc : c.sc = scope) (hblk : c.blk = none) (hfix : c.fix = if con.io then [0] else []) (hgd : c.gd = false)
    (hchk : chkB c tree body = true) (hps : ∀ i, (con.args i).length = ps.length) (hpn : ps.length ≤ N.length) (hE : ∀ A, Room (k + 1) A → Env1 g ⟨P, w, K, mg, base, A⟩ Γ c.fn c.pn c.cn c.kn c.free)
    (hw : ∀ i, con.pre i → wB Γ tree (initS con.io (con.args i) N.length) (con.fin i)) : FnOk P w K mg base CX0 (k + 2) f fd ps (spC g con) := by
  refine F.ok S (fun vs H Q E h => spC_len hps h) fun cdv A outer s H vs Q E hr h => ?_
  refine ⟨OkB (cxOf CX0 P w K mg base N qual scope f cdv A outer s H E).nox body, PSs.nox (pbK body), ?_⟩
  have C : CfgOk g ⟨P, w, K, mg, base, A.deeper (envOfC qual scope s.heap.objs.size f cdv)⟩ Γ (cxOf CX0 P w K mg base N qual scope f cdv A outer s H E).nox c := by
    refine ⟨⟨rfl, rfl, rfl, rfl, rfl, rfl, rfl, rfl⟩, hN.symm, S.nd, hsc.symm, S.kind, hE _ hr, fun z => (by rw [hgd] at z; cases z), ?_⟩
    rw [hblk]
    exact fun _ => rfl
  unfold spC Con.sp at h
  cases eio : con.io with
  | false =>
    rw [eio] at h
    dsimp only at h
    obtain ⟨F0, ds, sub, r, i, ei, pre, h⟩ := h
    have hl : ds.length ≤ N.length := by rw [← ei, hps]; exact hpn
    obtain ⟨S0, no⟩ := init_sr (H := H) sub r hl
    have w0 := hw i pre
    rw [ei, eio] at w0
    have fin : ∀ s' ρ' σ' F' v H', con.rtOk i s' ρ' → Stp (initS false ds N.length) (L2.start N vs) F0 H ρ' σ' F' H' → SR g F' ρ' σ' H' → SlR g (initS false ds N.length) (L2.start N vs) H F' H' ρ' σ' s' v → Q v H' := fun s' ρ' σ' F' v H' q T S' rr => by
      obtain ⟨q1, q2⟩ := q
      rw [eio] at q2
      obtain ⟨F'', sb, cs, _, rt⟩ := ret_con (k := con) (A := fun _ => False) T S' (fun z hz => no z hz) (fun z hz => hz.elim) rr (fun a hz _ => absurd hz (no a)) q1
      exact h s'.d .non q2 F'' H' v cs rt
    exact all_B tree c body hchk _ C _ _ w0 F0 _ H _ S0 ⟨fun ρ' σ' F' H' q T S' _ => fin (.sh .non) ρ' σ' F' .non H' q T S' rfl, fun s' ρ' σ' F' v H' q T S' _ rr => fin s' ρ' σ' F' v H' q T S' rr⟩
  | true =>
    rw [eio] at h
    dsimp only at h
    obtain ⟨F0, d0, ds, a, o, vr, rfl, sub, fa, ha, ro, r, i, ei, pre, h⟩ := h
    have hl : ds.length + 1 ≤ N.length := by
      have : (d0 :: ds).length ≤ N.length := by rw [← ei, hps]; exact hpn
      exact this
    obtain ⟨S0, only⟩ := init_io (H := H) sub fa ha ro r hl
    have w0 := hw i pre
    rw [ei, eio] at w0
    have fin : ∀ s' ρ' σ' F' v H', con.rtOk i s' ρ' → Stp (initS true (d0 :: ds) N.length) (L2.start N (.ref a :: vr)) F0 H ρ' σ' F' H' → SR g F' ρ' σ' H' → Fixd c (L2.start N (.ref a :: vr)) σ' → SlR g (initS true (d0 :: ds) N.length) (L2.start N (.ref a :: vr)) H F' H' ρ' σ' s' v → Q v H' := fun s' ρ' σ' F' v H' q T S' fx rr => by
      obtain ⟨q1, q2⟩ := q
      rw [eio] at q2
      obtain ⟨out, e0, q2⟩ := q2
      have s0 : σ'[0]? = some (some (.ref a)) := by
        have := fx 0 (by rw [hfix, eio]; exact List.mem_cons_self)
        rw [this]; rfl
      obtain ⟨a', o', e1, e2, e3, ro'⟩ := S'.ow 0 out e0
      rw [s0] at e1
      cases e1
      obtain ⟨F'', sb, cs, fz, rt⟩ := ret_con (k := con) (A := fun z => z = a) T S' (fun z hz => only z hz) (fun z hz => by rw [hz]; exact e2) rr (fun z hz _ => by rw [only z hz]; exact ⟨0, out, e0, s0⟩) q1
      exact h s'.d out q2 F'' H' v o' cs (fz a rfl ⟨0, d0, rfl, rfl⟩) e3 (ro'.mono sb) rt
    exact all_B tree c body hchk _ C _ _ w0 F0 _ H _ S0 ⟨fun ρ' σ' F' H' q T S' fx => fin (.sh .non) ρ' σ' F' .non H' q T S' fx rfl, fun s' ρ' σ' F' v H' q T S' fx rr => fin s' ρ' σ' F' v H' q T S' fx rr⟩
/-- a call of such a def -/
theorem call_ok {con : Con} {ps : List Str} {k : Nat} {A : Around} (F : FnOk P w K mg base CX0 k f fd ps (spC g con)) (hr : Room k A) (hm : mg x = some (.ref f)) (hk : PySem.W.keepIn K (.ref f) = true) (hb : Binds K fd ps []) (hd : (x == ("__debug__" : Str)) = false) :
    ∀ X, Lk ⟨P, w, K, mg, base, A⟩ X → Gl X x → CallOk g X x con := by
  intro X lk hg e es p pos σ H Q hs ⟨t, pa, h⟩
  have hs' : (notStar e && notStars es) = true := hs
  rw [Bool.and_eq_true] at hs'
  have F' : FnOk X.prog X.w X.K X.mg X.base CX0 k f fd ps (spC g con) := by rw [lk.prog, lk.w, lk.K, lk.mg, lk.base]; exact F
  refine ⟨_, pe_call (E := fun _ _ _ => False) (dvs := []) F' (by rw [lk.A]; exact hr) hg (by rw [lk.mg]; exact hm) (by rw [lk.K]; exact hk) (by rw [lk.K]; exact hb) .nil pass0 (paK (e :: es)) hd (star1 hs'.1) (stars_any hs'.2), ⟨t, pa, ?_⟩⟩
  refine cast ?_ h
  congr 1
  funext vs H1
  rw [List.append_nil]; rfl
/-- the same without arguments -/
theorem call_ok0 {con : Con} {ps : List Str} {k : Nat} {A : Around} (F : FnOk P w K mg base CX0 k f fd ps (spC g con)) (hr : Room k A) (hm : mg x = some (.ref f)) (hk : PySem.W.keepIn K (.ref f) = true) (hb : Binds K fd ps []) (hd : (x == ("__debug__" : Str)) = false) :
    ∀ X, Lk ⟨P, w, K, mg, base, A⟩ X → Gl X x → CallOk0 g X x con := by
  intro X lk hg p pos σ H Q h
  have F' : FnOk X.prog X.w X.K X.mg X.base CX0 k f fd ps (spC g con) := by rw [lk.prog, lk.w, lk.K, lk.mg, lk.base]; exact F
  exact ⟨_, pe_call0 (E := fun _ _ _ => False) (dvs := []) F' (by rw [lk.A]; exact hr) hg (by rw [lk.mg]; exact hm) (by rw [lk.K]; exact hk) (by rw [lk.K]; exact hb) .nil pass0 hd, h⟩
/-! ### calls with keywords only -/
def permL {α : Type} (π : List Nat) (l : List α) : List α := π.filterMap fun i => l[i]?
theorem permL_vals {π : List Nat} {vs : List V} {us : List Value} (r : Vals vs us) : Vals (permL π vs) (permL π us) := by
  unfold permL
  have key : ∀ {vs : List V} {us : List Value}, Vals vs us → ∀ i : Nat, (∃ v u, vs[i]? = some v ∧ us[i]? = some u ∧ RelV v u) ∨ (vs[i]? = none ∧ us[i]? = none) := by
    intro vs us r
    induction r with
    | nil => intro i; exact .inr ⟨rfl, rfl⟩
    | cons h _ ih => intro i; cases i with
      | zero => exact .inl ⟨_, _, rfl, rfl, h⟩
      | succ i => exact ih i
  induction π with
  | nil => exact .nil
  | cons i π ih =>
    rcases key r i with ⟨v, u, e1, e2, h⟩ | ⟨e1, e2⟩
    · rw [List.filterMap_cons_some e1, List.filterMap_cons_some e2]; exact .cons h ih
    · rw [List.filterMap_cons_none e1, List.filterMap_cons_none e2]; exact ih
theorem FunD.kb {K : PySem.W.Frag} {x qual : Str} {params : Arguments} {body : List Stmt} {scope : Scope} {f : Addr} {fd : FuncData} {ps ks : List Str} {π : List Nat} (n : Nat) (F : FunD K x qual params body scope [] [] f fd)
    (h : ∀ (kV doc pm : Value) (an : Option Addr) (cdv ct : Value) (us ws : List Value), us.length = n → ws.length = ks.length → bindArgs (PySem.W.fnOf x qual params body scope .none kV doc pm an cdv ct) ⟨us, ks.zip ws⟩ = pure (ps.zip (us ++ permL π ws))) :
    KBn K fd ps n ks (fun us ws => us ++ permL π ws) (fun vs zs => vs ++ permL π zs) := by
  obtain ⟨oc, od, dV, kV, doc, pm, an, cdv, ct, osl, rfl, lk, hcd, hD, hK⟩ := F.ex
  rcases hD with ⟨_, rfl⟩ | ⟨e, _⟩
  · exact ⟨fun s us ws _ l1 l2 => .of_eq (h kV doc pm an cdv ct us ws l1 l2), fun r1 r2 => r1.append (permL_vals r2)⟩
  · exact absurd rfl e
end
end FT

set_option Elab.async false
set_option linter.all false
set_option maxRecDepth 100000
set_option autoImplicit false
set_option maxHeartbeats 2000000
namespace FT
open PySem PySem.Spec PyProof.Rows L2
/-! ### the same, run: an evaluator over data -/
mutual
def dEq : D → D → Bool
  | .non, b => match b with
    | .non => true
    | _ => false
  | .bl a, b => match b with
    | .bl b => a == b
    | _ => false
  | .int i, b => match b with
    | .int j => decide (i = j)
    | _ => false
  | .str a, b => match b with
    | .str b => decide (a = b)
    | _ => false
  | .lst a, b => match b with
    | .lst b => dEqL a b
    | _ => false
  | .tup a, b => match b with
    | .tup b => dEqL a b
    | _ => false
  | .dic a, b => match b with
    | .dic b => dEqK a b
    | _ => false
  | .ins c a, b => match b with
    | .ins d b => decide (c = d) && dEqF a b
    | _ => false
  | .scr a, b => match b with
    | .scr b => decide (a = b)
    | _ => false
  | .any, b => match b with
    | .any => true
    | _ => false
  | .exc c a, b => match b with
    | .exc d b => decide (c = d) && dEq a b
    | _ => false
termination_by structural x => x
def dEqL : List D → List D → Bool
  | [], b => b.isEmpty
  | a :: as, b => match b with
    | b :: bs => dEq a b && dEqL as bs
    | [] => false
termination_by structural x => x
def dEqK : List (Key × D) → List (Key × D) → Bool
  | [], b => b.isEmpty
  | a :: as, b => match b with
    | b :: bs => dEqP a b && dEqK as bs
    | [] => false
termination_by structural x => x
def dEqP : Key × D → Key × D → Bool
  | (k, a), b => decide (k = b.1) && dEq a b.2
termination_by structural x => x
def dEqF : List (Str × D) → List (Str × D) → Bool
  | [], b => b.isEmpty
  | a :: as, b => match b with
    | b :: bs => dEqG a b && dEqF as bs
    | [] => false
termination_by structural x => x
def dEqG : Str × D → Str × D → Bool
  | (k, a), b => decide (k = b.1) && dEq a b.2
termination_by structural x => x
end
mutual
theorem dEq_refl : ∀ d : D, dEq d d = true
  | .non => rfl
  | .bl a => by unfold dEq; exact beq_self_eq_true a
  | .int i => by unfold dEq; exact decide_eq_true rfl
  | .str a => by unfold dEq; exact decide_eq_true rfl
  | .lst a => by unfold dEq; exact dEqL_refl a
  | .tup a => by unfold dEq; exact dEqL_refl a
  | .dic a => by unfold dEq; exact dEqK_refl a
  | .ins c a => by unfold dEq; dsimp only; rw [dEqF_refl a, decide_eq_true rfl]; rfl
  | .scr a => by unfold dEq; exact decide_eq_true rfl
  | .any => rfl
  | .exc c a => by unfold dEq; dsimp only; rw [dEq_refl a, decide_eq_true rfl]; rfl
theorem dEqL_refl : ∀ d : List D, dEqL d d = true
  | [] => rfl
  | a :: as => by unfold dEqL; dsimp only; rw [dEq_refl a, dEqL_refl as]; rfl
theorem dEqK_refl : ∀ d : List (Key × D), dEqK d d = true
  | [] => rfl
  | a :: as => by unfold dEqK; dsimp only; rw [dEqP_refl a, dEqK_refl as]; rfl
theorem dEqP_refl : ∀ d : Key × D, dEqP d d = true
  | (k, a) => by unfold dEqP; dsimp only; rw [dEq_refl a, decide_eq_true rfl]; rfl
theorem dEqF_refl : ∀ d : List (Str × D), dEqF d d = true
  | [] => rfl
  | a :: as => by unfold dEqF; dsimp only; rw [dEqG_refl a, dEqF_refl as]; rfl
theorem dEqG_refl : ∀ d : Str × D, dEqG d d = true
  | (k, a) => by unfold dEqG; dsimp only; rw [dEq_refl a, decide_eq_true rfl]; rfl
end
mutual
theorem dEq_ok : ∀ {a b : D}, dEq a b = true → a = b
  | .non, b, h => by cases b <;> first | rfl | cases h
  | .bl x, b, h => by
    cases b <;> first | (have h := eq_of_beq (show (x == _) = true from h); rw [h]) | cases h
  | .int x, b, h => by
    cases b <;> first | (have h := of_decide_eq_true (show decide (x = _) = true from h); rw [h]) | cases h
  | .str x, b, h => by
    cases b <;> first | (have h := of_decide_eq_true (show decide (x = _) = true from h); rw [h]) | cases h
  | .lst x, b, h => by
    cases b <;> first | (have h := dEqL_ok (show dEqL x _ = true from h); rw [h]) | cases h
  | .tup x, b, h => by
    cases b <;> first | (have h := dEqL_ok (show dEqL x _ = true from h); rw [h]) | cases h
  | .dic x, b, h => by
    cases b <;> first | (have h := dEqK_ok (show dEqK x _ = true from h); rw [h]) | cases h
  | .ins c x, b, h => by
    cases b <;> first | (have h : (decide (c = _) && dEqF x _) = true := h; rw [Bool.and_eq_true] at h; rw [of_decide_eq_true h.1, dEqF_ok h.2]) | cases h
  | .scr x, b, h => by
    cases b <;> first | (have h := of_decide_eq_true (show decide (x = _) = true from h); rw [h]) | cases h
  | .any, b, h => by cases b <;> first | rfl | cases h
  | .exc c x, b, h => by
    cases b <;> first | (have h : (decide (c = _) && dEq x _) = true := h; rw [Bool.and_eq_true] at h; rw [of_decide_eq_true h.1, dEq_ok h.2]) | cases h
theorem dEqL_ok : ∀ {a b : List D}, dEqL a b = true → a = b
  | [], [], h => rfl
  | [], _ :: _, h => by cases h
  | _ :: _, [], h => by cases h
  | a :: as, b :: bs, h => by
    have h : (dEq a b && dEqL as bs) = true := h
    rw [Bool.and_eq_true] at h; rw [dEq_ok h.1, dEqL_ok h.2]
theorem dEqK_ok : ∀ {a b : List (Key × D)}, dEqK a b = true → a = b
  | [], [], h => rfl
  | [], _ :: _, h => by cases h
  | _ :: _, [], h => by cases h
  | a :: as, b :: bs, h => by
    have h : (dEqP a b && dEqK as bs) = true := h
    rw [Bool.and_eq_true] at h; rw [dEqP_ok h.1, dEqK_ok h.2]
theorem dEqP_ok : ∀ {a b : Key × D}, dEqP a b = true → a = b
  | (k, a), (l, b), h => by
    have h : (decide (k = l) && dEq a b) = true := h
    rw [Bool.and_eq_true] at h; rw [of_decide_eq_true h.1, dEq_ok h.2]
theorem dEqF_ok : ∀ {a b : List (Str × D)}, dEqF a b = true → a = b
  | [], [], h => rfl
  | [], _ :: _, h => by cases h
  | _ :: _, [], h => by cases h
  | a :: as, b :: bs, h => by
    have h : (dEqG a b && dEqF as bs) = true := h
    rw [Bool.and_eq_true] at h; rw [dEqG_ok h.1, dEqF_ok h.2]
theorem dEqG_ok : ∀ {a b : Str × D}, dEqG a b = true → a = b
  | (k, a), (l, b), h => by
    have h : (decide (k = l) && dEq a b) = true := h
    rw [Bool.and_eq_true] at h; rw [of_decide_eq_true h.1, dEq_ok h.2]
end
def stillB (s : Option Nat) (ρ ρ' : List Sl) : Bool := match s with
  | none => true
  | some i => match ρ[i]?, ρ'[i]? with
    | some (.ow a), some (.ow b) => dEq b a
    | some (.sh a), some (.sh b) => dEq b a
    | _, _ => false
theorem stillB_ok {s : Option Nat} {ρ ρ' : List Sl} (h : stillB s ρ ρ' = true) : still s ρ ρ' := by
  cases s with
  | none => trivial
  | some i =>
    unfold stillB at h
    unfold still
    dsimp only at h ⊢
    split at h
    · rename_i a b e1 e2; rw [e1, e2, dEq_ok h]
    · rename_i a b e1 e2; rw [e1, e2, dEq_ok h]
    · cases h
/-- a def as a function of data: the result, what its first argument has become -/
structure PF where
  io : Bool
  ret : RK
  f : List D → Option (D × D)
def PF.con (p : PF) : Con := ⟨List D, fun ds => ds, fun ds => (p.f ds).isSome = true, fun ds d o => p.f ds = some (d, o), p.io, p.ret⟩
def xCon (p : PF) (rs : List Raw) (ρ : List Sl) : Option (Sl × List Sl) := match p.io with
  | true => match rs with
    | (_, some i) :: r => match (frzs r ρ)[i]? with
      | some (.ow d) => (curs r ρ).bind fun ds => (p.f (d :: ds)).map fun xo => (p.ret.sl xo.1, (frzs r ρ).set i (.ow xo.2))
      | _ => none
    | _ => none
  | false => (curs rs ρ).bind fun ds => (p.f ds).map fun xo => match p.ret with
    | .flt => (.sh xo.1, ρ)
    | r => (r.sl xo.1, frzs rs ρ)
theorem xCon_ok {p : PF} {rs : List Raw} {ρ ρ' : List Sl} {s : Sl} {Q : Sl → List Sl → Prop} (h : xCon p rs ρ = some (s, ρ')) (q : Q s ρ') : wCon p.con rs ρ Q := by
  unfold xCon at h
  unfold wCon
  show match p.io with
    | true => _
    | false => _
  cases eio : p.io with
  | true =>
    rw [eio] at h
    dsimp only at h ⊢
    split at h
    · rename_i x i r
      split at h
      · rename_i d e
        try dsimp only
        try rw [e]
        obtain ⟨ds, e1, h⟩ := Option.bind_eq_some_iff.mp h
        obtain ⟨xo, e2, h⟩ := Option.map_eq_some_iff.mp h
        cases h
        rw [e1]
        exact ⟨d :: ds, rfl, (by show (p.f (d :: ds)).isSome = true; rw [e2]; rfl), fun x o hp => by
          have hp : p.f (d :: ds) = some (x, o) := hp
          rw [e2] at hp; cases hp; exact q⟩
      · cases h
    · cases h
  | false =>
    rw [eio] at h
    dsimp only at h ⊢
    obtain ⟨ds, e1, h⟩ := Option.bind_eq_some_iff.mp h
    obtain ⟨xo, e2, h⟩ := Option.map_eq_some_iff.mp h
    rw [e1]
    refine ⟨ds, rfl, (by show (p.f ds).isSome = true; rw [e2]; rfl), fun x o hp => ?_⟩
    have hp : p.f ds = some (x, o) := hp
    rw [e2] at hp; cases hp
    show match p.ret with
      | .flt => Q (.sh x) ρ
      | _ => Q (p.ret.sl x) (frzs rs ρ)
    cases er : p.ret with
    | flt => rw [er] at h; cases h; exact q
    | nor => rw [er] at h; cases h; exact q
    | fre => rw [er] at h; cases h; exact q
/-- a collecting loop -/
def xCol {α : Type} (step : α → D → List Sl → Option (α × List Sl)) : List D → α → List Sl → Option (α × List Sl)
  | [], a, ρ => some (a, ρ)
  | x :: xs, a, ρ => (step a x ρ).bind fun r => xCol step xs r.1 r.2
theorem xCol_inv {α : Type} {step : α → D → List Sl → Option (α × List Sl)} {items : List D} {k : Nat} {x : D} {a : α} {ρ : List Sl} {r : α × List Sl} (e : items[k]? = some x) (h : xCol step (items.drop k) a ρ = some r) : ∃ r1, step a x ρ = some r1 ∧ xCol step (items.drop (k + 1)) r1.1 r1.2 = some r := by
  have hk : k < items.length := (List.getElem?_eq_some_iff.mp e).1
  have e2 : items[k] = x := (List.getElem?_eq_some_iff.mp e).2
  rw [List.drop_eq_getElem_cons hk, e2] at h
  exact Option.bind_eq_some_iff.mp h
theorem xCol_end {α : Type} {step : α → D → List Sl → Option (α × List Sl)} {items : List D} {a : α} {ρ : List Sl} {r : α × List Sl} (h : xCol step (items.drop items.length) a ρ = some r) : (a, ρ) = r := by
  rw [List.drop_length] at h
  exact Option.some.inj h
def xTg (t : Tg) (d : D) (ρ : List Sl) : Option (List Sl) := match t with
  | .nm i => some (ρ.set i (.sh d))
  | .tp l => match d with
    | .tup ds => bif decide (ds.length = l.length) then some (setL ρ l ds) else none
    | .lst ds => bif decide (ds.length = l.length) then some (setL ρ l ds) else none
    | _ => none
theorem xTg_ok {t : Tg} {d : D} {ρ ρ' : List Sl} {Q : List Sl → Prop} (h : xTg t d ρ = some ρ') (q : Q ρ') : wTg t d ρ Q := by
  unfold xTg at h
  unfold wTg
  cases t with
  | nm i => cases h; exact q
  | tp l =>
    dsimp only at h ⊢
    cases d with
    | tup ds =>
      dsimp only at h ⊢
      cases e : decide (ds.length = l.length) with
      | true => rw [e] at h; cases h; exact q
      | false => rw [e] at h; cases h
    | lst ds =>
      dsimp only at h ⊢
      cases e : decide (ds.length = l.length) with
      | true => rw [e] at h; cases h; exact q
      | false => rw [e] at h; cases h
    | _ => cases h
abbrev RE := Option (D × Option Nat × List Sl)
def asB (r : RE) : Option (Bool × List Sl) := r.bind fun r => match r.1 with
  | .bl b => some (b, r.2.2)
  | _ => none
def guardO {α : Type} (b : Bool) (x : Option α) : Option α := bif b then x else none
theorem guard_some {α : Type} {b : Bool} {x : Option α} {y : α} (h : guardO b x = some y) : b = true ∧ x = some y := by
  cases b with
  | true => exact ⟨rfl, h⟩
  | false => cases h
section
variable (Φ : Nat → Option PF)
mutual
def xE : E → List Sl → RE
  | .kInt i, ρ => some (.int i, none, ρ)
  | .kStr s, ρ => some (.str s, none, ρ)
  | .kBl b, ρ => some (.bl b, none, ρ)
  | .kNon, ρ => some (.non, none, ρ)
  | .loc i, ρ => match ρ[i]? with
    | some (.sh d) => some (d, none, ρ)
    | some (.ow d) => some (d, some i, ρ)
    | _ => none
  | .bin o a b, ρ => (xE a ρ).bind fun r1 => (xE b r1.2.2).bind fun r2 => (cur r1.2.1 r1.1 r2.2.2).bind fun d1 => (cur r2.2.1 r2.1 r2.2.2).bind fun d2 => (binD o d1 d2).map fun d => (d, none, r2.2.2)
  | .neg a, ρ => (xE a ρ).bind fun r1 => match r1.1 with
    | .int i => some (.int (-i), none, r1.2.2)
    | _ => none
  | .cmp o a b, ρ => (xE a ρ).bind fun r1 => (xE b r1.2.2).bind fun r2 => (cur r1.2.1 r1.1 r2.2.2).bind fun d1 => (cur r2.2.1 r2.1 r2.2.2).bind fun d2 => (cmpD o d1 d2).map fun c => (.bl c, none, r2.2.2)
  | .cmp2 o p a b c, ρ => (xE a ρ).bind fun r1 => (xE b r1.2.2).bind fun r2 => (cur r1.2.1 r1.1 r2.2.2).bind fun d1 => (cur r2.2.1 r2.1 r2.2.2).bind fun d2 => (cmpD o d1 d2).bind fun k =>
      bif k then (xE c r2.2.2).bind fun r3 => (cur r2.2.1 d2 r3.2.2).bind fun d2 => (cur r3.2.1 r3.1 r3.2.2).bind fun d3 => (cmpD p d2 d3).map fun k => (.bl k, none, r3.2.2) else some (.bl false, none, r2.2.2)
  | .and a b, ρ => (asB (xE a ρ)).bind fun r => bif r.1 then xE b r.2 else some (.bl false, none, r.2)
  | .or a b, ρ => (asB (xE a ρ)).bind fun r => bif r.1 then some (.bl true, none, r.2) else xE b r.2
  | .not a, ρ => (asB (xE a ρ)).map fun r => (.bl (!r.1), none, r.2)
  | .ife c a b, ρ => (asB (xE c ρ)).bind fun r => bif r.1 then xE a r.2 else xE b r.2
  | .sub a i, ρ => (xE a ρ).bind fun r1 => (xE i r1.2.2).bind fun r2 => (cur r1.2.1 r1.1 r2.2.2).bind fun d1 => (cur r2.2.1 r2.1 r2.2.2).bind fun d2 => (ixD d1 d2).map fun d => (d, none, r2.2.2)
  | .slc a lo hi, ρ => (xE a ρ).bind fun r1 => (xO lo r1.2.2).bind fun l => (partD l.1).bind fun lv => (xO hi l.2).bind fun h => (partD h.1).bind fun hv => (cur r1.2.1 r1.1 h.2).bind fun d1 => (slD d1 lv hv).map fun d => (d, none, h.2)
  | .rev a, ρ => (xE a ρ).bind fun r1 => (cur r1.2.1 r1.1 r1.2.2).bind fun d1 => match d1 with
    | .lst l => some (.lst l.reverse, none, r1.2.2)
    | _ => none
  | .tup es, ρ => (xA es ρ).bind fun r => (curs r.1 r.2).map fun ds => (.tup ds, none, frzs r.1 r.2)
  | .lst es, ρ => (xA es ρ).bind fun r => (curs r.1 r.2).map fun ds => (.lst ds, none, frzs r.1 r.2)
  | .dic0, ρ => some (.dic [], none, ρ)
  | .dic1 k v, ρ => (xE k ρ).bind fun r1 => (xE v r1.2.2).bind fun r2 => (keyD r1.1).bind fun k => (cur r2.2.1 r2.1 r2.2.2).map fun d2 => (.dic [(k, d2)], none, frz r2.2.1 r2.2.2)
  | .call f es, ρ => (Φ f).bind fun p => (xA es ρ).bind fun r => (xCon p r.1 r.2).map fun s => (s.1.d, none, s.2)
  | .bi b es, ρ => (xA es ρ).bind fun r => (curs r.1 r.2).bind fun ds => (biD b ds).map fun s => (s.d, none, r.2)
  | .me m a es, ρ => (xE a ρ).bind fun r1 => (cur r1.2.1 r1.1 r1.2.2).bind fun d0 => guardO (meTy m d0) ((xA es r1.2.2).bind fun r => (cur r1.2.1 r1.1 r.2).bind fun d1 => (curs r.1 r.2).bind fun ds => (meD m d1 ds).map fun d => (d, none, r.2))
  | .mt m i es, ρ => match ρ[i]? with
    | some (.ow d0) => guardO (mtTy m d0) ((xA es ρ).bind fun r => (curs r.1 r.2).bind fun ds => match (frzs r.1 r.2)[i]? with
      | some (.ow d) => (mtD m d ds).map fun x => (x.1, none, (frzs r.1 r.2).set i (.ow x.2))
      | _ => none)
    | _ => none
  | .fld a f, ρ => (xE a ρ).bind fun r1 => match r1.1 with
    | .ins _ fs => (fs.lookup f).map fun d => (d, none, r1.2.2)
    | .exc _ d => guardO (decide (f = "value")) (some (d, none, r1.2.2))
    | _ => none
  | .prp a f, ρ => (Φ f).bind fun p => (xE a ρ).bind fun r1 => (xCon p [(r1.1, r1.2.1)] r1.2.2).map fun s => (s.1.d, none, s.2)
  | .eqT n f a b, ρ => (Φ f).bind fun p => (xE a ρ).bind fun r1 => (xE b r1.2.2).bind fun r2 => (xCon p [(r1.1, r1.2.1), (r2.1, r2.2.1)] r2.2.2).bind fun s => match s.1.d with
    | .bl k => some (.bl (n != k), none, s.2)
    | _ => none
  | .isi a t, ρ => (xE a ρ).bind fun r1 => (cur r1.2.1 r1.1 r1.2.2).bind fun d => (isiD d t).map fun k => (.bl k, none, r1.2.2)
  | .lc own t it c e, ρ => (xI it ρ).bind fun r => (xCol (fun acc x ρ2 => guardO (stillB r.2.1 r.2.2 ρ2) ((xTg t x (wipeS ρ2 own)).bind fun ρ3 => (xC c ρ3).bind fun b =>
      bif b.1 then (xE e b.2).bind fun v => (cur v.2.1 v.1 v.2.2).map fun d => (acc ++ [d], back own ρ2 (frz v.2.1 v.2.2)) else some (acc, back own ρ2 b.2))) r.1 ([] : List D) r.2.2).bind fun z => guardO (stillB r.2.1 r.2.2 z.2) (some (.lst z.1, none, z.2))
  | .lc2 own own2 t it c t2 it2 c2 e, ρ => (xI it ρ).bind fun r => (xCol (fun acc x ρ2 => guardO (stillB r.2.1 r.2.2 ρ2) ((xTg t x (wipeS ρ2 own)).bind fun ρ3 => (xC c ρ3).bind fun b =>
      bif b.1 then (xI it2 b.2).bind fun r2 => (xCol (fun acc x ρ6 => guardO (stillB r2.2.1 r2.2.2 ρ6) ((xTg t2 x (wipeS ρ6 own2)).bind fun ρ7 => (xC c2 ρ7).bind fun b2 =>
        bif b2.1 then (xE e b2.2).bind fun v => guardO (decide (acc.length < 1000000)) ((cur v.2.1 v.1 v.2.2).map fun d => (acc ++ [d], back own2 ρ6 (frz v.2.1 v.2.2))) else some (acc, back own2 ρ6 b2.2))) r2.1 acc r2.2.2).bind fun z => guardO (stillB r2.2.1 r2.2.2 z.2) (some (z.1, back own ρ2 z.2))
      else some (acc, back own ρ2 b.2))) r.1 ([] : List D) r.2.2).bind fun z => guardO (stillB r.2.1 r.2.2 z.2) (some (.lst z.1, none, z.2))
  | .dc own t it k v, ρ => (xI it ρ).bind fun r => (xCol (fun acc x ρ2 => guardO (stillB r.2.1 r.2.2 ρ2) ((xTg t x (wipeS ρ2 own)).bind fun ρ3 => (xE k ρ3).bind fun r1 => (xE v r1.2.2).bind fun r2 => (keyD r1.1).bind fun kk =>
      (cur r2.2.1 r2.1 r2.2.2).map fun d => (putD acc kk d, back own ρ2 (frz r2.2.1 r2.2.2)))) r.1 ([] : List (Key × D)) r.2.2).bind fun z => guardO (stillB r.2.1 r.2.2 z.2) (some (.dic z.1, none, z.2))
termination_by structural x => x
def xO : O → List Sl → Option (Option D × List Sl)
  | .no, ρ => some (none, ρ)
  | .so e, ρ => (xE e ρ).map fun r => (some r.1, r.2.2)
termination_by structural x => x
def xC : O → List Sl → Option (Bool × List Sl)
  | .no, ρ => some (true, ρ)
  | .so e, ρ => asB (xE e ρ)
termination_by structural x => x
def xA : Es → List Sl → Option (List Raw × List Sl)
  | .nil, ρ => some ([], ρ)
  | .cons e es, ρ => (xE e ρ).bind fun r => (xA es r.2.2).map fun rs => ((r.1, r.2.1) :: rs.1, rs.2)
termination_by structural x => x
def xI : It → List Sl → Option (List D × Option Nat × List Sl)
  | .val e, ρ => (xE e ρ).bind fun r => (cur r.2.1 r.1 r.2.2).bind fun d => (iterD d).map fun l => (l, r.2.1, r.2.2)
  | .keys _, _ => none
  | .rng1 a, ρ => (xE a ρ).bind fun r => match r.1 with
    | .int j => guardO (decide (0 ≤ j) && decide (j ≤ 1000000)) (some ((List.range j.toNat).map fun i => .int (i : Nat), none, r.2.2))
    | _ => none
  | .rng2 a b, ρ => (xE a ρ).bind fun r => (xE b r.2.2).bind fun r2 => match r.1, r2.1 with
    | .int i, .int j => guardO (decide (0 ≤ i) && decide (i ≤ 1000000) && decide (0 ≤ j) && decide (j ≤ 1000000)) (some ((List.range (j - i).toNat).map fun n => .int (i + (n : Nat)), none, r2.2.2))
    | _, _ => none
  | .enum e, ρ => (xE e ρ).bind fun r => (cur r.2.1 r.1 r.2.2).bind fun d => (iterS d).map fun l => (l.zipIdx.map fun p => .tup [.int (p.2 : Nat), p.1], none, frz r.2.1 r.2.2)
  | .zip a b, ρ => (xE a ρ).bind fun r1 => (xE b r1.2.2).bind fun r2 => (cur r1.2.1 r1.1 r2.2.2).bind fun d1 => (cur r2.2.1 r2.1 r2.2.2).bind fun d2 => (iterS d1).bind fun l1 => (iterS d2).map fun l2 =>
      ((l1.zip l2).map fun p => .tup [p.1, p.2], none, frz r2.2.1 (frz r1.2.1 r2.2.2))
termination_by structural x => x
end
end
/-! ### the run is allowed -/
def GΦ (Φ : Nat → Option PF) (n : Nat) : Option Con := (Φ n).map PF.con
theorem bs {α β : Type} {x : Option α} {f : α → Option β} {y : β} (h : x.bind f = some y) : ∃ a, x = some a ∧ f a = some y := Option.bind_eq_some_iff.mp h
theorem mss {α β : Type} {x : Option α} {f : α → β} {y : β} (h : x.map f = some y) : ∃ a, x = some a ∧ f a = y := Option.map_eq_some_iff.mp h
theorem asB_some {r : RE} {b : Bool × List Sl} (h : asB r = some b) : ∃ s, r = some (.bl b.1, s, b.2) := by
  unfold asB at h
  obtain ⟨⟨d, s, ρ⟩, e, h⟩ := bs h
  dsimp only at h
  split at h
  · rename_i x ed
    cases h
    exact ⟨s, e⟩
  · cases h
section
variable {Φ : Nat → Option PF}
mutual
theorem xE_ok : ∀ (e : E) {ρ : List Sl} {r : D × Option Nat × List Sl} {Q : D → Option Nat → List Sl → Prop}, xE Φ e ρ = some r → Q r.1 r.2.1 r.2.2 → wE (GΦ Φ) e ρ Q
  | .kInt i, ρ, r, Q, h, q => by unfold xE at h; cases h; exact q
  | .kStr i, ρ, r, Q, h, q => by unfold xE at h; cases h; exact q
  | .kBl i, ρ, r, Q, h, q => by unfold xE at h; cases h; exact q
  | .kNon, ρ, r, Q, h, q => by unfold xE at h; cases h; exact q
  | .loc i, ρ, r, Q, h, q => by
    unfold xE at h
    unfold wE
    split at h
    · rename_i d e; cases h; (try rw [e]); exact q
    · rename_i d e; cases h; (try rw [e]); exact q
    · cases h
  | .bin o a b, ρ, r, Q, h, q => by
    unfold xE at h
    unfold wE
    obtain ⟨r1, h1, h⟩ := bs h
    obtain ⟨r2, h2, h⟩ := bs h
    obtain ⟨d1, c1, h⟩ := bs h
    obtain ⟨d2, c2, h⟩ := bs h
    obtain ⟨d, ed, h⟩ := mss h
    cases h
    refine xE_ok a h1 (xE_ok b h2 ?_)
    rw [c1, c2]
    show bnd (binD o d1 d2) _
    rw [ed]; exact q
  | .neg a, ρ, r, Q, h, q => by
    unfold xE at h
    unfold wE
    obtain ⟨r1, h1, h⟩ := bs h
    refine xE_ok a h1 ?_
    split at h
    · rename_i i e; cases h; (try rw [e]); exact q
    · cases h
  | .cmp o a b, ρ, r, Q, h, q => by
    unfold xE at h
    unfold wE
    obtain ⟨r1, h1, h⟩ := bs h
    obtain ⟨r2, h2, h⟩ := bs h
    obtain ⟨d1, c1, h⟩ := bs h
    obtain ⟨d2, c2, h⟩ := bs h
    obtain ⟨d, ed, h⟩ := mss h
    cases h
    refine xE_ok a h1 (xE_ok b h2 ?_)
    rw [c1, c2]
    show bnd (cmpD o d1 d2) _
    rw [ed]; exact q
  | .cmp2 o p a b c, ρ, r, Q, h, q => by
    unfold xE at h
    unfold wE
    obtain ⟨r1, h1, h⟩ := bs h
    obtain ⟨r2, h2, h⟩ := bs h
    obtain ⟨d1, c1, h⟩ := bs h
    obtain ⟨d2, c2, h⟩ := bs h
    obtain ⟨k, ek, h⟩ := bs h
    refine xE_ok a h1 (xE_ok b h2 ?_)
    rw [c1, c2]
    show bnd (cmpD o d1 d2) _
    rw [ek]
    show bif k then _ else _
    cases k with
    | false => cases h; exact q
    | true =>
      obtain ⟨r3, h3, h⟩ := bs h
      obtain ⟨e2, c3, h⟩ := bs h
      obtain ⟨e3, c4, h⟩ := bs h
      obtain ⟨k, ek, h⟩ := mss h
      cases h
      refine xE_ok c h3 ?_
      have c3' : cur r2.2.1 r2.1 r3.2.2 = some e2 := by rw [cur_again c2] at c3; exact c3
      rw [show cur r2.2.1 d2 r3.2.2 = some e2 from c3, c4]
      show bnd (cmpD p e2 e3) _
      rw [ek]; exact q
  | .and a b, ρ, r, Q, h, q => by
    unfold xE at h
    unfold wE
    obtain ⟨r1, h1, h⟩ := bs h
    obtain ⟨s, e⟩ := asB_some h1
    refine xE_ok a e ?_
    obtain ⟨k, ρ1⟩ := r1
    dsimp only at h ⊢
    cases k with
    | true => exact xE_ok b h q
    | false => cases h; exact q
  | .or a b, ρ, r, Q, h, q => by
    unfold xE at h
    unfold wE
    obtain ⟨r1, h1, h⟩ := bs h
    obtain ⟨s, e⟩ := asB_some h1
    refine xE_ok a e ?_
    obtain ⟨k, ρ1⟩ := r1
    dsimp only at h ⊢
    cases k with
    | false => exact xE_ok b h q
    | true => cases h; exact q
  | .not a, ρ, r, Q, h, q => by
    unfold xE at h
    unfold wE
    obtain ⟨r1, h1, h⟩ := mss h
    obtain ⟨s, e⟩ := asB_some h1
    cases h
    exact xE_ok a e q
  | .ife c a b, ρ, r, Q, h, q => by
    unfold xE at h
    unfold wE
    obtain ⟨r1, h1, h⟩ := bs h
    obtain ⟨s, e⟩ := asB_some h1
    refine xE_ok c e ?_
    obtain ⟨k, ρ1⟩ := r1
    dsimp only at h ⊢
    cases k with
    | true => exact xE_ok a h q
    | false => exact xE_ok b h q
  | .sub a b, ρ, r, Q, h, q => by
    unfold xE at h
    unfold wE
    obtain ⟨r1, h1, h⟩ := bs h
    obtain ⟨r2, h2, h⟩ := bs h
    obtain ⟨d1, c1, h⟩ := bs h
    obtain ⟨d2, c2, h⟩ := bs h
    obtain ⟨d, ed, h⟩ := mss h
    cases h
    refine xE_ok a h1 (xE_ok b h2 ?_)
    rw [c1, c2]
    show bnd (ixD d1 d2) _
    rw [ed]; exact q
  | .slc a lo hi, ρ, r, Q, h, q => by
    unfold xE at h
    unfold wE
    obtain ⟨r1, h1, h⟩ := bs h
    obtain ⟨l, h2, h⟩ := bs h
    obtain ⟨lv, h3, h⟩ := bs h
    obtain ⟨hh, h4, h⟩ := bs h
    obtain ⟨hv, h5, h⟩ := bs h
    obtain ⟨d1, h6, h⟩ := bs h
    obtain ⟨d, h7, h⟩ := mss h
    cases h
    refine xE_ok a h1 (xO_ok lo h2 ?_)
    rw [h3]
    refine xO_ok hi h4 ?_
    rw [h5, h6]
    show bnd (slD d1 lv hv) _
    rw [h7]; exact q
  | .rev a, ρ, r, Q, h, q => by
    unfold xE at h
    unfold wE
    obtain ⟨r1, h1, h⟩ := bs h
    obtain ⟨d1, h2, h⟩ := bs h
    refine xE_ok a h1 ?_
    rw [h2]
    dsimp only [bnd]
    split at h
    · cases h; exact q
    · cases h
  | .tup es, ρ, r, Q, h, q => by
    unfold xE at h
    unfold wE
    obtain ⟨r1, h1, h⟩ := bs h
    obtain ⟨ds, h2, h⟩ := mss h
    cases h
    refine xA_ok es h1 ?_
    rw [h2]; exact q
  | .lst es, ρ, r, Q, h, q => by
    unfold xE at h
    unfold wE
    obtain ⟨r1, h1, h⟩ := bs h
    obtain ⟨ds, h2, h⟩ := mss h
    cases h
    refine xA_ok es h1 ?_
    rw [h2]; exact q
  | .dic0, ρ, r, Q, h, q => by unfold xE at h; cases h; exact q
  | .dic1 k v, ρ, r, Q, h, q => by
    unfold xE at h
    unfold wE
    obtain ⟨r1, h1, h⟩ := bs h
    obtain ⟨r2, h2, h⟩ := bs h
    obtain ⟨kk, h3, h⟩ := bs h
    obtain ⟨d2, h4, h⟩ := mss h
    cases h
    refine xE_ok k h1 (xE_ok v h2 ?_)
    rw [h3, h4]; exact q
  | .call f es, ρ, r, Q, h, q => by
    unfold xE at h
    unfold wE
    obtain ⟨p, h1, h⟩ := bs h
    obtain ⟨r1, h2, h⟩ := bs h
    obtain ⟨s, h3, h⟩ := mss h
    cases h
    unfold GΦ
    rw [h1]
    exact xA_ok es h2 (xCon_ok h3 q)
  | .bi b es, ρ, r, Q, h, q => by
    unfold xE at h
    unfold wE
    obtain ⟨r1, h1, h⟩ := bs h
    obtain ⟨ds, h2, h⟩ := bs h
    obtain ⟨s, h3, h⟩ := mss h
    cases h
    refine xA_ok es h1 ?_
    rw [h2]
    show bnd (biD b ds) _
    rw [h3]; exact q
  | .me m a es, ρ, r, Q, h, q => by
    unfold xE at h
    unfold wE
    obtain ⟨r1, h1, h⟩ := bs h
    obtain ⟨d0, h2, h⟩ := bs h
    obtain ⟨h3, h⟩ := guard_some h
    obtain ⟨r2, h4, h⟩ := bs h
    obtain ⟨d1, h5, h⟩ := bs h
    obtain ⟨ds, h6, h⟩ := bs h
    obtain ⟨d, h7, h⟩ := mss h
    cases h
    refine xE_ok a h1 ?_
    rw [h2]
    show bif meTy m d0 then _ else _
    rw [h3]
    refine xA_ok es h4 ?_
    rw [h5, h6]
    show bnd (meD m d1 ds) _
    rw [h7]; exact q
  | .mt m i es, ρ, r, Q, h, q => by
    unfold xE at h
    unfold wE
    split at h
    · rename_i d0 e0
      try rw [e0]
      obtain ⟨h1, h⟩ := guard_some h
      obtain ⟨r1, h2, h⟩ := bs h
      obtain ⟨ds, h3, h⟩ := bs h
      try dsimp only
      rw [h1]
      refine xA_ok es h2 ?_
      rw [h3]
      dsimp only [bnd]
      split at h
      · rename_i d e
        obtain ⟨x, h4, h⟩ := mss h
        cases h
        try rw [e]
        show bnd (mtD m d ds) _
        rw [h4]; exact q
      · cases h
    · cases h
  | .fld a f, ρ, r, Q, h, q => by
    unfold xE at h
    unfold wE
    obtain ⟨r1, h1, h⟩ := bs h
    refine xE_ok a h1 ?_
    split at h
    · rename_i e
      obtain ⟨d, h2, h⟩ := mss h
      cases h
      try rw [e]
      try dsimp only
      rw [h2]; exact q
    · rename_i e
      obtain ⟨h2, h3⟩ := guard_some h
      cases h3
      try rw [e]
      try dsimp only
      rw [h2]; exact q
    · cases h
  | .prp a f, ρ, r, Q, h, q => by
    unfold xE at h
    unfold wE
    obtain ⟨p, h1, h⟩ := bs h
    obtain ⟨r1, h2, h⟩ := bs h
    obtain ⟨s, h3, h⟩ := mss h
    cases h
    unfold GΦ
    rw [h1]
    exact xE_ok a h2 (xCon_ok h3 q)
  | .eqT n f a b, ρ, r, Q, h, q => by
    unfold xE at h
    unfold wE
    obtain ⟨p, h1, h⟩ := bs h
    obtain ⟨r1, h2, h⟩ := bs h
    obtain ⟨r2, h3, h⟩ := bs h
    obtain ⟨s, h4, h⟩ := bs h
    unfold GΦ
    rw [h1]
    refine xE_ok a h2 (xE_ok b h3 (xCon_ok h4 ?_))
    split at h
    · rename_i k e; cases h; (try rw [e]); exact q
    · cases h
  | .isi a t, ρ, r, Q, h, q => by
    unfold xE at h
    unfold wE
    obtain ⟨r1, h1, h⟩ := bs h
    obtain ⟨d, h2, h⟩ := bs h
    obtain ⟨k, h3, h⟩ := mss h
    cases h
    refine xE_ok a h1 ?_
    rw [h2]
    show bnd (isiD d t) _
    rw [h3]; exact q
  | .lc own t it c e, ρ, r, Q, h, q => by
    unfold xE at h
    unfold wE
    obtain ⟨r1, h1, h⟩ := bs h
    obtain ⟨z, h2, h⟩ := bs h
    obtain ⟨h3, h⟩ := guard_some h
    cases h
    refine xI_ok it h1 ⟨fun k acc ρ2 => xCol _ (r1.1.drop k) acc ρ2 = some z, h2, fun k x acc ρ2 ex hI => ?_, fun acc ρ2 hI => ?_⟩
    · obtain ⟨r2, hs, hI⟩ := xCol_inv ex hI
      obtain ⟨st, hs⟩ := guard_some hs
      obtain ⟨ρ3, h4, hs⟩ := bs hs
      obtain ⟨b, h5, hs⟩ := bs hs
      refine ⟨stillB_ok st, xTg_ok h4 (xC_ok c h5 ?_)⟩
      obtain ⟨k, ρ4⟩ := b
      dsimp only at hs ⊢
      cases k with
      | false => cases hs; exact hI
      | true =>
        obtain ⟨v, h6, hs⟩ := bs hs
        obtain ⟨d, h7, hs⟩ := mss hs
        cases hs
        refine xE_ok e h6 ?_
        rw [h7]; exact hI
    · have := xCol_end hI
      subst this
      exact ⟨stillB_ok h3, q⟩
  | .lc2 own own2 t it c t2 it2 c2 e, ρ, r, Q, h, q => by
    unfold xE at h
    unfold wE
    obtain ⟨r1, h1, h⟩ := bs h
    obtain ⟨z, h2, h⟩ := bs h
    obtain ⟨h3, h⟩ := guard_some h
    cases h
    refine xI_ok it h1 ⟨fun k acc ρ2 => xCol _ (r1.1.drop k) acc ρ2 = some z, h2, fun k x acc ρ2 ex hI => ?_, fun acc ρ2 hI => ?_⟩
    · obtain ⟨r2, hs, hI⟩ := xCol_inv ex hI
      obtain ⟨st, hs⟩ := guard_some hs
      obtain ⟨ρ3, h4, hs⟩ := bs hs
      obtain ⟨b, h5, hs⟩ := bs hs
      refine ⟨stillB_ok st, xTg_ok h4 (xC_ok c h5 ?_)⟩
      obtain ⟨k, ρ4⟩ := b
      dsimp only at hs ⊢
      cases k with
      | false => cases hs; exact hI
      | true =>
        obtain ⟨w, h6, hs⟩ := bs hs
        obtain ⟨z2, h7, hs⟩ := bs hs
        obtain ⟨h8, hs⟩ := guard_some hs
        cases hs
        refine xI_ok it2 h6 ⟨fun j acc ρ6 => xCol _ (w.1.drop j) acc ρ6 = some z2, h7, fun j y acc ρ6 ey hJ => ?_, fun acc ρ6 hJ => ?_⟩
        · obtain ⟨r3, hs, hJ⟩ := xCol_inv ey hJ
          obtain ⟨st2, hs⟩ := guard_some hs
          obtain ⟨ρ7, k4, hs⟩ := bs hs
          obtain ⟨b2, k5, hs⟩ := bs hs
          refine ⟨stillB_ok st2, xTg_ok k4 (xC_ok c2 k5 ?_)⟩
          obtain ⟨kk, ρ8⟩ := b2
          dsimp only at hs ⊢
          cases kk with
          | false => cases hs; exact hJ
          | true =>
            obtain ⟨v, k6, hs⟩ := bs hs
            obtain ⟨k8, hs⟩ := guard_some hs
            obtain ⟨d, k7, hs⟩ := mss hs
            cases hs
            refine xE_ok e k6 ⟨of_decide_eq_true k8, ?_⟩
            rw [k7]; exact hJ
        · have := xCol_end hJ
          subst this
          exact ⟨stillB_ok h8, hI⟩
    · have := xCol_end hI
      subst this
      exact ⟨stillB_ok h3, q⟩
  | .dc own t it k v, ρ, r, Q, h, q => by
    unfold xE at h
    unfold wE
    obtain ⟨r1, h1, h⟩ := bs h
    obtain ⟨z, h2, h⟩ := bs h
    obtain ⟨h3, h⟩ := guard_some h
    cases h
    refine xI_ok it h1 ⟨fun n acc ρ2 => xCol _ (r1.1.drop n) acc ρ2 = some z, h2, fun n x acc ρ2 ex hI => ?_, fun acc ρ2 hI => ?_⟩
    · obtain ⟨r2, hs, hI⟩ := xCol_inv ex hI
      obtain ⟨st, hs⟩ := guard_some hs
      obtain ⟨ρ3, h4, hs⟩ := bs hs
      obtain ⟨w1, h5, hs⟩ := bs hs
      obtain ⟨w2, h6, hs⟩ := bs hs
      obtain ⟨kk, h7, hs⟩ := bs hs
      obtain ⟨d, h8, hs⟩ := mss hs
      cases hs
      refine ⟨stillB_ok st, xTg_ok h4 (xE_ok k h5 (xE_ok v h6 ?_))⟩
      rw [h7, h8]; exact hI
    · have := xCol_end hI
      subst this
      exact ⟨stillB_ok h3, q⟩
theorem xO_ok : ∀ (e : O) {ρ : List Sl} {r : Option D × List Sl} {Q : Option D → List Sl → Prop}, xO Φ e ρ = some r → Q r.1 r.2 → wO (GΦ Φ) e ρ Q
  | .no, ρ, r, Q, h, q => by unfold xO at h; cases h; exact q
  | .so e, ρ, r, Q, h, q => by
    unfold xO at h
    unfold wO
    obtain ⟨r1, h1, h⟩ := mss h
    cases h
    exact xE_ok e h1 q
theorem xC_ok : ∀ (e : O) {ρ : List Sl} {r : Bool × List Sl} {Q : Bool → List Sl → Prop}, xC Φ e ρ = some r → Q r.1 r.2 → wC (GΦ Φ) e ρ Q
  | .no, ρ, r, Q, h, q => by unfold xC at h; cases h; exact q
  | .so e, ρ, r, Q, h, q => by
    unfold xC at h
    unfold wC
    obtain ⟨s, e1⟩ := asB_some h
    exact xE_ok e e1 q
theorem xA_ok : ∀ (es : Es) {ρ : List Sl} {r : List Raw × List Sl} {Q : List Raw → List Sl → Prop}, xA Φ es ρ = some r → Q r.1 r.2 → wA (GΦ Φ) es ρ Q
  | .nil, ρ, r, Q, h, q => by unfold xA at h; cases h; exact q
  | .cons e es, ρ, r, Q, h, q => by
    unfold xA at h
    unfold wA
    obtain ⟨r1, h1, h⟩ := bs h
    obtain ⟨r2, h2, h⟩ := mss h
    cases h
    exact xE_ok e h1 (xA_ok es h2 q)
theorem xI_ok : ∀ (it : It) {ρ : List Sl} {r : List D × Option Nat × List Sl} {Q : List D → Option Nat → List Sl → Prop}, xI Φ it ρ = some r → Q r.1 r.2.1 r.2.2 → wI (GΦ Φ) it ρ Q
  | .val e, ρ, r, Q, h, q => by
    unfold xI at h
    unfold wI
    obtain ⟨r1, h1, h⟩ := bs h
    obtain ⟨d, h2, h⟩ := bs h
    obtain ⟨l, h3, h⟩ := mss h
    cases h
    refine xE_ok e h1 ?_
    rw [h2]
    show bnd (iterD d) _
    rw [h3]; exact q
  | .keys e, ρ, r, Q, h, q => by unfold xI at h; cases h
  | .rng1 a, ρ, r, Q, h, q => by
    unfold xI at h
    unfold wI
    obtain ⟨r1, h1, h⟩ := bs h
    refine xE_ok a h1 ?_
    split at h
    · rename_i j e
      obtain ⟨h2, h⟩ := guard_some h
      cases h
      try rw [e]
      try dsimp only
      rw [h2]; exact q
    · cases h
  | .rng2 a b, ρ, r, Q, h, q => by
    unfold xI at h
    unfold wI
    obtain ⟨r1, h1, h⟩ := bs h
    obtain ⟨r2, h2, h⟩ := bs h
    refine xE_ok a h1 (xE_ok b h2 ?_)
    split at h
    · rename_i i j e1 e2
      obtain ⟨h2, h⟩ := guard_some h
      cases h
      try rw [e1, e2]
      try dsimp only
      rw [h2]; exact q
    · cases h
  | .enum e, ρ, r, Q, h, q => by
    unfold xI at h
    unfold wI
    obtain ⟨r1, h1, h⟩ := bs h
    obtain ⟨d, h2, h⟩ := bs h
    obtain ⟨l, h3, h⟩ := mss h
    cases h
    refine xE_ok e h1 ?_
    rw [h2]
    show bnd (iterS d) _
    rw [h3]; exact q
  | .zip a b, ρ, r, Q, h, q => by
    unfold xI at h
    unfold wI
    obtain ⟨r1, h1, h⟩ := bs h
    obtain ⟨r2, h2, h⟩ := bs h
    obtain ⟨d1, h3, h⟩ := bs h
    obtain ⟨d2, h4, h⟩ := bs h
    obtain ⟨l1, h5, h⟩ := bs h
    obtain ⟨l2, h6, h⟩ := mss h
    cases h
    refine xE_ok a h1 (xE_ok b h2 ?_)
    rw [h3, h4]
    show bnd (iterS d1) _
    rw [h5]
    show bnd (iterS d2) _
    rw [h6]; exact q
end
end
end FT

set_option Elab.async false
set_option linter.all false
set_option maxRecDepth 100000
set_option autoImplicit false
set_option maxHeartbeats 2000000
namespace FT
open PySem PySem.Spec PyProof.Rows L2
/-! ### statements, run -/
def RK.isNor : RK → Bool
  | .nor => true | _ => false
/-- a call whose result's list is changed later -/
def cutA (Φ : Nat → Option PF) (f : Nat) (s : Option Sl) : Option D := match s with
  | some (.sh d0) => (Φ f).bind fun p => guardO (noLst d0 && !p.io && p.ret.isNor) ((p.f [d0]).map fun r => r.1)
  | _ => none
def cutE (d : D) (k : Nat) (x : Str) : Option D := match d with
  | .tup ds => match ds[k]? with
    | some (.lst ks) => guardO (ks.all D.flat && decide (ks.length < sizeLine)) (some (.tup (cutT ds k (.lst (ks ++ [.str x])))))
    | _ => none
  | _ => none
def cutD (ρ ρ3 : List Sl) (i k : Nat) (x : Str) (d : D) : Option D := guardO (decide (ρ.length = ρ3.length)) (match ρ3[i]? with
  | some (.sh d') => guardO (dEq d' d) (cutE d k x)
  | _ => none)
theorem cutA_some {Φ : Nat → Option PF} {f : Nat} {s : Option Sl} {d : D} (h : cutA Φ f s = some d) : ∃ d0 p o, s = some (.sh d0) ∧ Φ f = some p ∧ noLst d0 = true ∧ p.io = false ∧ p.ret = .nor ∧ p.f [d0] = some (d, o) := by
  unfold cutA at h
  split at h
  · rename_i d0
    obtain ⟨p, ep, h⟩ := Option.bind_eq_some_iff.mp h
    obtain ⟨h1, h⟩ := guard_some h
    obtain ⟨r, er, h⟩ := Option.map_eq_some_iff.mp h
    rw [Bool.and_eq_true, Bool.and_eq_true, Bool.not_eq_true'] at h1
    obtain ⟨d1, o⟩ := r
    cases h
    refine ⟨d0, p, o, rfl, ep, h1.1.1, h1.1.2, ?_, er⟩
    cases e : p.ret with
    | nor => rfl
    | fre => rw [e] at h1; cases h1.2
    | flt => rw [e] at h1; cases h1.2
  · cases h
theorem cutD_some {ρ ρ3 : List Sl} {i k : Nat} {x : Str} {d nd : D} (h : cutD ρ ρ3 i k x d = some nd) : ρ.length = ρ3.length ∧ ρ3[i]? = some (.sh d) ∧ ∃ ds ks, d = .tup ds ∧ ds[k]? = some (.lst ks) ∧ ks.all D.flat = true ∧ ks.length < sizeLine ∧ nd = .tup (cutT ds k (.lst (ks ++ [.str x]))) := by
  unfold cutD at h
  obtain ⟨h1, h⟩ := guard_some h
  split at h
  · rename_i d' e
    obtain ⟨h2, hc⟩ := guard_some h
    cases dEq_ok h2
    clear h
    cases d with
    | tup ds =>
      unfold cutE at hc
      dsimp only at hc
      cases ek : ds[k]? with
      | none => rw [ek] at hc; cases hc
      | some y =>
        rw [ek] at hc
        cases y with
        | lst ks =>
          obtain ⟨h3, h4⟩ := guard_some hc
          rw [Bool.and_eq_true] at h3
          cases h4
          exact ⟨of_decide_eq_true h1, e, ds, ks, rfl, ek, h3.1, of_decide_eq_true h3.2, rfl⟩
        | _ => cases hc
    | _ => cases hc
  · cases h
inductive Oc where
  | nx (ρ : List Sl) | rt (s : Sl) (ρ : List Sl)
def Oc.meets (Q : Fin) : Oc → Prop
  | .nx ρ => Q.nx ρ
  | .rt s ρ => Q.rt s ρ
def xFor (step : D → List Sl → Option Oc) : List D → List Sl → Option Oc
  | [], ρ => some (.nx ρ)
  | x :: xs, ρ => (step x ρ).bind fun r => match r with
    | .nx ρ' => xFor step xs ρ'
    | .rt s ρ' => some (.rt s ρ')
def xWhl (test : List Sl → Option (Bool × List Sl)) (body : List Sl → Option Oc) : Nat → List Sl → Option Oc
  | 0, _ => none
  | n + 1, ρ => (test ρ).bind fun t => bif t.1 then (body t.2).bind fun r => match r with
      | .nx ρ' => xWhl test body n ρ'
      | .rt s ρ' => some (.rt s ρ')
    else some (.nx t.2)
section
variable (Φ : Nat → Option PF)
def xF (e : E) (ρ : List Sl) : Option (Sl × List Sl) := match e with
  | .lst es => (xA Φ es ρ).bind fun r => (curs r.1 r.2).map fun ds => (.ow (.lst ds), frzs r.1 r.2)
  | .dic0 => some (.ow (.dic []), ρ)
  | .dic1 k v => (xE Φ (.dic1 k v) ρ).map fun r => (.ow r.1, r.2.2)
  | .lc own t it c e => (xE Φ (.lc own t it c e) ρ).map fun r => (.ow r.1, r.2.2)
  | .lc2 own own2 t it c t2 it2 c2 e => (xE Φ (.lc2 own own2 t it c t2 it2 c2 e) ρ).map fun r => (.ow r.1, r.2.2)
  | .dc own t it k v => (xE Φ (.dc own t it k v) ρ).map fun r => (.ow r.1, r.2.2)
  | .call f es => (Φ f).bind fun p => (xA Φ es ρ).bind fun r => xCon p r.1 r.2
  | .bi b es => (xA Φ es ρ).bind fun r => (curs r.1 r.2).bind fun ds => (biD b ds).map fun s => (s, r.2)
  | .bin o a b => (xE Φ (.bin o a b) ρ).map fun r => (fresh r.1, r.2.2)
  | e => (xE Φ e ρ).bind fun r => (cur r.2.1 r.1 r.2.2).map fun d => (.sh d, frz r.2.1 r.2.2)
def xR (e : E) (ρ : List Sl) : Option (Sl × List Sl) := match e with
  | .loc i => match ρ[i]? with
    | some (.sh d) => some (.sh d, ρ)
    | some (.ow d) => some (.ow d, ρ.set i .un)
    | _ => none
  | e => xF Φ e ρ
mutual
def xS : S → List Sl → Option Oc
  | .set i e, ρ => (xF Φ e ρ).map fun r => .nx (r.2.set i r.1)
  | .setT l e, ρ => (xE Φ e ρ).bind fun r => (cur r.2.1 r.1 r.2.2).bind fun d => match d with
    | .tup ds => guardO (decide (ds.length = l.length)) (some (.nx (setL (frz r.2.1 r.2.2) l ds)))
    | .lst ds => guardO (decide (ds.length = l.length)) (some (.nx (setL (frz r.2.1 r.2.2) l ds)))
    | _ => none
  | .par2 i j a b, ρ => (xF Φ a ρ).bind fun r1 => (xF Φ b r1.2).map fun r2 => .nx ((r2.2.set i r1.1).set j r2.1)
  | .par3 i j k a b c, ρ => (xF Φ a ρ).bind fun r1 => (xF Φ b r1.2).bind fun r2 => (xF Φ c r2.2).map fun r3 => .nx (((r3.2.set i r1.1).set j r2.1).set k r3.1)
  | .put i k e, ρ => (xE Φ e ρ).bind fun r1 => match r1.2.2[i]? with
    | some (.ow _) => (xE Φ k r1.2.2).bind fun r2 => (cur r1.2.1 r1.1 r2.2.2).bind fun d => match (frz r1.2.1 r2.2.2)[i]? with
      | some (.ow c) => (stD c r2.1 d).map fun c => .nx ((frz r1.2.1 r2.2.2).set i (.ow c))
      | _ => none
    | _ => none
  | .swap i a b, ρ => match a, b with
    | .loc m, .loc n => match ρ[m]?, ρ[n]?, ρ[i]? with
      | some (.sh da), some (.sh db), some (.ow (.lst c)) => (ixD (.lst c) db).bind fun x => (ixD (.lst c) da).bind fun y => (stD (.lst c) da x).bind fun c1 => (stD c1 db y).map fun c2 => .nx (ρ.set i (.ow c2))
      | _, _, _ => none
    | _, _ => none
  | .ex e, ρ => (xE Φ e ρ).map fun r => .nx r.2.2
  | .ret e, ρ => (xR Φ e ρ).map fun r => .rt r.1 r.2
  | .retN, ρ => some (.rt (.sh .non) ρ)
  | .pass, ρ => some (.nx ρ)
  | .never, _ => none
  | .ifs c a b, ρ => (asB (xE Φ c ρ)).bind fun r => bif r.1 then xB a r.2 else xB b r.2
  | .for_ t it b, ρ => (xI Φ it ρ).bind fun r => xFor (fun x ρ => (xTg t x ρ).bind fun ρ => xB b ρ) r.1 (frz r.2.1 r.2.2)
  | .forK i t b, ρ => match ρ[i]? with
    | some (.ow (.lst items)) => (xFor (fun x ρ => (xTg t x ρ).bind fun ρ => xB b ρ) items (ρ.set i .un)).map fun oc => match oc with
      | .nx ρ' => .nx (ρ'.set i (.ow (.lst items)))
      | .rt s ρ' => .rt s ρ'
    | _ => none
  | .whl c b, ρ => xWhl (fun ρ => asB (xE Φ c ρ)) (fun ρ => xB b ρ) 1000 ρ
termination_by structural x => x
def xB : Ss → List Sl → Option Oc
  | .nil, ρ => some (.nx ρ)
  | .cons s ss, ρ => (xS s ρ).bind fun r => match r with
    | .nx ρ => xB ss ρ
    | .rt s ρ => some (.rt s ρ)
  | .cut i f j kp pre neg t oth mid k x post fin, ρ => (cutA Φ f (ρ[j]?)).bind fun d => (xB pre (ρ.set i (.sh d))).bind fun r => match r with
    | .rt s ρ' => some (.rt s ρ')
    | .nx ρ1 => (asB (xE Φ t ρ1)).bind fun b => bif b.1 == neg then (xB oth b.2).bind fun r => (match r with
        | .nx ρ4 => xB fin ρ4
        | .rt s ρ' => some (.rt s ρ'))
      else (xB mid b.2).bind fun r => match r with
        | .rt s ρ' => some (.rt s ρ')
        | .nx ρ3 => (cutD ρ ρ3 i k x d).bind fun nd => (xB post ((keepL kp 0 ρ ρ3).set i (.sh nd))).bind fun r => match r with
          | .nx ρ4 => xB fin ρ4
          | .rt s ρ' => some (.rt s ρ')
termination_by structural x => x
end
end
section
variable {Φ : Nat → Option PF}
theorem xF_ok {e : E} {ρ : List Sl} {r : Sl × List Sl} {Q : Sl → List Sl → Prop} (h : xF Φ e ρ = some r) (q : Q r.1 r.2) : wF (GΦ Φ) e ρ Q := by
  cases e with
  | lst es =>
    obtain ⟨r1, h1, h⟩ := bs h
    obtain ⟨ds, h2, h⟩ := mss h
    cases h
    refine xA_ok es h1 ?_
    rw [h2]; exact q
  | dic0 => cases h; exact q
  | dic1 k v => obtain ⟨r1, h1, h⟩ := mss h; cases h; exact xE_ok _ h1 q
  | lc own t it c e => obtain ⟨r1, h1, h⟩ := mss h; cases h; exact xE_ok _ h1 q
  | lc2 own own2 t it c t2 it2 c2 e => obtain ⟨r1, h1, h⟩ := mss h; cases h; exact xE_ok _ h1 q
  | dc own t it k v => obtain ⟨r1, h1, h⟩ := mss h; cases h; exact xE_ok _ h1 q
  | bin o a b => obtain ⟨r1, h1, h⟩ := mss h; cases h; exact xE_ok _ h1 q
  | call f es =>
    obtain ⟨p, h1, h⟩ := bs h
    obtain ⟨r1, h2, h⟩ := bs h
    unfold wF GΦ
    dsimp only
    rw [h1]
    exact xA_ok es h2 (xCon_ok h q)
  | bi b es =>
    obtain ⟨r1, h1, h⟩ := bs h
    obtain ⟨ds, h2, h⟩ := bs h
    obtain ⟨s, h3, h⟩ := mss h
    cases h
    refine xA_ok es h1 ?_
    rw [h2]
    show bnd (biD b ds) _
    rw [h3]; exact q
  | _ =>
    unfold xF at h
    dsimp only at h
    obtain ⟨r1, h1, h⟩ := bs h
    obtain ⟨d, h2, h⟩ := mss h
    cases h
    refine xE_ok _ h1 ?_
    rw [h2]; exact q
theorem xR_ok {e : E} {ρ : List Sl} {r : Sl × List Sl} {Q : Sl → List Sl → Prop} (h : xR Φ e ρ = some r) (q : Q r.1 r.2) : wR (GΦ Φ) e ρ Q := by
  cases e with
  | loc i =>
    unfold xR at h
    unfold wR
    dsimp only at h ⊢
    split at h
    · rename_i d e; cases h; (try rw [e]); exact q
    · rename_i d e; cases h; (try rw [e]); exact q
    · cases h
  | _ =>
    unfold xR at h
    dsimp only at h
    exact xF_ok h q
mutual
theorem xS_ok : ∀ (s : S) {ρ : List Sl} {r : Oc} {Q : Fin}, xS Φ s ρ = some r → r.meets Q → wS (GΦ Φ) s ρ Q
  | .set i e, ρ, r, Q, h, q => by
    unfold xS at h
    unfold wS
    obtain ⟨r1, h1, h⟩ := mss h
    cases h
    exact xF_ok h1 q
  | .setT l e, ρ, r, Q, h, q => by
    unfold xS at h
    unfold wS
    obtain ⟨r1, h1, h⟩ := bs h
    obtain ⟨d, h2, h⟩ := bs h
    refine xE_ok e h1 ?_
    rw [h2]
    dsimp only [bnd]
    cases d with
    | tup ds =>
      obtain ⟨h3, h⟩ := guard_some h
      cases h
      dsimp only
      rw [h3]; exact q
    | lst ds =>
      obtain ⟨h3, h⟩ := guard_some h
      cases h
      dsimp only
      rw [h3]; exact q
    | _ => cases h
  | .par2 i j a b, ρ, r, Q, h, q => by
    unfold xS at h
    unfold wS
    obtain ⟨r1, h1, h⟩ := bs h
    obtain ⟨r2, h2, h⟩ := mss h
    cases h
    exact xF_ok h1 (xF_ok h2 q)
  | .par3 i j k a b c, ρ, r, Q, h, q => by
    unfold xS at h
    unfold wS
    obtain ⟨r1, h1, h⟩ := bs h
    obtain ⟨r2, h2, h⟩ := bs h
    obtain ⟨r3, h3, h⟩ := mss h
    cases h
    exact xF_ok h1 (xF_ok h2 (xF_ok h3 q))
  | .put i k e, ρ, r, Q, h, q => by
    unfold xS at h
    unfold wS
    obtain ⟨r1, h1, h⟩ := bs h
    refine xE_ok e h1 ?_
    split at h
    · rename_i x e0
      obtain ⟨r2, h2, h⟩ := bs h
      obtain ⟨d, h3, h⟩ := bs h
      try rw [e0]
      refine xE_ok k h2 ?_
      rw [h3]
      dsimp only [bnd]
      split at h
      · rename_i c e1
        obtain ⟨c', h4, h⟩ := mss h
        cases h
        try rw [e1]
        try dsimp only
        rw [h4]; exact q
      · cases h
    · cases h
  | .swap i a b, ρ, r, Q, h, q => by
    unfold xS at h
    unfold wS
    split at h
    · rename_i m n
      split at h
      · rename_i da db c e1 e2 e3
        obtain ⟨x, h1, h⟩ := bs h
        obtain ⟨y, h2, h⟩ := bs h
        obtain ⟨c1, h3, h⟩ := bs h
        obtain ⟨c2, h4, h⟩ := mss h
        cases h
        unfold wE
        rw [e1]
        dsimp only
        unfold wE
        rw [e2]
        refine ⟨rfl, rfl, rfl, ?_⟩
        rw [e3]
        dsimp only
        rw [h1]
        show bnd (ixD _ _) _
        rw [h2]
        show bnd (stD _ _ _) _
        rw [h3]
        show bnd (stD _ _ _) _
        rw [h4]; exact q
      · cases h
    · cases h
  | .ex e, ρ, r, Q, h, q => by
    unfold xS at h
    unfold wS
    obtain ⟨r1, h1, h⟩ := mss h
    cases h
    exact xE_ok e h1 q
  | .ret e, ρ, r, Q, h, q => by
    unfold xS at h
    unfold wS
    obtain ⟨r1, h1, h⟩ := mss h
    cases h
    exact xR_ok h1 q
  | .retN, ρ, r, Q, h, q => by unfold xS at h; cases h; exact q
  | .pass, ρ, r, Q, h, q => by unfold xS at h; cases h; exact q
  | .never, ρ, r, Q, h, q => by unfold xS at h; cases h
  | .ifs c a b, ρ, r, Q, h, q => by
    unfold xS at h
    unfold wS
    obtain ⟨r1, h1, h⟩ := bs h
    obtain ⟨s, e⟩ := asB_some h1
    refine xE_ok c e ?_
    obtain ⟨k, ρ1⟩ := r1
    dsimp only at h ⊢
    cases k with
    | true => exact xB_ok a h q
    | false => exact xB_ok b h q
  | .for_ t it b, ρ, r, Q, h, q => by
    unfold xS at h
    unfold wS
    obtain ⟨r1, h1, h⟩ := bs h
    refine xI_ok it h1 ⟨fun k ρ2 => xFor (fun x ρ => (xTg t x ρ).bind fun ρ => xB Φ b ρ) (r1.1.drop k) ρ2 = some r, h, fun k x ρ2 ex hI => ?_, fun ρ2 hI => ?_⟩
    · have hk : k < r1.1.length := (List.getElem?_eq_some_iff.mp ex).1
      have e2 : r1.1[k] = x := (List.getElem?_eq_some_iff.mp ex).2
      dsimp only at hI
      rw [List.drop_eq_getElem_cons hk, e2] at hI
      obtain ⟨r2, hs, hI⟩ := bs hI
      obtain ⟨ρ3, h4, hs⟩ := bs hs
      refine xTg_ok h4 (xB_ok b hs ?_)
      cases r2 with
      | nx ρ' => exact hI
      | rt s ρ' => cases hI; exact q
    · dsimp only at hI
      rw [List.drop_length] at hI
      cases hI
      exact q
  | .forK i t b, ρ, r, Q, h, q => by
    unfold xS at h
    unfold wS
    split at h
    · rename_i items e
      obtain ⟨oc, h1, h2⟩ := Option.map_eq_some_iff.mp h
      try rw [e]
      try dsimp only
      refine ⟨fun k ρ2 => xFor (fun x ρ => (xTg t x ρ).bind fun ρ => xB Φ b ρ) (items.drop k) ρ2 = some oc, h1, fun k x ρ2 ex hI => ?_, fun ρ2 hI => ?_⟩
      · have hk : k < items.length := (List.getElem?_eq_some_iff.mp ex).1
        have e2 : items[k] = x := (List.getElem?_eq_some_iff.mp ex).2
        dsimp only at hI
        rw [List.drop_eq_getElem_cons hk, e2] at hI
        obtain ⟨r2, hs, hI⟩ := bs hI
        obtain ⟨ρ3, h4, hs⟩ := bs hs
        refine xTg_ok h4 (xB_ok b hs ?_)
        cases r2 with
        | nx ρ' => exact hI
        | rt s ρ' => cases hI; cases h2; exact q
      · dsimp only at hI
        rw [List.drop_length] at hI
        cases hI
        cases h2
        exact q
    · cases h
  | .whl c b, ρ, r, Q, h, q => by
    unfold xS at h
    unfold wS
    refine ⟨fun m ρ1 => xWhl (fun ρ => asB (xE Φ c ρ)) (fun ρ => xB Φ b ρ) m ρ1 = some r, ⟨1000, h⟩, fun m ρ1 hI => ?_⟩
    cases m with
    | zero => cases hI
    | succ n =>
      obtain ⟨t, h1, hI⟩ := bs hI
      obtain ⟨s, e⟩ := asB_some h1
      refine xE_ok c e ?_
      obtain ⟨k, ρ2⟩ := t
      dsimp only at hI ⊢
      cases k with
      | false => cases hI; exact q
      | true =>
        obtain ⟨r2, hs, hI⟩ := bs hI
        refine xB_ok b hs ?_
        cases r2 with
        | nx ρ' => exact ⟨n, Nat.lt_succ_self n, hI⟩
        | rt s ρ' => cases hI; exact q
theorem xB_ok : ∀ (s : Ss) {ρ : List Sl} {r : Oc} {Q : Fin}, xB Φ s ρ = some r → r.meets Q → wB (GΦ Φ) s ρ Q
  | .nil, ρ, r, Q, h, q => by unfold xB at h; cases h; exact q
  | .cons s ss, ρ, r, Q, h, q => by
    unfold xB at h
    unfold wB
    obtain ⟨r1, h1, h⟩ := bs h
    refine xS_ok s h1 ?_
    cases r1 with
    | nx ρ' => exact xB_ok ss h q
    | rt s ρ' => cases h; exact q
  | .cut i f j kp pre neg t oth mid k x post fin, ρ, r, Q, h, q => by
    unfold xB at h
    obtain ⟨d, h1, h⟩ := bs h
    obtain ⟨d0, p, o, ej, ef, hn, hio, hret, hp⟩ := cutA_some h1
    obtain ⟨r1, h2, h⟩ := bs h
    have eΓ : GΦ Φ f = some p.con := by
      unfold GΦ
      rw [ef]; rfl
    unfold wB
    simp only [ej, eΓ]
    refine ⟨hn, hio, hret, [d0], rfl, (by show (p.f [d0]).isSome = true; rw [hp]; rfl), fun d' o' hd => ?_⟩
    have hd : p.f [d0] = some (d', o') := hd
    rw [hp] at hd
    cases hd
    refine xB_ok pre h2 ?_
    cases r1 with
    | rt s ρ' => cases h; exact q
    | nx ρ1 =>
      obtain ⟨b, h3, h⟩ := bs h
      obtain ⟨s, e⟩ := asB_some h3
      refine xE_ok t e ?_
      obtain ⟨v, ρ2⟩ := b
      dsimp only at h ⊢
      cases ev : v == neg with
      | true =>
        rw [ev] at h
        obtain ⟨r4, h4, h⟩ := bs h
        rw [cond_true]
        refine xB_ok oth h4 ?_
        cases r4 with
        | nx ρ4 => exact xB_ok fin h q
        | rt s ρ' => cases h; exact q
      | false =>
        rw [ev] at h
        obtain ⟨r4, h4, h⟩ := bs h
        rw [cond_false]
        refine xB_ok mid h4 ?_
        cases r4 with
        | rt s ρ' => cases h; exact q
        | nx ρ3 =>
          obtain ⟨nd, h5, h⟩ := bs h
          obtain ⟨eln, ei, ds, ks, ed, ek, hfl, hlen, en⟩ := cutD_some h5
          subst ed en
          obtain ⟨r6, h6, h⟩ := bs h
          refine ⟨eln, ei, ds, ks, rfl, ek, hfl, hlen, xB_ok post h6 ?_⟩
          cases r6 with
          | nx ρ4 => exact xB_ok fin h q
          | rt s ρ' => cases h; exact q
end
end
/-! ### a def, run -/
def RK.okB : RK → Sl → Bool
  | .nor, _ => true
  | .flt, s => s.d.flat
  | .fre, .sh d => d.flat
  | .fre, s => !s.d.flat
theorem RK.okB_ok {r : RK} {s : Sl} (h : r.okB s = true) : r.ok s := by
  cases r with
  | nor => trivial
  | flt => exact h
  | fre =>
    cases s with
    | sh d => exact h
    | un => cases h
    | ow d => exact by simpa [RK.okB, RK.ok] using h
def endQ (io : Bool) (ret : RK) (s : Sl) (ρ : List Sl) : Option (D × D) := guardO (ret.okB s) (match io with
    | false => some (s.d, .non)
    | true => match (ρ[0]? : Option Sl) with
      | some (.ow out) => some (s.d, out)
      | _ => none)
def endF (io : Bool) (ret : RK) : Oc → Option (D × D)
  | .nx ρ => endQ io ret (.sh .non) ρ
  | .rt s ρ => endQ io ret s ρ
def runF (Φ : Nat → Option PF) (io : Bool) (ret : RK) (n : Nat) (tree : Ss) (ds : List D) : Option (D × D) := (xB Φ tree (initS io ds n)).bind (endF io ret)
def mkF (Φ : Nat → Option PF) (io : Bool) (ret : RK) (n : Nat) (tree : Ss) (np : Nat) : PF := ⟨io, ret, fun ds => guardO (decide (ds.length = np)) (runF Φ io ret n tree ds)⟩
/-- as fn_ok wants it; only arguments of the right number are looked at -/
def mkC (Φ : Nat → Option PF) (io : Bool) (ret : RK) (n : Nat) (tree : Ss) (np : Nat) : Con :=
  ⟨{ds : List D // ds.length = np}, fun ds => ds.1, fun ds => (runF Φ io ret n tree ds.1).isSome = true, fun ds d o => runF Φ io ret n tree ds.1 = some (d, o), io, ret⟩
theorem run_ok {Φ : Nat → Option PF} {io : Bool} {ret : RK} {n np : Nat} {tree : Ss} (ds : (mkC Φ io ret n tree np).ι) (h : (mkC Φ io ret n tree np).pre ds) : wB (GΦ Φ) tree (initS io ds.1 n) ((mkC Φ io ret n tree np).fin ds) := by
  obtain ⟨y, e⟩ := Option.isSome_iff_exists.mp (show (runF Φ io ret n tree ds.1).isSome = true from h)
  have e0 := e
  unfold runF at e
  obtain ⟨r, h1, e⟩ := bs e
  have key : ∀ s ρ, endQ io ret s ρ = some y → (mkC Φ io ret n tree np).rtOk ds s ρ := fun s ρ e => by
    unfold endQ at e
    obtain ⟨h2, e⟩ := guard_some e
    refine ⟨RK.okB_ok h2, ?_⟩
    cases io with
    | false => exact e0.trans e.symm
    | true =>
      dsimp only at e
      split at e
      · rename_i out eo
        exact ⟨out, eo, e0.trans e.symm⟩
      · cases e
  refine xB_ok tree h1 ?_
  cases r with
  | nx ρ => exact key _ _ e
  | rt s ρ => exact key _ _ e
/-- the promise of mkC serves the calls that mkF counts on -/
theorem sp_mk {g : G} {Φ : Nat → Option PF} {io : Bool} {ret : RK} {n np : Nat} {tree : Ss} {vs : List V} {H : Hp} {K : VK} (h : (mkF Φ io ret n tree np).con.sp g vs H K) : (mkC Φ io ret n tree np).sp g vs H K := by
  have wp : ∀ {ds : List D} {Q : D → D → Prop}, (mkF Φ io ret n tree np).con.wp ds Q → (mkC Φ io ret n tree np).wp ds Q := fun {ds Q} ⟨i, e1, e2, e3⟩ => by
    have e1 : i = ds := e1
    subst e1
    obtain ⟨y, e⟩ := Option.isSome_iff_exists.mp (show (guardO (decide (i.length = np)) (runF Φ io ret n tree i)).isSome = true from e2)
    obtain ⟨h1, e4⟩ := guard_some e
    refine ⟨⟨i, of_decide_eq_true h1⟩, rfl, (by show (runF Φ io ret n tree i).isSome = true; rw [e4]; rfl), fun d o hp => e3 d o ?_⟩
    show guardO (decide (i.length = np)) (runF Φ io ret n tree i) = some (d, o)
    rw [h1]; exact hp
  unfold Con.sp at h ⊢
  cases io with
  | false =>
    obtain ⟨F, ds, h1, h2, h3⟩ := h
    exact ⟨F, ds, h1, h2, wp h3⟩
  | true =>
    obtain ⟨F, d0, ds, a, o, vr, h1, h2, h3, h4, h5, h6, h7⟩ := h
    exact ⟨F, d0, ds, a, o, vr, h1, h2, h3, h4, h5, h6, wp h7⟩
end FT

set_option Elab.async false
set_option linter.all false
set_option maxRecDepth 100000
set_option autoImplicit false
set_option maxHeartbeats 2000000
namespace FT
open PySem PySem.Spec PyProof.Rows L2
/-! ### the classes and what is walked by hand, as functions of data -/
abbrev tab (L : List (Nat × PF)) : Nat → Option PF := fun n => L.lookup n
def fldT (ks ms : List D) (sg : List (Key × D)) : D := .ins 0 [("sorts", .tup ks), ("traits", .tup ms), ("signs", .dic sg)]
def fldR (ov sp : List (Key × D)) (ms ks : List D) : D := .ins 1 [("over", .dic ov), ("spots", .dic sp), ("traits", .tup ms), ("sorts", .tup ks)]
def dictOf : List D → List D → Option (List (Key × D))
  | [], _ => some []
  | _, [] => some []
  | k :: ks, v :: vs => (keyD k).bind fun k => (dictOf ks vs).map fun r => (k, v) :: r
def putAllD (l : List (Key × D)) : List (Key × D) := l.foldl (fun acc kv => putD acc kv.1 kv.2) []
def rowD (ms : List D) (row : D) : Option D := match row with
  | .str s => (dictOf ms (signs s)).map fun l => .dic (putAllD l)
  | _ => none
def mapO {α β : Type} (f : α → Option β) : List α → Option (List β)
  | [] => some []
  | x :: xs => (f x).bind fun y => (mapO f xs).map fun ys => y :: ys
def asL (r : Option (D × D)) : Option (List D) := r.bind fun r => match r.1 with
  | .lst l => some l
  | _ => none
def asT (r : Option (D × D)) : Option Bool := r.bind fun r => match r.1 with
  | .bl b => some b
  | _ => none
def tableF (ok ord : PF) (ds : List D) : Option (D × D) := match ds with
  | [.lst ks, .lst ms, .lst rs] => (asT (ok.f ds)).bind fun b => guardO b ((asL (ord.f [.lst ks])).bind fun ks' => (asL (ord.f [.lst ms])).bind fun ms' =>
      (mapO (rowD ms) rs).bind fun rows => (dictOf ks rows).map fun l => (fldT ks' ms' (putAllD l), .non))
  | _ => none
def pairO : D → Option (D × D)
  | .tup [a, b] => some (a, b)
  | _ => none
def treeF (ok ord : PF) (ds : List D) : Option (D × D) := match ds with
  | [.lst ms, .lst ks] => (asT (ok.f ds)).bind fun b => guardO b ((mapO pairO ms).bind fun mp => (mapO pairO ks).bind fun kp =>
      (dictOf (mp.map (·.1)) (mp.map (·.2))).bind fun ov => (dictOf (kp.map (·.1)) (kp.map (·.2))).bind fun sp =>
      (asL (ord.f [.dic (putAllD ov)])).bind fun ms' => (asL (ord.f [.dic (putAllD sp)])).map fun ks' => (fldR (putAllD ov) (putAllD sp) ms' ks', .non))
  | _ => none
def mkTable (ok ord : PF) : PF := ⟨false, .nor, tableF ok ord⟩
def mkTree (ok ord : PF) : PF := ⟨false, .nor, treeF ok ord⟩
def strKey : Key → Bool
  | .inr s => decide (s.length ≤ 1000) && s.cps.all (· < 0x110000)
  | _ => false
/-- in_order of a dict: of its keys -/
def mkOrd (p : PF) : PF := ⟨false, .fre, fun ds => match ds with
  | [.dic kvs] => guardO (kvs.all fun kv => strKey kv.1) ((sortD (kvs.map fun kv => kD kv.1)).map fun l => (.lst l, .non))
  | ds => p.f ds⟩
/-- a kind and its row, out of the dict of signs -/
def rowOf (sg : List (Key × D)) (one : D) : Option (Key × List (Key × D)) := (ixD (.dic sg) one).bind fun r => match r with
  | .dic r => (keyD one).map fun k => (k, r)
  | _ => none
def putOk (l : List (Key × List (Key × D))) (kk : Key) : Bool := decide ((l.map fun kr => kr.1).Nodup) && (l.any fun kr => decide (kr.1 = kk)) && l.all fun kr => decide (kr.2.length < sizeLine) && kr.2.all fun e => e.2.flat
def putL (l : List (Key × List (Key × D))) (kk mm : Key) (s : D) : List (Key × D) := l.map fun kr => (kr.1, .dic (if kr.1 = kk then putD kr.2 mm s else kr.2))
/-- put: the table with one sign put in -/
def putF (chkT chkN isS withT : PF) (ds : List D) : Option (D × D) := match ds with
  | [.ins 0 fs, k, m, s] => (chkT.f [.ins 0 fs]).bind fun _ => (fs.lookup ("sorts" : Str)).bind fun so => (fs.lookup ("traits" : Str)).bind fun tr => (fs.lookup ("signs" : Str)).bind fun sg =>
      (chkN.f [so, k]).bind fun _ => (chkN.f [tr, m]).bind fun _ => (asT (isS.f [s])).bind fun b => guardO (b && s.flat) (match so, sg with
        | .tup ks, .dic sg => (mapO (rowOf sg) ks).bind fun l => (keyD k).bind fun kk => (keyD m).bind fun mm => guardO (putOk l kk) (withT.f [.tup ks, tr, .dic (putL l kk mm s)])
        | _, _ => none)
  | _ => none
def mkPut (chkT chkN isS withT : PF) : PF := ⟨false, .nor, putF chkT chkN isS withT⟩
mutual
/-- == where dicts may stand -/
def eqX : Nat → D → D → Option Bool
  | 0, _, _ => none
  | n + 1, .dic a, .dic b => bif decide (a.length = b.length) then eqXs n a b else some false
  | n + 1, a, b => bif okD a && okD b then some (eqB a b) else none
def eqXs : Nat → List (Key × D) → List (Key × D) → Option Bool
  | 0, _, _ => none
  | n + 1, [], b => some true
  | n + 1, (k, v) :: a, b => match valD b k with
    | none => some false
    | some w => (eqX n v w).bind fun e => bif e then eqXs n a b else some false
end
def eqF (c : Nat) (f1 f2 : Str) (d1 : Bool) (ds : List D) : Option (D × D) := match ds with
  | [.ins c1 a, .ins c2 b] => bif decide (c1 = c) then (bif decide (c2 = c) then (a.lookup f1).bind fun x => (b.lookup f1).bind fun y => (eqX 40 x y).bind fun e => bif e then (a.lookup f2).bind fun x => (b.lookup f2).bind fun y => (eqX 40 x y).map fun e => (.bl e, .non) else some (.bl false, .non) else some (.bl false, .non)) else none
  | _ => none
def mkEqT : PF := ⟨false, .flt, eqF 0 "traits" "signs" false⟩
def mkEqR : PF := ⟨false, .flt, eqF 1 "over" "spots" true⟩
end FT

set_option Elab.async false
set_option linter.all false
set_option maxRecDepth 100000
set_option autoImplicit false
set_option maxHeartbeats 2000000
namespace FT
open PySem PySem.Spec PyProof.Rows L2
/-! ### the head: own classes, properties -/
structure PrD where
  cls : Str
  name : Str
  qual : Str
  params : Arguments
  body : List Stmt
  scope : Scope
def pAd (K : PySem.W.Frag) (p : PrD) : Addr := He.ma K (He.ga K p.cls) p.name
def gAd (K : PySem.W.Frag) (p : PrD) : Addr := match PySem.W.recIn K (pAd K p) "property" with
  | some (.ref g :: _) => g
  | _ => 0
def prW (K : PySem.W.Frag) (p : PrD) : He.FnW := match K.lookup (gAd K p) with
  | some ⟨_, _, .func fd, _⟩ => some (fd.name, fd.qualname, fd.params, fd.body, fd.scope, fd.globals, fd.closure, fd.builtins)
  | _ => none
def PrD.val (d : PrD) : He.FnW := some (d.name, d.qual, d.params, .stmts d.body, d.scope, mainGlobals, [], builtinsNs)
def prOk (K : PySem.W.Frag) (p : PrD) : Bool := He.eqO (PySem.W.findIn K (.ref (He.ga K p.cls)) p.name) (some (some (.ref (pAd K p)))) && (He.eqO (PySem.W.specialIn K (.ref (pAd K p)) "__get__") (some (some (.builtin "property.__get__"))) &&
  (decide (PySem.W.takesIn K (.ref (pAd K p)) = some true) && ((match PySem.W.recIn K (pAd K p) "property" with
    | some (.ref g :: _) => decide (g = gAd K p)
    | _ => false) && (PySem.W.keepIn K (.ref (gAd K p)) && (match K.lookup (gAd K p) with
    | some ⟨_, _, .func fd, _⟩ => PySem.W.codeIn K fd.code p.qual && (He.dflB K fd.defaults [] && He.kwdB K fd.kwdefaults [])
    | _ => false)))))
theorem pr_ok {K : PySem.W.Frag} {p : PrD} (e : prW K p = p.val) (c : prOk K p = true) : PropOf K (He.ga K p.cls) p.name (pAd K p) (gAd K p) ∧ ∃ fd, FunD K p.name p.qual p.params p.body p.scope [] [] (gAd K p) fd := by
  obtain ⟨c1, c⟩ := He.ba c
  obtain ⟨c2, c⟩ := He.ba c
  obtain ⟨c3, c⟩ := He.ba c
  obtain ⟨c4, c⟩ := He.ba c
  obtain ⟨kp, c5⟩ := He.ba c
  refine ⟨⟨He.eqO_ok c1, He.eqO_ok c2, of_decide_eq_true c3, ?_⟩, ?_⟩
  · cases q : PySem.W.recIn K (pAd K p) "property" with
    | none => rw [q] at c4; cases c4
    | some l =>
      rw [q] at c4
      cases l with
      | nil => cases c4
      | cons v l =>
        cases v with
        | ref g =>
          have eg : g = gAd K p := of_decide_eq_true c4
          exact ⟨l, by rw [eg]⟩
        | _ => cases c4
  · unfold prW at e
    cases q : K.lookup (gAd K p) with
    | none => rw [q] at c5; cases c5
    | some o =>
      obtain ⟨oc, od, dt, osl⟩ := o
      rw [q] at c5 e
      cases dt with
      | func fd =>
        obtain ⟨n1, n2, n3, n4, n5, n6, n7, n8, n9, n10, n11, n12, n13, n14, n15⟩ := fd
        have e2 : (some (n1, n2, n3, n4, n5, n6, n7, n15) : He.FnW) = some (p.name, p.qual, p.params, .stmts p.body, p.scope, mainGlobals, [], builtinsNs) := e
        simp only [Option.some.injEq, Prod.mk.injEq] at e2
        obtain ⟨h1, h2, h3, h4, h5, h6, h7, h8⟩ := e2
        subst h1 h2 h3 h4 h5 h6 h7 h8
        obtain ⟨k1, k2⟩ := He.ba c5
        obtain ⟨k3, k4⟩ := He.ba k2
        exact ⟨_, ⟨oc, od, n8, n9, n10, n11, n12, n13, n14, osl, rfl, q, k1, He.dflB_ok k3, He.kwdB_ok k4⟩, kp⟩
      | _ => cases c5
def fldL : List Str := ["sorts", "traits", "signs", "over", "spots", "value"]
def tyL : List String := ["str", "list", "tuple", "dict", "int", "bool", "NoneType"]
def clsOne (K : PySem.W.Frag) (cs : List (Nat × Str)) (c : Nat × Str) : Bool :=
  (He.Fa.glo c.2).ok K && ((He.Fa.cls c.2).ok K && (He.eqO (PySem.W.findIn K (.ref (He.ga K c.2)) "__class__") (some (some (.builtin "object.__class__"))) && (decide (PySem.W.mroIn K (He.ga K c.2) (.type "object") = some true) &&
    ((fldL.all fun f => He.eqO (PySem.W.findIn K (.ref (He.ga K c.2)) f) (some none)) && ((cs.all fun d => decide (PySem.W.kitOne K (.ref (He.ga K c.2)) (.ref (He.ga K d.2)) = some (decide (c.1 = d.1)))) &&
      ((tyL.all fun t => decide (PySem.W.kitOne K (.ref (He.ga K c.2)) (.type t) = some false)) && (tyL.all fun t => decide (PySem.W.kitOne K (.type t) (.ref (He.ga K c.2)) = some false))))))))
def clsB (cs : List (Nat × Str)) (K : PySem.W.Frag) : Bool := (K.lookup sysModules).isSome && (He.eqO (PySem.W.specialIn K (.builtin "object.__class__") "__get__") (some (some (.builtin "getset_descriptor.__get__"))) && (decide (PySem.W.takesIn K (.builtin "object.__class__") = some true) && cs.all fun c => clsOne K cs c))
/-- the classes' places -/
def gOf (K : PySem.W.Frag) (cs : List (Nat × Str)) : G := ⟨K, fun n => He.ga K ((cs.lookup n).getD Str.empty), fun n => cs.lookup n, fun c => bif cs.isEmpty then xN c else none⟩
def neOne (K : PySem.W.Frag) (c : Nat × Str) : Bool := He.eqO (PySem.W.findIn K (.ref (He.ga K c.2)) "__ne__") (some (some (.builtin "object.__ne__")))
abbrev AlP : Type := He.AlD × Bool × List He.FnW
def obsP (fa : List He.Fa) (fn : List He.DefD) (cs : List (Nat × Str)) (ps : List PrD) (K : PySem.W.Frag) : AlP := (He.obsD fa fn K, clsB cs K && ((cs.all fun c => neOne K c) && ps.all fun p => prOk K p), ps.map fun p => prW K p)
def valP (fn : List He.DefD) (ps : List PrD) : AlP := (He.valD fn, true, ps.map PrD.val)
structure SaysP (fa : List He.Fa) (fn : List He.DefD) (cs : List (Nat × Str)) (ps : List PrD) (K : PySem.W.Frag) : Prop where
  d : He.SaysD fa fn K
  c : clsB cs K = true
  n : ∀ c ∈ cs, PySem.W.findIn K (.ref (He.ga K c.2)) "__ne__" = some (some (.builtin "object.__ne__"))
  p : ∀ (i : Nat) (p : PrD), ps[i]? = some p → PropOf K (He.ga K p.cls) p.name (pAd K p) (gAd K p) ∧ ∃ fd, FunD K p.name p.qual p.params p.body p.scope [] [] (gAd K p) fd
theorem saysP_of {fa : List He.Fa} {fn : List He.DefD} {cs : List (Nat × Str)} {ps : List PrD} {K : PySem.W.Frag} (e : obsP fa fn cs ps K = valP fn ps) : SaysP fa fn cs ps K := by
  have e1 : He.obsD fa fn K = He.valD fn := congrArg (fun z : AlP => z.1) e
  have e2 : (clsB cs K && ((cs.all fun c => neOne K c) && ps.all fun p => prOk K p)) = true := congrArg (fun z : AlP => z.2.1) e
  have e3 : ps.map (fun p => prW K p) = ps.map PrD.val := congrArg (fun z : AlP => z.2.2) e
  obtain ⟨h1, h2⟩ := He.ba e2
  obtain ⟨h0, h2⟩ := He.ba h2
  refine ⟨e1, h1, fun c hc => He.eqO_ok (List.all_eq_true.mp h0 c hc), fun i p hp => ?_⟩
  have e4 : (ps.map fun p => prW K p)[i]? = (ps.map PrD.val)[i]? := by rw [e3]
  rw [List.getElem?_map, List.getElem?_map, hp] at e4
  exact pr_ok (Option.some.inj e4) (List.all_eq_true.mp h2 p (List.mem_of_getElem? hp))
def obsPG (n : Nat) (fa : List He.Fa) (fn : List He.DefD) (cs : List (Nat × Str)) (ps : List PrD) (g : Addr → Option Obj) : AlP := obsP fa fn cs ps (He.frG g (sysModules :: He.asD g n))
def hookP (n : Nat) (fa : List He.Fa) (fn : List He.DefD) (cs : List (Nat × Str)) (ps : List PrD) : PySem.W.Hook where
  α := AlP
  obs := fun s => obsPG n fa fn cs ps s.heap.get?
  val := fun _ => valP fn ps
  says := fun _ h => ∃ K : PySem.W.Frag, K.In h ∧ SaysP fa fn cs ps K
  of := fun _ _ e => ⟨_, He.frG_in, saysP_of e⟩
  keeps := fun _ _ _ ⟨K, hK, c⟩ k => ⟨K, PySem.W.Frag.In.keeps hK k, c⟩
end FT

set_option Elab.async false
set_option linter.all false
set_option maxRecDepth 100000
set_option autoImplicit false
set_option maxHeartbeats 2000000
namespace FT
open PySem PySem.Spec PyProof.Rows L2
/-! ### what a def may call -/
structure Wd where
  P : Program
  w : World
  K : PySem.W.Frag
  mg : Str → Option Value
  base : Heap
  cs : List (Nat × Str)
abbrev Wd.g (W : Wd) : G := gOf W.K W.cs
abbrev Wd.bf (W : Wd) (A : Around) : BF := ⟨W.P, W.w, W.K, W.mg, W.base, A⟩
def Cal (W : Wd) (k : Nat) (x : Str) (p : PF) : Prop := ∀ A, Room k A → ∀ X, Lk (W.bf A) X → Gl X x → CallOk W.g X x p.con ∧ CallOk0 W.g X x p.con
def Prp (W : Wd) (k : Nat) (x : Str) (p : PF) : Prop := ∀ A, Room k A → ∀ X, Lk (W.bf A) X → PropOk W.g X x p.con
def Eqq (W : Wd) (k : Nat) (p : PF) : Prop := ∀ A, Room k A → ∀ X, Lk (W.bf A) X → EqOk W.g X p.con
def CalK (W : Wd) (k : Nat) (x : Str) (ns : List Str) (p : PF) : Prop := ∀ A, Room k A → ∀ X, Lk (W.bf A) X → Gl X x → CallOkK W.g X x ns p.con
def Exv (W : Wd) (k : Nat) (x : Str) (p : PF) : Prop := ∀ A, Room k A → ∀ X, Lk (W.bf A) X → Gl X x → ExvOk W.g X x p.con
inductive Kd where
  | fn | pr | eq | kw (ns : List Str) | ev
structure Ent where
  id : Nat
  p : PF
  kd : Kd
  x : Str
abbrev entL (T : List Ent) : List (Nat × PF) := T.map fun t => (t.id, t.p)
def fnOf (T : List Ent) (n : Nat) : Option Str := (T.find? fun t => t.id == n).bind fun t => match t.kd with
  | .fn => some t.x
  | _ => none
def pnOf (T : List Ent) (n : Nat) : Option Str := (T.find? fun t => t.id == n).bind fun t => match t.kd with
  | .fn => none
  | .pr => bif decide (t.x = "__eq__") then none else some t.x
  | .eq => some "__eq__"
  | .kw _ => none
  | .ev => none
def knOf (T : List Ent) (n : Nat) : Option (Str × Option (List Str)) := (T.find? fun t => t.id == n).bind fun t => match t.kd with
  | .kw ns => some (t.x, some ns)
  | .ev => some (t.x, none)
  | _ => none
def Has (W : Wd) (k : Nat) (t : Ent) : Prop := match t.kd with
  | .fn => Cal W k t.x t.p
  | .pr => Prp W k t.x t.p
  | .eq => Eqq W k t.p
  | .kw ns => CalK W k t.x ns t.p
  | .ev => Exv W k t.x t.p
def HasL (W : Wd) (k : Nat) : List Ent → Prop
  | [] => True
  | t :: T => Has W k t ∧ HasL W k T
theorem Cal.mono {W : Wd} {j k : Nat} {x : Str} {p : PF} (h : Cal W j x p) (l : j ≤ k) : Cal W k x p := fun A r => h A (r.mono l)
theorem Prp.mono {W : Wd} {j k : Nat} {x : Str} {p : PF} (h : Prp W j x p) (l : j ≤ k) : Prp W k x p := fun A r => h A (r.mono l)
theorem Eqq.mono {W : Wd} {j k : Nat} {p : PF} (h : Eqq W j p) (l : j ≤ k) : Eqq W k p := fun A r => h A (r.mono l)
theorem CalK.mono {W : Wd} {j k : Nat} {x : Str} {ns : List Str} {p : PF} (h : CalK W j x ns p) (l : j ≤ k) : CalK W k x ns p := fun A r => h A (r.mono l)
theorem Exv.mono {W : Wd} {j k : Nat} {x : Str} {p : PF} (h : Exv W j x p) (l : j ≤ k) : Exv W k x p := fun A r => h A (r.mono l)
theorem has_find {W : Wd} {k n : Nat} {p : PF} : ∀ {T : List Ent}, HasL W k T → (entL T).lookup n = some p → ∃ t, T.find? (fun t => t.id == n) = some t ∧ t.p = p ∧ Has W k t
  | [], _, h => by cases h
  | t :: T, ⟨h1, h2⟩, h => by
    unfold entL at h
    rw [List.map_cons, List.lookup_cons] at h
    rw [List.find?_cons]
    have e : (n == t.id) = (t.id == n) := by rw [Bool.eq_iff_iff, beq_iff_eq, beq_iff_eq]; exact eq_comm
    rw [e] at h
    cases q : t.id == n with
    | true => rw [q] at h; cases h; exact ⟨t, rfl, rfl, h1⟩
    | false => rw [q] at h; exact has_find h2 h
theorem gphi {T : List Ent} {n : Nat} {c : Con} (h : GΦ (tab (entL T)) n = some c) : ∃ p, (entL T).lookup n = some p ∧ c = p.con := by
  obtain ⟨p, e1, e2⟩ := Option.map_eq_some_iff.mp h
  exact ⟨p, e1, e2.symm⟩
abbrev cfgOf (W : List (Nat × Str)) (N : List Str) (scope : Scope) (T : List Ent) (free : List Str) (io : Bool) : Cfg := ⟨N, scope, none, fnOf T, pnOf T, fun n => W.lookup n, free, if io then [0] else [], false, knOf T⟩
theorem env_of {W : Wd} {k : Nat} {T : List Ent} {free : List Str} {A : Around} (ty : Ty W.g W.K W.mg) (hf : ∀ x ∈ free, W.mg x = none) (hT : HasL W (k + 1) T) (r : Room (k + 1) A) : Env1 W.g (W.bf A) (GΦ (tab (entL T))) (fnOf T) (pnOf T) (fun n => W.cs.lookup n) (knOf T) free := by
  have both : ∀ f c x, GΦ (tab (entL T)) f = some c → fnOf T f = some x → ∀ X, Lk (W.bf A) X → Gl X x → CallOk W.g X x c ∧ CallOk0 W.g X x c := by
    intro f c x h1 h2 X lk gl
    obtain ⟨p, e1, rfl⟩ := gphi h1
    obtain ⟨t, e2, rfl, hh⟩ := has_find hT e1
    unfold fnOf at h2
    rw [e2] at h2
    unfold Has at hh
    have h2 : (match t.kd with
      | .fn => some t.x
      | _ => none) = some x := h2
    cases q : t.kd with
    | fn =>
      rw [q] at hh h2
      cases h2
      exact hh A r X lk gl
    | pr => rw [q] at h2; cases h2
    | eq => rw [q] at h2; cases h2
    | kw ns => rw [q] at h2; cases h2
    | ev => rw [q] at h2; cases h2
  refine ⟨ty, rfl, hf, r.mono (Nat.le_add_left 1 k), fun f c x h1 h2 X lk gl => (both f c x h1 h2 X lk gl).1, fun f c x h1 h2 X lk gl => (both f c x h1 h2 X lk gl).2, fun f c x ns h1 h2 X lk gl => ?_, fun f c x h1 h2 X lk gl => ?_, fun f c x h1 h2 hx X lk => ?_, fun f c h1 h2 X lk => ?_⟩
  · obtain ⟨p, e1, rfl⟩ := gphi h1
    obtain ⟨t, e2, rfl, hh⟩ := has_find hT e1
    unfold knOf at h2
    rw [e2] at h2
    unfold Has at hh
    have h2 : (match t.kd with
      | .kw ns => some (t.x, some ns)
      | .ev => some (t.x, none)
      | _ => none) = some (x, some ns) := h2
    cases q : t.kd with
    | kw m =>
      rw [q] at hh h2
      cases h2
      exact hh A r X lk gl
    | _ => rw [q] at h2; cases h2
  · obtain ⟨p, e1, rfl⟩ := gphi h1
    obtain ⟨t, e2, rfl, hh⟩ := has_find hT e1
    unfold knOf at h2
    rw [e2] at h2
    unfold Has at hh
    have h2 : (match t.kd with
      | .kw ns => some (t.x, some ns)
      | .ev => some (t.x, none)
      | _ => none) = some (x, none) := h2
    cases q : t.kd with
    | ev =>
      rw [q] at hh h2
      cases h2
      exact hh A r X lk gl
    | _ => rw [q] at h2; cases h2
  · obtain ⟨p, e1, rfl⟩ := gphi h1
    obtain ⟨t, e2, rfl, hh⟩ := has_find hT e1
    unfold pnOf at h2
    rw [e2] at h2
    unfold Has at hh
    have h2 : (match t.kd with
      | .fn => none
      | .pr => bif decide (t.x = ("__eq__" : Str)) then none else some t.x
      | .eq => some ("__eq__" : Str)
      | .kw _ => none
      | .ev => none) = some x := h2
    cases q : t.kd with
    | fn => rw [q] at h2; cases h2
    | pr =>
      rw [q] at hh h2
      cases z : decide (t.x = ("__eq__" : Str)) with
      | true => rw [z] at h2; cases h2
      | false =>
        rw [z] at h2
        cases h2
        exact hh A r X lk
    | eq => rw [q] at h2; cases h2; exact absurd rfl hx
    | kw ns => rw [q] at h2; cases h2
    | ev => rw [q] at h2; cases h2
  · obtain ⟨p, e1, rfl⟩ := gphi h1
    obtain ⟨t, e2, rfl, hh⟩ := has_find hT e1
    unfold pnOf at h2
    rw [e2] at h2
    unfold Has at hh
    have h2 : (match t.kd with
      | .fn => none
      | .pr => bif decide (t.x = ("__eq__" : Str)) then none else some t.x
      | .eq => some ("__eq__" : Str)
      | .kw _ => none
      | .ev => none) = some ("__eq__" : Str) := h2
    cases q : t.kd with
    | fn => rw [q] at h2; cases h2
    | pr =>
      rw [q] at h2
      cases z : decide (t.x = ("__eq__" : Str)) with
      | true => rw [z] at h2; cases h2
      | false =>
        rw [z] at h2
        have e : t.x = ("__eq__" : Str) := Option.some.inj h2
        rw [e] at z
        exact absurd rfl (of_decide_eq_false z)
    | eq =>
      rw [q] at hh
      exact hh A r X lk
    | kw ns => rw [q] at h2; cases h2
    | ev => rw [q] at h2; cases h2
/-- THE RULE for a def: its promise is what its tree computes -/
theorem fn_good {W : Wd} {k : Nat} {T : List Ent} {free : List Str} {io : Bool} {ret : RK} {N ps : List Str} {tree : Ss} {x qual : Str} {params : Arguments} {body : List Stmt} {scope : Scope} {f : Addr} {fd : FuncData}
    (ty : Ty W.g W.K W.mg) (hf : ∀ x ∈ free, W.mg x = none) (F : FunD W.K x qual params body scope [] [] f fd) (S : FnScope N ps scope) (hchk : chkB (cfgOf W.cs N scope T free io) tree body = true) (hl : ps.length ≤ N.length) (hT : HasL W (k + 1) T) :
    FnOk W.P W.w W.K W.mg W.base CX0 (k + 2) f fd ps (spC W.g (mkF (tab (entL T)) io ret N.length tree ps.length).con) := by
  have h := fn_ok (g := W.g) (P := W.P) (w := W.w) (mg := W.mg) (base := W.base) (Γ := GΦ (tab (entL T))) (con := mkC (tab (entL T)) io ret N.length tree ps.length) (c := cfgOf W.cs N scope T free io) (k := k) F S rfl rfl rfl rfl rfl hchk (fun i => i.2) hl (fun A r => env_of ty hf hT r) fun i hi => run_ok i hi
  exact h.imp fun vs H Q E q => sp_mk q
theorem cal_fn {W : Wd} {k : Nat} {x : Str} {ps : List Str} {p : PF} {fd : FuncData} {f : Addr} (F : FnOk W.P W.w W.K W.mg W.base CX0 k f fd ps (spC W.g p.con)) (hm : W.mg x = some (.ref f)) (hk : PySem.W.keepIn W.K (.ref f) = true) (hb : Binds W.K fd ps []) (hd : (x == ("__debug__" : Str)) = false) : Cal W k x p :=
  fun A r X lk hg => ⟨call_ok F r hm hk hb hd X lk hg, call_ok0 F r hm hk hb hd X lk hg⟩
/-- the same def, its arguments in another order -/
def pfK (π : List Nat) (n : Nat) (p : PF) : PF := ⟨false, p.ret, fun ds => guardO (decide (ds.length = n)) (p.f (permL π ds))⟩
end FT

set_option Elab.async false
set_option linter.all false
set_option maxRecDepth 100000
set_option autoImplicit false
set_option maxHeartbeats 2000000
namespace FT
open PySem PySem.Spec PyProof.Rows L2
/-! ### in_order: of a list, of a dict -/
theorem RepL.flatF {g : G} {F F' : Hp} : ∀ {ds : List D} {vs : List V}, (∀ d ∈ ds, d.flat = true) → RepL g F ds vs → RepL g F' ds vs
  | [], _, _, r => r
  | d :: ds, _, h, ⟨v, vr, e, q, r⟩ => ⟨v, vr, e, q.flat (h d List.mem_cons_self), RepL.flatF (fun x hx => h x (List.mem_cons_of_mem _ hx)) r⟩
def tr_ord : Ss := .cons (.ret (.bi .sorted (.cons (.lc [1] (.nm 1) (.val (.loc 0)) .no (.bi .str (.cons (.loc 1) .nil))) .nil))) .nil
/-- the keys, as texts -/
def keysD (kvs : List (Key × D)) : List D := kvs.map fun kv => kD kv.1
theorem RepK.keys {g : G} {F : Hp} : ∀ {ds : List (Key × D)} {vs : List (Key × V)} {i : Nat} {k : Key} {v : V}, RepK g F ds vs → vs[i]? = some (k, v) → (keysD ds)[i]? = some (kD k)
  | [], _, i, k, v, r, h => by cases (show _ = [] from r); cases h
  | (k', d) :: ds, _, 0, k, v, ⟨w, vr, e, q, r⟩, h => by subst e; cases h; rfl
  | (k', d) :: ds, _, i + 1, k, v, ⟨w, vr, e, q, r⟩, h => by
    subst e
    exact RepK.keys (ds := ds) (vs := vr) (i := i) r h
section
variable {g : G} {b : BF} {Γ : Nat → Option Con} {c : Cfg} {X : Cx}
end
end FT

set_option Elab.async false
set_option linter.all false
set_option maxRecDepth 100000
set_option autoImplicit false
set_option maxHeartbeats 4000000
namespace FT
open PySem PySem.Spec PyProof.Rows L2
/-! ### Table.__init__ -/
abbrev del2 (H : Hp) (x d : Addr) : Hp := del (del H x) d
structure B2 (g : G) (F : Hp) (ρ : List Sl) (σ : L2.St) (H : Hp) (x d : Addr) (ox od : HO) : Prop where
  hx : H x = some ox
  hd : H d = some od
  ne : d ≠ x
  S : SR g F ρ σ (del2 H x d)
section
variable {g : G} {ρ ρ' : List Sl} {σ σ' : L2.St} {F F' H H' : Hp} {x d : Addr} {ox od : HO}
theorem del2_x : del2 H x d x = none := by
  by_cases e : x = d
  · subst e; exact del_self
  · show del (del H x) d x = none
    rw [del_ne e]; exact del_self
theorem B2.sr (B : B2 g F ρ σ H x d ox od) : SR g F ρ σ H := B.S.undel.undel
theorem B2.fx (B : B2 g F ρ σ H x d ox od) : F x = none := B.S.sub.free del2_x
theorem B2.fd (B : B2 g F ρ σ H x d ox od) : F d = none := B.S.sub.free del_self
theorem B2.nx (B : B2 g F ρ σ H x d ox od) : ¬ OwnA ρ σ x := fun z => B.S.own_some x z del2_x
theorem B2.nd (B : B2 g F ρ σ H x d ox od) : ¬ OwnA ρ σ d := fun z => B.S.own_some d z del_self
theorem B2.step (B : B2 g F ρ σ H x d ox od) (T : Stp ρ σ F H ρ' σ' F' H') (S' : SR g F' ρ' σ' H') : B2 g F' ρ' σ' H' x d ox od := by
  obtain ⟨h1, h2, h3⟩ := T.hid B.hx B.fx B.nx
  obtain ⟨k1, k2, k3⟩ := T.hid B.hd B.fd B.nd
  exact ⟨h1, k1, B.ne, (S'.del h2 h3).del k2 k3⟩
/-- no slot stands alone -/
def noOw (ρ : List Sl) : Prop := ∀ (i : Nat) (d : D), ρ[i]? ≠ some (.ow d)
end
/-- what an __init__ leaves: the object at x stands, nothing else that was known has changed -/
structure IStp (F H F' H' : Hp) (x : Addr) : Prop where
  sub : Same F F'
  sub2 : Same F' H'
  keep : ∀ (b : Addr) (o : HO), H b = some o → b ≠ x → H' b = some o
  newF : ∀ (b : Addr), F' b ≠ none → F b ≠ none ∨ H b = none ∨ b = x
  grow : ∀ (b : Addr), H' b = none → H b = none
def spInit (g : G) (n : Nat) (fT : List D → Option (D × D)) : Sp := fun vs H Q _ => ∃ F x dx ds vr T, vs = .ref x :: vr ∧ H x = some (.ins (g.cl n) dx []) ∧ F x = none ∧ Same F H ∧ RepL g F ds vr ∧ fT ds = some (T, .non) ∧ ∀ F' H', IStp F H F' H' x → Rep g F' T (.ref x) → Q .non H'
end FT

set_option Elab.async false
set_option linter.all false
set_option maxRecDepth 100000
set_option autoImplicit false
set_option maxHeartbeats 4000000
namespace FT
open PySem PySem.Spec PyProof.Rows L2
section
variable {g : G} {b : BF} {Γ : Nat → Option Con} {c : Cfg} {X : Cx}
def t0 (n : Nat) : S := .ifs (.not (.call n (.cons (.loc 1) (.cons (.loc 2) (.cons (.loc 3) .nil))))) (.cons .never .nil) .nil
def eOrd (n i : Nat) : E := .bi .tuple (.cons (.call n (.cons (.loc i) .nil)) .nil)
def eRow : E := .dc [6, 7] (.tp [6, 7]) (.zip (.loc 2) (.loc 5)) (.loc 6) (.loc 7)
def tabChk (c : Cfg) (body : List Stmt) : Bool := match body with
  | [s0, .Assign [.Attribute (.Name n1 _) f1 _] v1 _, .Assign [.Attribute (.Name n2 _) f2 _] v2 _, .Assign [.Attribute (.Name n3 _) f3 _] v3 _, .For tg iter [.Assign [.Subscript (.Attribute (.Name n4 _) f4 _) kx _] v5 _] [] _] =>
    chkS c (t0 0) s0 && (c.vis n1 0 && decide (f1 = "sorts") && chkE c (eOrd 1 1) v1 && notComp v1) && (c.vis n2 0 && decide (f2 = "traits") && chkE c (eOrd 1 2) v2 && notComp v2) && (c.vis n3 0 && decide (f3 = "signs") && chkE c .dic0 v3 && notComp v3) &&
      (chkTg c (.tp [4, 5]) tg && chkI c (.zip (.loc 1) (.loc 3)) iter && itTg (.zip (.loc 1) (.loc 3)) tg && c.vis n4 0 && decide (f4 = "signs") && chkE c (.loc 4) kx && notSlice kx && chkE c eRow v5)
  | _ => false
abbrev rRow (ks : List D) (s : Str) (s0 s1 s3 s4 : Sl) : List Sl := [s0, s1, .sh (.lst ks), s3, s4, .sh (.str s), .un, .un]
end
end FT

set_option Elab.async false
set_option linter.all false
set_option maxRecDepth 100000
set_option autoImplicit false
set_option maxHeartbeats 4000000
namespace FT
open PySem PySem.Spec PyProof.Rows L2
abbrev tabN : List Str := ["self", "kinds", "marks", "rows", "kind", "row", "mark", "one"]
abbrev ρT (ks ms rs : List D) (s4 s5 : Sl) : List Sl := [.un, .sh (.lst ks), .sh (.lst ms), .sh (.lst rs), s4, s5, .un, .un]
section
variable {g : G} {b : BF} {c : Cfg} {X : Cx}
end
end FT

set_option Elab.async false
set_option linter.all false
set_option maxRecDepth 100000
set_option autoImplicit false
set_option maxHeartbeats 4000000
namespace FT
open PySem PySem.Spec PyProof.Rows L2
end FT

set_option Elab.async false
set_option linter.all false
set_option maxRecDepth 100000
set_option autoImplicit false
set_option maxHeartbeats 4000000
namespace FT
open PySem PySem.Spec PyProof.Rows L2
/-! ### Tree.__init__ -/
abbrev treeN : List Str := ["self", "marks", "kinds", "mark", "place", "kind"]
abbrev ρR (ms ks : List D) : List Sl := [.un, .sh (.lst ms), .sh (.lst ks), .un, .un, .un]
def t0r (n : Nat) : S := .ifs (.not (.call n (.cons (.loc 1) (.cons (.loc 2) .nil)))) (.cons .never .nil) .nil
def eOver : E := .dc [3, 4] (.tp [3, 4]) (.val (.loc 1)) (.loc 3) (.loc 4)
def eSpots : E := .dc [5, 4] (.tp [5, 4]) (.val (.loc 2)) (.loc 5) (.loc 4)
/-- tuple(in_order(self.f)) -/
def ordChk (c : Cfg) (n : Nat) (f : Str) (v : Expr) : Bool := match v with
  | .Call (.Name y _) [.Call (.Name y2 _) [.Attribute (.Name nm _) f2 _] [] _] [] _ => decide (y = "tuple") && c.bt y && decide (c.fn n = some y2) && c.gl y2 && c.vis nm 0 && decide (f2 = f) && isFld f
  | _ => false
def treeChk (c : Cfg) (body : List Stmt) : Bool := match body with
  | [s0, .Assign [.Attribute (.Name n1 _) f1 _] v1 _, .Assign [.Attribute (.Name n2 _) f2 _] v2 _, .Assign [.Attribute (.Name n3 _) f3 _] v3 _, .Assign [.Attribute (.Name n4 _) f4 _] v4 _] =>
    chkS c (t0r 0) s0 && (c.vis n1 0 && decide (f1 = "over") && chkE c eOver v1) && (c.vis n2 0 && decide (f2 = "spots") && chkE c eSpots v2) && (c.vis n3 0 && decide (f3 = "traits") && ordChk c 1 "over" v3) && (c.vis n4 0 && decide (f4 = "sorts") && ordChk c 1 "spots" v4)
  | _ => false
theorem sws_attr {o : Expr} {f : Str} {p : Pos} {v : Expr} {l : Nat} {env : Env} : swapsWith v (some (.Attribute o f p)) l env = pure false := by
  unfold swapsWith
  cases v <;> rfl
section
variable {g : G} {b : BF} {c : Cfg} {X : Cx}
end
end FT

set_option Elab.async false
set_option linter.all false
set_option maxRecDepth 100000
set_option autoImplicit false
set_option maxHeartbeats 4000000
namespace FT
open PySem PySem.Spec PyProof.Rows L2
/-- a property of one class alone -/
def onlyC (n : Nat) (p : PF) : PF := ⟨p.io, p.ret, fun ds => match ds with
  | [.ins m fs] => guardO (decide (m = n)) (p.f [.ins m fs])
  | _ => none⟩
end FT

set_option Elab.async false
set_option linter.all false
set_option maxRecDepth 100000
set_option autoImplicit false
set_option maxHeartbeats 4000000
namespace FT
open PySem PySem.Spec PyProof.Rows L2
/-! ### running: loops -/
/-! ### what operators give, one by one -/
theorem cEq (a b : D) : cmpD .Eq a b = bif okD a && okD b then some (eqB a b) else dicEq a b := by cases a <;> rfl
theorem cNe (a b : D) : cmpD .NotEq a b = bif okD a && okD b then some (!eqB a b) else none := by cases a <;> rfl
theorem cLt (i j : Int) : cmpD .Lt (.int i) (.int j) = some (decide (i < j)) := rfl
theorem cLe (i j : Int) : cmpD .LtE (.int i) (.int j) = some (decide (i ≤ j)) := rfl
theorem cGt (i j : Int) : cmpD .Gt (.int i) (.int j) = some (decide (j < i)) := rfl
theorem cGe (i j : Int) : cmpD .GtE (.int i) (.int j) = some (decide (j ≤ i)) := rfl
theorem cIs (a : D) : cmpD .Is a .non = some (isNon a) := by cases a <;> rfl
theorem cIsN (a : D) : cmpD .IsNot a .non = some (!isNon a) := by cases a <;> rfl
theorem bAdd (i j : Int) : binD .Add (.int i) (.int j) = some (.int (i + j)) := rfl
theorem bSub (i j : Int) : binD .Sub (.int i) (.int j) = some (.int (i - j)) := rfl
theorem bMod (i j : Int) : binD .Mod (.int i) (.int j) = bif decide (j ≠ 0) then some (.int (i.fmod j)) else none := rfl
theorem bDiv (i j : Int) : binD .FloorDiv (.int i) (.int j) = bif decide (j ≠ 0) && decide (j.natAbs < 1073741824) then some (.int (i.fdiv j)) else none := rfl
theorem lenL (l : List D) : biD .len [.lst l] = some (.sh (.int (l.length : Int))) := rfl
theorem lenS (s : Str) : biD .len [.str s] = some (.sh (.int (s.length : Int))) := rfl
theorem lenK (l : List (Key × D)) : biD .len [.dic l] = some (.sh (.int (l.length : Int))) := rfl
theorem lenR (l : List Int) : biD .len [.scr l] = some (.sh (.int (l.length : Int))) := rfl
/-! ### running: statement by statement -/
section
variable {Φ : Nat → Option PF}
end
end FT

set_option Elab.async false
set_option linter.all false
set_option maxRecDepth 100000
set_option autoImplicit false
set_option maxHeartbeats 4000000
namespace FT
open PySem PySem.Spec PyProof.Rows L2
/-! ### running head first: what comes later is kept out of sight as an instance -/
class Kt (α β : Type) where
  f : α → Option β
class Th (β : Type) where
  v : Option β
def bnI {α β : Type} (o : Option α) [K : Kt α β] : Option β := o.bind K.f
def ifI {β : Type} (c : Bool) [A : Th β] [B : Th β] : Option β := bif c then A.v else B.v
def Ok {β : Type} (o : Option β) (P : β → Prop) : Prop := ∃ r, o = some r ∧ P r
theorem bcg {α β : Type} {o : Option α} {f g : α → Option β} (h : ∀ x, f x = g x) : o.bind f = o.bind g := congrArg _ (funext h)
theorem Ok.some {β : Type} {r : β} {P : β → Prop} (h : P r) : Ok (some r) P := ⟨r, rfl, h⟩
theorem Ok.eq {β : Type} {o : Option β} {r : β} (h : Ok o (· = r)) : o = Option.some r := by
  obtain ⟨x, e, h⟩ := h; rw [e, h]
theorem Ok.of {β : Type} {o : Option β} {r : β} (h : o = Option.some r) : Ok o (· = r) := ⟨r, h, rfl⟩
theorem Ok.bn {α β : Type} {o : Option α} {K : Kt α β} {Q : α → Prop} {P : β → Prop} (h : Ok o Q) (k : ∀ r, Q r → Ok (K.f r) P) : Ok (@bnI _ _ o K) P := by
  obtain ⟨r, e, q⟩ := h
  rw [e]; exact k r q
theorem Ok.imp {α : Type} {o : Option α} {P Q : α → Prop} (h : Ok o P) (k : ∀ r, P r → Q r) : Ok o Q := by
  obtain ⟨r, e, q⟩ := h; exact ⟨r, e, k r q⟩
theorem bn_some {α β : Type} {x : α} {K : Kt α β} : @bnI _ _ (some x) K = K.f x := rfl
theorem if_t {β : Type} {A B : Th β} : @ifI _ true A B = A.v := rfl
theorem if_f {β : Type} {A B : Th β} : @ifI _ false A B = B.v := rfl
def bool_ (d : D) : Option Bool := match d with
  | .bl b => some b
  | _ => none
theorem bool_bl (b : Bool) : bool_ (.bl b) = some b := rfl
def int_ (d : D) : Option Int := match d with
  | .int b => some b
  | _ => none
theorem int_int (b : Int) : int_ (.int b) = some b := rfl
def lst_ (d : D) : Option (List D) := match d with
  | .lst b => some b
  | _ => none
theorem lst_lst (b : List D) : lst_ (.lst b) = some b := rfl
def tup_ (n : Nat) (d : D) : Option (List D) := match d with
  | .tup b => bif decide (b.length = n) then some b else none
  | .lst b => bif decide (b.length = n) then some b else none
  | _ => none
def insF (f : Str) (d : D) : Option D := match d with
  | .ins _ fs => fs.lookup f
  | .exc _ d => guardO (decide (f = "value")) (some d)
  | _ => none
def owAt (i : Nat) (ρ : List Sl) : Option D := match ρ[i]? with
  | some (.ow d) => some d
  | _ => none
def loAt (i : Nat) (ρ : List Sl) : Option (D × Option Nat) := match ρ[i]? with
  | some (.sh d) => some (d, none)
  | some (.ow d) => some (d, some i)
  | _ => none
def grd (b : Bool) : Option Unit := bif b then some () else none
theorem grd_t : grd true = some () := rfl
section
variable {Φ : Nat → Option PF} {β : Type} {ρ : List Sl}

theorem asB_bn (r : RE) {K : Kt (Bool × List Sl) β} : @bnI _ _ (asB r) K = (@bnI _ _ (r) ⟨fun r => (@bnI _ _ (bool_ r.1) ⟨fun b => K.f (b, r.2.2)⟩)⟩) := by
  unfold bnI asB
  cases r with
  | none => rfl
  | some r => obtain ⟨d, s, ρ⟩ := r; cases d <;> rfl

theorem e_kInt (i : Int) {K : Kt (D × Option Nat × List Sl) β} : @bnI _ _ (xE Φ (.kInt i) ρ) K = K.f (.int i, none, ρ) := by
  unfold bnI; rw [xE]; rfl
theorem e_kStr (i : Str) {K : Kt (D × Option Nat × List Sl) β} : @bnI _ _ (xE Φ (.kStr i) ρ) K = K.f (.str i, none, ρ) := by
  unfold bnI; rw [xE]; rfl
theorem e_kBl (i : Bool) {K : Kt (D × Option Nat × List Sl) β} : @bnI _ _ (xE Φ (.kBl i) ρ) K = K.f (.bl i, none, ρ) := by
  unfold bnI; rw [xE]; rfl
theorem e_kNon  {K : Kt (D × Option Nat × List Sl) β} : @bnI _ _ (xE Φ .kNon ρ) K = K.f (.non, none, ρ) := by
  unfold bnI; rw [xE]; rfl
theorem e_loc (i : Nat) {K : Kt (D × Option Nat × List Sl) β} : @bnI _ _ (xE Φ (.loc i) ρ) K = (@bnI _ _ (loAt i ρ) ⟨fun r => K.f (r.1, r.2, ρ)⟩) := by
  unfold bnI; rw [xE]; unfold loAt; cases ρ[i]? with
  | none => rfl
  | some x => cases x <;> rfl
theorem e_bin (o : Operator) (a b : E) {K : Kt (D × Option Nat × List Sl) β} : @bnI _ _ (xE Φ (.bin o a b) ρ) K = (@bnI _ _ (xE Φ a ρ) ⟨fun r1 => (@bnI _ _ (xE Φ b r1.2.2) ⟨fun r2 => (@bnI _ _ (cur r1.2.1 r1.1 r2.2.2) ⟨fun d1 => (@bnI _ _ (cur r2.2.1 r2.1 r2.2.2) ⟨fun d2 => (@bnI _ _ (binD o d1 d2) ⟨fun d => K.f (d, none, r2.2.2)⟩)⟩)⟩)⟩)⟩) := by
  unfold bnI; rw [xE]; simp only [Option.bind_assoc, Option.bind_map, Option.map_bind, Option.bind_some, Function.comp_def]
theorem e_neg (a : E) {K : Kt (D × Option Nat × List Sl) β} : @bnI _ _ (xE Φ (.neg a) ρ) K = (@bnI _ _ (xE Φ a ρ) ⟨fun r1 => (@bnI _ _ (int_ r1.1) ⟨fun i => K.f (.int (-i), none, r1.2.2)⟩)⟩) := by
  unfold bnI; rw [xE]; rw [Option.bind_assoc]; congr; funext r; obtain ⟨d, s, ρ1⟩ := r; cases d <;> rfl
theorem e_cmp (o : CmpOp) (a b : E) {K : Kt (D × Option Nat × List Sl) β} : @bnI _ _ (xE Φ (.cmp o a b) ρ) K = (@bnI _ _ (xE Φ a ρ) ⟨fun r1 => (@bnI _ _ (xE Φ b r1.2.2) ⟨fun r2 => (@bnI _ _ (cur r1.2.1 r1.1 r2.2.2) ⟨fun d1 => (@bnI _ _ (cur r2.2.1 r2.1 r2.2.2) ⟨fun d2 => (@bnI _ _ (cmpD o d1 d2) ⟨fun c => K.f (.bl c, none, r2.2.2)⟩)⟩)⟩)⟩)⟩) := by
  unfold bnI; rw [xE]; simp only [Option.bind_assoc, Option.bind_map, Option.map_bind, Option.bind_some, Function.comp_def]
theorem e_cmp2 (o p : CmpOp) (a b c : E) {K : Kt (D × Option Nat × List Sl) β} : @bnI _ _ (xE Φ (.cmp2 o p a b c) ρ) K = (@bnI _ _ (xE Φ a ρ) ⟨fun r1 => (@bnI _ _ (xE Φ b r1.2.2) ⟨fun r2 => (@bnI _ _ (cur r1.2.1 r1.1 r2.2.2) ⟨fun d1 => (@bnI _ _ (cur r2.2.1 r2.1 r2.2.2) ⟨fun d2 => (@bnI _ _ (cmpD o d1 d2) ⟨fun k =>
    (@ifI _ k ⟨(@bnI _ _ (xE Φ c r2.2.2) ⟨fun r3 => (@bnI _ _ (cur r2.2.1 d2 r3.2.2) ⟨fun d2 => (@bnI _ _ (cur r3.2.1 r3.1 r3.2.2) ⟨fun d3 => (@bnI _ _ (cmpD p d2 d3) ⟨fun k => K.f (.bl k, none, r3.2.2)⟩)⟩)⟩)⟩)⟩ ⟨K.f (.bl false, none, r2.2.2)⟩)⟩)⟩)⟩)⟩)⟩) := by
  unfold bnI; rw [xE]; simp only [Option.bind_assoc, Option.bind_map, Function.comp_def]; refine bcg fun r1 => bcg fun r2 => bcg fun d1 => bcg fun d2 => bcg fun k => ?_; cases k <;> simp only [cond_true, cond_false, ifI, Option.bind_assoc, Option.bind_map, Option.bind_some, Function.comp_def]
theorem e_and (a b : E) {K : Kt (D × Option Nat × List Sl) β} : @bnI _ _ (xE Φ (.and a b) ρ) K = (@bnI _ _ (xE Φ a ρ) ⟨fun r => (@bnI _ _ (bool_ r.1) ⟨fun c => (@ifI _ c ⟨@bnI _ _ (xE Φ b r.2.2) K⟩ ⟨K.f (.bl false, none, r.2.2)⟩)⟩)⟩) := by
  unfold bnI; rw [xE]
  show ((asB (xE Φ a ρ)).bind _).bind _ = _
  rw [Option.bind_assoc]
  refine (asB_bn (xE Φ a ρ) (K := ⟨_⟩)).trans ?_
  unfold bnI
  refine bcg fun r => bcg fun c => ?_; cases c <;> rfl
theorem e_or (a b : E) {K : Kt (D × Option Nat × List Sl) β} : @bnI _ _ (xE Φ (.or a b) ρ) K = (@bnI _ _ (xE Φ a ρ) ⟨fun r => (@bnI _ _ (bool_ r.1) ⟨fun c => (@ifI _ c ⟨K.f (.bl true, none, r.2.2)⟩ ⟨@bnI _ _ (xE Φ b r.2.2) K⟩)⟩)⟩) := by
  unfold bnI; rw [xE]
  show ((asB (xE Φ a ρ)).bind _).bind _ = _
  rw [Option.bind_assoc]
  refine (asB_bn (xE Φ a ρ) (K := ⟨_⟩)).trans ?_
  unfold bnI
  refine bcg fun r => bcg fun c => ?_; cases c <;> rfl
theorem e_not (a : E) {K : Kt (D × Option Nat × List Sl) β} : @bnI _ _ (xE Φ (.not a) ρ) K = (@bnI _ _ (xE Φ a ρ) ⟨fun r => (@bnI _ _ (bool_ r.1) ⟨fun c => K.f (.bl (!c), none, r.2.2)⟩)⟩) := by
  unfold bnI; rw [xE]
  show ((asB (xE Φ a ρ)).map _).bind _ = _
  rw [Option.bind_map]
  exact asB_bn (xE Φ a ρ) (K := ⟨_⟩)
theorem e_ife (c a b : E) {K : Kt (D × Option Nat × List Sl) β} : @bnI _ _ (xE Φ (.ife c a b) ρ) K = (@bnI _ _ (xE Φ c ρ) ⟨fun r => (@bnI _ _ (bool_ r.1) ⟨fun c => (@ifI _ c ⟨@bnI _ _ (xE Φ a r.2.2) K⟩ ⟨@bnI _ _ (xE Φ b r.2.2) K⟩)⟩)⟩) := by
  unfold bnI; rw [xE]
  show ((asB (xE Φ c ρ)).bind _).bind _ = _
  rw [Option.bind_assoc]
  refine (asB_bn (xE Φ c ρ) (K := ⟨_⟩)).trans ?_
  unfold bnI
  refine bcg fun r => bcg fun c => ?_; cases c <;> rfl
theorem e_sub (a i : E) {K : Kt (D × Option Nat × List Sl) β} : @bnI _ _ (xE Φ (.sub a i) ρ) K = (@bnI _ _ (xE Φ a ρ) ⟨fun r1 => (@bnI _ _ (xE Φ i r1.2.2) ⟨fun r2 => (@bnI _ _ (cur r1.2.1 r1.1 r2.2.2) ⟨fun d1 => (@bnI _ _ (cur r2.2.1 r2.1 r2.2.2) ⟨fun d2 => (@bnI _ _ (ixD d1 d2) ⟨fun d => K.f (d, none, r2.2.2)⟩)⟩)⟩)⟩)⟩) := by
  unfold bnI; rw [xE]; simp only [Option.bind_assoc, Option.bind_map, Option.map_bind, Option.bind_some, Function.comp_def]
theorem e_slc (a : E) (lo hi : O) {K : Kt (D × Option Nat × List Sl) β} : @bnI _ _ (xE Φ (.slc a lo hi) ρ) K = (@bnI _ _ (xE Φ a ρ) ⟨fun r1 => (@bnI _ _ (xO Φ lo r1.2.2) ⟨fun l => (@bnI _ _ (partD l.1) ⟨fun lv => (@bnI _ _ (xO Φ hi l.2) ⟨fun h => (@bnI _ _ (partD h.1) ⟨fun hv => (@bnI _ _ (cur r1.2.1 r1.1 h.2) ⟨fun d1 => (@bnI _ _ (slD d1 lv hv) ⟨fun d => K.f (d, none, h.2)⟩)⟩)⟩)⟩)⟩)⟩)⟩) := by
  unfold bnI; rw [xE]; simp only [Option.bind_assoc, Option.bind_map, Option.map_bind, Option.bind_some, Function.comp_def]
theorem e_rev (a : E) {K : Kt (D × Option Nat × List Sl) β} : @bnI _ _ (xE Φ (.rev a) ρ) K = (@bnI _ _ (xE Φ a ρ) ⟨fun r1 => (@bnI _ _ (cur r1.2.1 r1.1 r1.2.2) ⟨fun d1 => (@bnI _ _ (lst_ d1) ⟨fun l => K.f (.lst l.reverse, none, r1.2.2)⟩)⟩)⟩) := by
  unfold bnI; rw [xE]; simp only [Option.bind_assoc]; refine bcg fun r => bcg fun d => ?_; cases d <;> rfl
theorem e_tup (es : Es) {K : Kt (D × Option Nat × List Sl) β} : @bnI _ _ (xE Φ (.tup es) ρ) K = (@bnI _ _ (xA Φ es ρ) ⟨fun r => (@bnI _ _ (curs r.1 r.2) ⟨fun ds => K.f (.tup ds, none, frzs r.1 r.2)⟩)⟩) := by
  unfold bnI; rw [xE]; simp only [Option.bind_assoc, Option.bind_map, Option.map_bind, Option.bind_some, Function.comp_def]
theorem e_lst (es : Es) {K : Kt (D × Option Nat × List Sl) β} : @bnI _ _ (xE Φ (.lst es) ρ) K = (@bnI _ _ (xA Φ es ρ) ⟨fun r => (@bnI _ _ (curs r.1 r.2) ⟨fun ds => K.f (.lst ds, none, frzs r.1 r.2)⟩)⟩) := by
  unfold bnI; rw [xE]; simp only [Option.bind_assoc, Option.bind_map, Option.map_bind, Option.bind_some, Function.comp_def]
theorem e_dic0  {K : Kt (D × Option Nat × List Sl) β} : @bnI _ _ (xE Φ .dic0 ρ) K = K.f (.dic [], none, ρ) := by
  unfold bnI; rw [xE]; rfl
theorem e_dic1 (k v : E) {K : Kt (D × Option Nat × List Sl) β} : @bnI _ _ (xE Φ (.dic1 k v) ρ) K = (@bnI _ _ (xE Φ k ρ) ⟨fun r1 => (@bnI _ _ (xE Φ v r1.2.2) ⟨fun r2 => (@bnI _ _ (keyD r1.1) ⟨fun k => (@bnI _ _ (cur r2.2.1 r2.1 r2.2.2) ⟨fun d2 => K.f (.dic [(k, d2)], none, frz r2.2.1 r2.2.2)⟩)⟩)⟩)⟩) := by
  unfold bnI; rw [xE]; simp only [Option.bind_assoc, Option.bind_map, Option.map_bind, Option.bind_some, Function.comp_def]
theorem e_call (f : Nat) (es : Es) {K : Kt (D × Option Nat × List Sl) β} : @bnI _ _ (xE Φ (.call f es) ρ) K = (@bnI _ _ (Φ f) ⟨fun p => (@bnI _ _ (xA Φ es ρ) ⟨fun r => (@bnI _ _ (xCon p r.1 r.2) ⟨fun s => K.f (s.1.d, none, s.2)⟩)⟩)⟩) := by
  unfold bnI; rw [xE]; simp only [Option.bind_assoc, Option.bind_map, Option.map_bind, Option.bind_some, Function.comp_def]
theorem e_bi (b : BI) (es : Es) {K : Kt (D × Option Nat × List Sl) β} : @bnI _ _ (xE Φ (.bi b es) ρ) K = (@bnI _ _ (xA Φ es ρ) ⟨fun r => (@bnI _ _ (curs r.1 r.2) ⟨fun ds => (@bnI _ _ (biD b ds) ⟨fun s => K.f (s.d, none, r.2)⟩)⟩)⟩) := by
  unfold bnI; rw [xE]; simp only [Option.bind_assoc, Option.bind_map, Option.map_bind, Option.bind_some, Function.comp_def]
theorem e_me (m : ME) (a : E) (es : Es) {K : Kt (D × Option Nat × List Sl) β} : @bnI _ _ (xE Φ (.me m a es) ρ) K = (@bnI _ _ (xE Φ a ρ) ⟨fun r1 => (@bnI _ _ (cur r1.2.1 r1.1 r1.2.2) ⟨fun d0 => (@bnI _ _ (grd (meTy m d0)) ⟨fun _ => (@bnI _ _ (xA Φ es r1.2.2) ⟨fun r => (@bnI _ _ (cur r1.2.1 r1.1 r.2) ⟨fun d1 => (@bnI _ _ (curs r.1 r.2) ⟨fun ds => (@bnI _ _ (meD m d1 ds) ⟨fun d => K.f (d, none, r.2)⟩)⟩)⟩)⟩)⟩)⟩)⟩) := by
  unfold bnI; rw [xE]; simp only [Option.bind_assoc]
  refine bcg fun r1 => bcg fun d0 => ?_
  unfold guardO grd
  cases meTy m d0 with
  | false => rfl
  | true => simp only [cond_true, Option.bind_assoc, Option.bind_map, Option.bind_some, Function.comp_def]
theorem e_mt (m : MT) (i : Nat) (es : Es) {K : Kt (D × Option Nat × List Sl) β} : @bnI _ _ (xE Φ (.mt m i es) ρ) K = (@bnI _ _ (owAt i ρ) ⟨fun d0 => (@bnI _ _ (grd (mtTy m d0)) ⟨fun _ => (@bnI _ _ (xA Φ es ρ) ⟨fun r => (@bnI _ _ (curs r.1 r.2) ⟨fun ds => (@bnI _ _ (owAt i (frzs r.1 r.2)) ⟨fun d => (@bnI _ _ (mtD m d ds) ⟨fun x => K.f (x.1, none, (frzs r.1 r.2).set i (.ow x.2))⟩)⟩)⟩)⟩)⟩)⟩) := by
  unfold bnI; rw [xE]; unfold owAt
  cases ρ[i]? with
  | none => rfl
  | some y => ?_
  cases y <;> first | rfl | skip
  rename_i d0
  simp only [Option.bind_some]
  unfold guardO grd
  cases mtTy m d0 with
  | false => rfl
  | true =>
      simp only [cond_true, Option.bind_assoc, Option.bind_some]
      refine bcg fun r => bcg fun ds => ?_
      cases (frzs r.1 r.2)[i]? with
      | none => rfl
      | some z => cases z <;> first | rfl | simp only [Option.bind_map, Option.bind_some, Function.comp_def]
theorem e_fld (a : E) (f : Str) {K : Kt (D × Option Nat × List Sl) β} : @bnI _ _ (xE Φ (.fld a f) ρ) K = (@bnI _ _ (xE Φ a ρ) ⟨fun r1 => (@bnI _ _ (insF f r1.1) ⟨fun d => K.f (d, none, r1.2.2)⟩)⟩) := by
  unfold bnI; rw [xE]; rw [Option.bind_assoc]; refine bcg fun r => ?_; obtain ⟨d, s, ρ1⟩ := r; cases d <;> first | rfl | (simp only [insF, Option.bind_map, Function.comp_def]; done) | (simp only [insF]; cases decide (f = ("value" : Str)) <;> rfl)
theorem e_prp (a : E) (f : Nat) {K : Kt (D × Option Nat × List Sl) β} : @bnI _ _ (xE Φ (.prp a f) ρ) K = (@bnI _ _ (Φ f) ⟨fun p => (@bnI _ _ (xE Φ a ρ) ⟨fun r1 => (@bnI _ _ (xCon p [(r1.1, r1.2.1)] r1.2.2) ⟨fun s => K.f (s.1.d, none, s.2)⟩)⟩)⟩) := by
  unfold bnI; rw [xE]; simp only [Option.bind_assoc, Option.bind_map, Option.map_bind, Option.bind_some, Function.comp_def]
theorem e_eqT (n : Bool) (f : Nat) (a b : E) {K : Kt (D × Option Nat × List Sl) β} : @bnI _ _ (xE Φ (.eqT n f a b) ρ) K = (@bnI _ _ (Φ f) ⟨fun p => (@bnI _ _ (xE Φ a ρ) ⟨fun r1 => (@bnI _ _ (xE Φ b r1.2.2) ⟨fun r2 => (@bnI _ _ (xCon p [(r1.1, r1.2.1), (r2.1, r2.2.1)] r2.2.2) ⟨fun s => (@bnI _ _ (bool_ s.1.d) ⟨fun k => K.f (.bl (n != k), none, s.2)⟩)⟩)⟩)⟩)⟩) := by
  unfold bnI; rw [xE]; simp only [Option.bind_assoc]
  refine bcg fun p => bcg fun r1 => bcg fun r2 => bcg fun s => ?_
  cases s.1.d <;> rfl
theorem e_isi (a : E) (t : TyN) {K : Kt (D × Option Nat × List Sl) β} : @bnI _ _ (xE Φ (.isi a t) ρ) K = (@bnI _ _ (xE Φ a ρ) ⟨fun r1 => (@bnI _ _ (cur r1.2.1 r1.1 r1.2.2) ⟨fun d => (@bnI _ _ (isiD d t) ⟨fun k => K.f (.bl k, none, r1.2.2)⟩)⟩)⟩) := by
  unfold bnI; rw [xE]; simp only [Option.bind_assoc, Option.bind_map, Option.map_bind, Option.bind_some, Function.comp_def]
def lcSt (Φ : Nat → Option PF) (own : List Nat) (t : Tg) (c : O) (e : E) (s : Option Nat) (ρ0 : List Sl) (acc : List D) (x : D) (ρ2 : List Sl) : Option (List D × List Sl) := guardO (stillB s ρ0 ρ2) ((xTg t x (wipeS ρ2 own)).bind fun ρ3 => (xC Φ c ρ3).bind fun b =>
      bif b.1 then (xE Φ e b.2).bind fun v => (cur v.2.1 v.1 v.2.2).map fun d => (acc ++ [d], back own ρ2 (frz v.2.1 v.2.2)) else some (acc, back own ρ2 b.2))
def lcIn (Φ : Nat → Option PF) (own2 : List Nat) (t2 : Tg) (c2 : O) (e : E) (s : Option Nat) (ρ0 : List Sl) (acc : List D) (x : D) (ρ6 : List Sl) : Option (List D × List Sl) := guardO (stillB s ρ0 ρ6) ((xTg t2 x (wipeS ρ6 own2)).bind fun ρ7 => (xC Φ c2 ρ7).bind fun b2 =>
        bif b2.1 then (xE Φ e b2.2).bind fun v => guardO (decide (acc.length < 1000000)) ((cur v.2.1 v.1 v.2.2).map fun d => (acc ++ [d], back own2 ρ6 (frz v.2.1 v.2.2))) else some (acc, back own2 ρ6 b2.2))
def lcOut (Φ : Nat → Option PF) (own own2 : List Nat) (t : Tg) (c : O) (t2 : Tg) (it2 : It) (c2 : O) (e : E) (s : Option Nat) (ρ0 : List Sl) (acc : List D) (x : D) (ρ2 : List Sl) : Option (List D × List Sl) := guardO (stillB s ρ0 ρ2) ((xTg t x (wipeS ρ2 own)).bind fun ρ3 => (xC Φ c ρ3).bind fun b =>
      bif b.1 then (xI Φ it2 b.2).bind fun r2 => (xCol (lcIn Φ own2 t2 c2 e r2.2.1 r2.2.2) r2.1 acc r2.2.2).bind fun z => guardO (stillB r2.2.1 r2.2.2 z.2) (some (z.1, back own ρ2 z.2))
      else some (acc, back own ρ2 b.2))
def dcSt (Φ : Nat → Option PF) (own : List Nat) (t : Tg) (k v : E) (s : Option Nat) (ρ0 : List Sl) (acc : List (Key × D)) (x : D) (ρ2 : List Sl) : Option (List (Key × D) × List Sl) := guardO (stillB s ρ0 ρ2) ((xTg t x (wipeS ρ2 own)).bind fun ρ3 => (xE Φ k ρ3).bind fun r1 => (xE Φ v r1.2.2).bind fun r2 => (keyD r1.1).bind fun kk =>
      (cur r2.2.1 r2.1 r2.2.2).map fun d => (putD acc kk d, back own ρ2 (frz r2.2.1 r2.2.2)))
theorem bn_guard {α : Type} (b : Bool) (x : Option α) {K : Kt α β} : @bnI _ _ (guardO b x) K = (@bnI _ _ (grd b) ⟨fun _ => @bnI _ _ x K⟩) := by cases b <;> rfl
theorem bn_bind {α γ : Type} (x : Option α) (f : α → Option γ) {K : Kt γ β} : @bnI _ _ (x.bind f) K = (@bnI _ _ (x) ⟨fun r => @bnI _ _ (f r) K⟩) := Option.bind_assoc ..
theorem bn_map {α γ : Type} (x : Option α) (f : α → γ) {K : Kt γ β} : @bnI _ _ (x.map f) K = (@bnI _ _ (x) ⟨fun r => K.f (f r)⟩) := Option.bind_map ..
theorem bn_bif {α : Type} (b : Bool) (x y : Option α) {K : Kt α β} : @bnI _ _ (bif b then x else y) K = @ifI _ b ⟨@bnI _ _ x K⟩ ⟨@bnI _ _ y K⟩ := by cases b <;> rfl

theorem e_lc (own : List Nat) (t : Tg) (it : It) (c : O) (e : E) {K : Kt (D × Option Nat × List Sl) β} : @bnI _ _ (xE Φ (.lc own t it c e) ρ) K = (@bnI _ _ (xI Φ it ρ) ⟨fun r => (@bnI _ _ (xCol (lcSt Φ own t c e r.2.1 r.2.2) r.1 [] r.2.2) ⟨fun z => (@bnI _ _ (grd (stillB r.2.1 r.2.2 z.2)) ⟨fun _ => K.f (.lst z.1, none, z.2)⟩)⟩)⟩) := by
  unfold bnI; rw [xE]; simp only [Option.bind_assoc]; refine bcg fun r => bcg fun z => ?_; unfold guardO grd; cases stillB r.2.1 r.2.2 z.2 <;> rfl
theorem e_lc2 (own own2 : List Nat) (t : Tg) (it : It) (c : O) (t2 : Tg) (it2 : It) (c2 : O) (e : E) {K : Kt (D × Option Nat × List Sl) β} : @bnI _ _ (xE Φ (.lc2 own own2 t it c t2 it2 c2 e) ρ) K = (@bnI _ _ (xI Φ it ρ) ⟨fun r => (@bnI _ _ (xCol (lcOut Φ own own2 t c t2 it2 c2 e r.2.1 r.2.2) r.1 [] r.2.2) ⟨fun z => (@bnI _ _ (grd (stillB r.2.1 r.2.2 z.2)) ⟨fun _ => K.f (.lst z.1, none, z.2)⟩)⟩)⟩) := by
  unfold bnI; rw [xE]; simp only [Option.bind_assoc]; refine bcg fun r => bcg fun z => ?_; unfold guardO grd; cases stillB r.2.1 r.2.2 z.2 <;> rfl
theorem e_dc (own : List Nat) (t : Tg) (it : It) (k v : E) {K : Kt (D × Option Nat × List Sl) β} : @bnI _ _ (xE Φ (.dc own t it k v) ρ) K = (@bnI _ _ (xI Φ it ρ) ⟨fun r => (@bnI _ _ (xCol (dcSt Φ own t k v r.2.1 r.2.2) r.1 [] r.2.2) ⟨fun z => (@bnI _ _ (grd (stillB r.2.1 r.2.2 z.2)) ⟨fun _ => K.f (.dic z.1, none, z.2)⟩)⟩)⟩) := by
  unfold bnI; rw [xE]; simp only [Option.bind_assoc]; refine bcg fun r => bcg fun z => ?_; unfold guardO grd; cases stillB r.2.1 r.2.2 z.2 <;> rfl
theorem b_lcSt (own : List Nat) (t : Tg) (c : O) (e : E) (s : Option Nat) (ρ0 : List Sl) (acc : List D) (x : D) (ρ2 : List Sl) {K : Kt (List D × List Sl) β} : @bnI _ _ (lcSt Φ own t c e s ρ0 acc x ρ2) K =
    (@bnI _ _ (grd (stillB s ρ0 ρ2)) ⟨fun _ => (@bnI _ _ (xTg t x (wipeS ρ2 own)) ⟨fun ρ3 => (@bnI _ _ (xC Φ c ρ3) ⟨fun b => (@ifI _ b.1 ⟨(@bnI _ _ (xE Φ e b.2) ⟨fun v => (@bnI _ _ (cur v.2.1 v.1 v.2.2) ⟨fun d => K.f (acc ++ [d], back own ρ2 (frz v.2.1 v.2.2))⟩)⟩)⟩ ⟨K.f (acc, back own ρ2 b.2)⟩)⟩)⟩)⟩) := by
  exact (bn_guard ..).trans (bcg fun _ => (bn_bind ..).trans (bcg fun ρ3 => (bn_bind ..).trans (bcg fun b => (bn_bif ..).trans (by
    obtain ⟨b1, ρ4⟩ := b
    cases b1 with
    | false => rfl
    | true => exact (bn_bind ..).trans (bcg fun v => bn_map ..)))))
theorem b_lcIn (own : List Nat) (t : Tg) (c : O) (e : E) (s : Option Nat) (ρ0 : List Sl) (acc : List D) (x : D) (ρ2 : List Sl) {K : Kt (List D × List Sl) β} : @bnI _ _ (lcIn Φ own t c e s ρ0 acc x ρ2) K =
    (@bnI _ _ (grd (stillB s ρ0 ρ2)) ⟨fun _ => (@bnI _ _ (xTg t x (wipeS ρ2 own)) ⟨fun ρ3 => (@bnI _ _ (xC Φ c ρ3) ⟨fun b => (@ifI _ b.1 ⟨(@bnI _ _ (xE Φ e b.2) ⟨fun v => (@bnI _ _ (grd (decide (acc.length < 1000000))) ⟨fun _ => (@bnI _ _ (cur v.2.1 v.1 v.2.2) ⟨fun d => K.f (acc ++ [d], back own ρ2 (frz v.2.1 v.2.2))⟩)⟩)⟩)⟩ ⟨K.f (acc, back own ρ2 b.2)⟩)⟩)⟩)⟩) := by
  exact (bn_guard ..).trans (bcg fun _ => (bn_bind ..).trans (bcg fun ρ3 => (bn_bind ..).trans (bcg fun b => (bn_bif ..).trans (by
    obtain ⟨b1, ρ4⟩ := b
    cases b1 with
    | false => rfl
    | true => exact (bn_bind ..).trans (bcg fun v => (bn_guard ..).trans (bcg fun _ => bn_map ..))))))
theorem b_lcOut (own own2 : List Nat) (t : Tg) (c : O) (t2 : Tg) (it2 : It) (c2 : O) (e : E) (s : Option Nat) (ρ0 : List Sl) (acc : List D) (x : D) (ρ2 : List Sl) {K : Kt (List D × List Sl) β} : @bnI _ _ (lcOut Φ own own2 t c t2 it2 c2 e s ρ0 acc x ρ2) K =
    (@bnI _ _ (grd (stillB s ρ0 ρ2)) ⟨fun _ => (@bnI _ _ (xTg t x (wipeS ρ2 own)) ⟨fun ρ3 => (@bnI _ _ (xC Φ c ρ3) ⟨fun b => (@ifI _ b.1 ⟨(@bnI _ _ (xI Φ it2 b.2) ⟨fun r2 => (@bnI _ _ (xCol (lcIn Φ own2 t2 c2 e r2.2.1 r2.2.2) r2.1 acc r2.2.2) ⟨fun z => (@bnI _ _ (grd (stillB r2.2.1 r2.2.2 z.2)) ⟨fun _ => K.f (z.1, back own ρ2 z.2)⟩)⟩)⟩)⟩ ⟨K.f (acc, back own ρ2 b.2)⟩)⟩)⟩)⟩) := by
  exact (bn_guard ..).trans (bcg fun _ => (bn_bind ..).trans (bcg fun ρ3 => (bn_bind ..).trans (bcg fun b => (bn_bif ..).trans (by
    obtain ⟨b1, ρ4⟩ := b
    cases b1 with
    | false => rfl
    | true => exact (bn_bind ..).trans (bcg fun r2 => (bn_bind ..).trans (bcg fun z => bn_guard ..))))))
theorem b_dcSt (own : List Nat) (t : Tg) (k v : E) (s : Option Nat) (ρ0 : List Sl) (acc : List (Key × D)) (x : D) (ρ2 : List Sl) {K : Kt (List (Key × D) × List Sl) β} : @bnI _ _ (dcSt Φ own t k v s ρ0 acc x ρ2) K =
    (@bnI _ _ (grd (stillB s ρ0 ρ2)) ⟨fun _ => (@bnI _ _ (xTg t x (wipeS ρ2 own)) ⟨fun ρ3 => (@bnI _ _ (xE Φ k ρ3) ⟨fun r1 => (@bnI _ _ (xE Φ v r1.2.2) ⟨fun r2 => (@bnI _ _ (keyD r1.1) ⟨fun kk => (@bnI _ _ (cur r2.2.1 r2.1 r2.2.2) ⟨fun d => K.f (putD acc kk d, back own ρ2 (frz r2.2.1 r2.2.2))⟩)⟩)⟩)⟩)⟩)⟩) := by
  exact (bn_guard ..).trans (bcg fun _ => (bn_bind ..).trans (bcg fun ρ3 => (bn_bind ..).trans (bcg fun r1 => (bn_bind ..).trans (bcg fun r2 => (bn_bind ..).trans (bcg fun kk => bn_map ..)))))
theorem t_nm (i : Nat) (d : D) {K : Kt (List Sl) β} : @bnI _ _ (xTg (.nm i) d ρ) K = K.f (ρ.set i (.sh d)) := rfl
theorem t_tp (l : List Nat) (d : D) {K : Kt (List Sl) β} : @bnI _ _ (xTg (.tp l) d ρ) K = (@bnI _ _ (tup_ l.length d) ⟨fun ds => K.f (setL ρ l ds)⟩) := by
  cases d <;> first | rfl | (unfold xTg tup_; dsimp only; rw [bn_bif]; rename_i ds; cases decide (ds.length = l.length) <;> rfl)

theorem o_no  {K : Kt (Option D × List Sl) β} : @bnI _ _ (xO Φ .no ρ) K = K.f (none, ρ) := by
  rfl
theorem o_so (e : E) {K : Kt (Option D × List Sl) β} : @bnI _ _ (xO Φ (.so e) ρ) K = (@bnI _ _ (xE Φ e ρ) ⟨fun r => K.f (some r.1, r.2.2)⟩) := by
  unfold bnI; rw [xO]; simp only [Option.bind_map, Function.comp_def]
theorem c_no  {K : Kt (Bool × List Sl) β} : @bnI _ _ (xC Φ .no ρ) K = K.f (true, ρ) := by
  rfl
theorem c_so (e : E) {K : Kt (Bool × List Sl) β} : @bnI _ _ (xC Φ (.so e) ρ) K = (@bnI _ _ (xE Φ e ρ) ⟨fun r => (@bnI _ _ (bool_ r.1) ⟨fun b => K.f (b, r.2.2)⟩)⟩) := by
  show @bnI _ _ (asB (xE Φ e ρ)) K = _; exact asB_bn _
theorem a_nil  {K : Kt (List Raw × List Sl) β} : @bnI _ _ (xA Φ .nil ρ) K = K.f ([], ρ) := by
  rfl
theorem a_cons (e : E) (es : Es) {K : Kt (List Raw × List Sl) β} : @bnI _ _ (xA Φ (.cons e es) ρ) K = (@bnI _ _ (xE Φ e ρ) ⟨fun r => (@bnI _ _ (xA Φ es r.2.2) ⟨fun rs => K.f ((r.1, r.2.1) :: rs.1, rs.2)⟩)⟩) := by
  unfold bnI; rw [xA]; simp only [Option.bind_assoc, Option.bind_map, Function.comp_def]
theorem i_val (e : E) {K : Kt (List D × Option Nat × List Sl) β} : @bnI _ _ (xI Φ (.val e) ρ) K = (@bnI _ _ (xE Φ e ρ) ⟨fun r => (@bnI _ _ (cur r.2.1 r.1 r.2.2) ⟨fun d => (@bnI _ _ (iterD d) ⟨fun l => K.f (l, r.2.1, r.2.2)⟩)⟩)⟩) := by
  unfold bnI; rw [xI]; simp only [Option.bind_assoc, Option.bind_map, Function.comp_def]
def rngA (j : Int) : Option (List D) := bif decide (0 ≤ j) && decide (j ≤ 1000000) then some ((List.range j.toNat).map fun i => .int (i : Nat)) else none
def rngB (i j : Int) : Option (List D) := bif decide (0 ≤ i) && decide (i ≤ 1000000) && decide (0 ≤ j) && decide (j ≤ 1000000) then some ((List.range (j - i).toNat).map fun n => .int (i + (n : Nat))) else none

theorem i_rng1 (a : E) {K : Kt (List D × Option Nat × List Sl) β} : @bnI _ _ (xI Φ (.rng1 a) ρ) K = (@bnI _ _ (xE Φ a ρ) ⟨fun r => (@bnI _ _ (int_ r.1) ⟨fun j => (@bnI _ _ (rngA j) ⟨fun l => K.f (l, none, r.2.2)⟩)⟩)⟩) := by
  unfold bnI; rw [xI]; rw [Option.bind_assoc]; refine bcg fun r => ?_; obtain ⟨d, s, ρ1⟩ := r; cases d <;> first | rfl | skip
  rename_i j
  show (guardO _ _).bind _ = (rngA j).bind _
  unfold guardO rngA
  cases decide (0 ≤ j) && decide (j ≤ 1000000) <;> rfl
theorem i_rng2 (a b : E) {K : Kt (List D × Option Nat × List Sl) β} : @bnI _ _ (xI Φ (.rng2 a b) ρ) K = (@bnI _ _ (xE Φ a ρ) ⟨fun r => (@bnI _ _ (xE Φ b r.2.2) ⟨fun r2 => (@bnI _ _ (int_ r.1) ⟨fun i => (@bnI _ _ (int_ r2.1) ⟨fun j => (@bnI _ _ (rngB i j) ⟨fun l => K.f (l, none, r2.2.2)⟩)⟩)⟩)⟩)⟩) := by
  unfold bnI; rw [xI]; rw [Option.bind_assoc]; refine bcg fun r => ?_; rw [Option.bind_assoc]; refine bcg fun r2 => ?_; obtain ⟨d, s, ρ1⟩ := r; obtain ⟨d2, s2, ρ2⟩ := r2; cases d <;> first | rfl | skip
  cases d2 <;> first | rfl | skip
  rename_i i j
  show (guardO _ _).bind _ = (rngB i j).bind _
  unfold guardO rngB
  cases decide (0 ≤ i) && decide (i ≤ 1000000) && decide (0 ≤ j) && decide (j ≤ 1000000) <;> rfl
theorem i_enum (e : E) {K : Kt (List D × Option Nat × List Sl) β} : @bnI _ _ (xI Φ (.enum e) ρ) K = (@bnI _ _ (xE Φ e ρ) ⟨fun r => (@bnI _ _ (cur r.2.1 r.1 r.2.2) ⟨fun d => (@bnI _ _ (iterS d) ⟨fun l => K.f (l.zipIdx.map fun p => .tup [.int (p.2 : Nat), p.1], none, frz r.2.1 r.2.2)⟩)⟩)⟩) := by
  unfold bnI; rw [xI]; simp only [Option.bind_assoc, Option.bind_map, Function.comp_def]
theorem i_zip (a b : E) {K : Kt (List D × Option Nat × List Sl) β} : @bnI _ _ (xI Φ (.zip a b) ρ) K = (@bnI _ _ (xE Φ a ρ) ⟨fun r1 => (@bnI _ _ (xE Φ b r1.2.2) ⟨fun r2 => (@bnI _ _ (cur r1.2.1 r1.1 r2.2.2) ⟨fun d1 => (@bnI _ _ (cur r2.2.1 r2.1 r2.2.2) ⟨fun d2 => (@bnI _ _ (iterS d1) ⟨fun l1 => (@bnI _ _ (iterS d2) ⟨fun l2 => K.f ((l1.zip l2).map fun p => .tup [p.1, p.2], none, frz r2.2.1 (frz r1.2.1 r2.2.2))⟩)⟩)⟩)⟩)⟩)⟩) := by
  unfold bnI; rw [xI]; simp only [Option.bind_assoc, Option.bind_map, Function.comp_def]
theorem f_lst (es : Es) {K : Kt (Sl × List Sl) β} : @bnI _ _ (xF Φ (.lst es) ρ) K = (@bnI _ _ (xA Φ es ρ) ⟨fun r => (@bnI _ _ (curs r.1 r.2) ⟨fun ds => K.f (.ow (.lst ds), frzs r.1 r.2)⟩)⟩) := by
  unfold bnI xF; simp only [Option.bind_assoc, Option.bind_map, Function.comp_def]
theorem f_dic0  {K : Kt (Sl × List Sl) β} : @bnI _ _ (xF Φ .dic0 ρ) K = K.f (.ow (.dic []), ρ) := by
  rfl
theorem f_dic1 (k v : E) {K : Kt (Sl × List Sl) β} : @bnI _ _ (xF Φ (.dic1 k v) ρ) K = (@bnI _ _ (xE Φ (.dic1 k v) ρ) ⟨fun r => K.f (.ow r.1, r.2.2)⟩) := by
  unfold bnI xF; simp only [Option.bind_map, Function.comp_def]
theorem f_lc (own : List Nat) (t : Tg) (it : It) (c : O) (e : E) {K : Kt (Sl × List Sl) β} : @bnI _ _ (xF Φ (.lc own t it c e) ρ) K = (@bnI _ _ (xE Φ (.lc own t it c e) ρ) ⟨fun r => K.f (.ow r.1, r.2.2)⟩) := by
  unfold bnI xF; simp only [Option.bind_map, Function.comp_def]
theorem f_lc2 (own own2 : List Nat) (t : Tg) (it : It) (c : O) (t2 : Tg) (it2 : It) (c2 : O) (e : E) {K : Kt (Sl × List Sl) β} : @bnI _ _ (xF Φ (.lc2 own own2 t it c t2 it2 c2 e) ρ) K = (@bnI _ _ (xE Φ (.lc2 own own2 t it c t2 it2 c2 e) ρ) ⟨fun r => K.f (.ow r.1, r.2.2)⟩) := by
  unfold bnI xF; simp only [Option.bind_map, Function.comp_def]
theorem f_dc (own : List Nat) (t : Tg) (it : It) (k v : E) {K : Kt (Sl × List Sl) β} : @bnI _ _ (xF Φ (.dc own t it k v) ρ) K = (@bnI _ _ (xE Φ (.dc own t it k v) ρ) ⟨fun r => K.f (.ow r.1, r.2.2)⟩) := by
  unfold bnI xF; simp only [Option.bind_map, Function.comp_def]
theorem f_call (f : Nat) (es : Es) {K : Kt (Sl × List Sl) β} : @bnI _ _ (xF Φ (.call f es) ρ) K = (@bnI _ _ (Φ f) ⟨fun p => (@bnI _ _ (xA Φ es ρ) ⟨fun r => @bnI _ _ (xCon p r.1 r.2) K⟩)⟩) := by
  unfold bnI xF; simp only [Option.bind_assoc]
theorem f_bi (b : BI) (es : Es) {K : Kt (Sl × List Sl) β} : @bnI _ _ (xF Φ (.bi b es) ρ) K = (@bnI _ _ (xA Φ es ρ) ⟨fun r => (@bnI _ _ (curs r.1 r.2) ⟨fun ds => (@bnI _ _ (biD b ds) ⟨fun s => K.f (s, r.2)⟩)⟩)⟩) := by
  unfold bnI xF; simp only [Option.bind_assoc, Option.bind_map, Function.comp_def]
theorem f_kInt (i : Int) {K : Kt (Sl × List Sl) β} : @bnI _ _ (xF Φ (.kInt i) ρ) K = (@bnI _ _ (xE Φ (.kInt i) ρ) ⟨fun r => (@bnI _ _ (cur r.2.1 r.1 r.2.2) ⟨fun d => K.f (.sh d, frz r.2.1 r.2.2)⟩)⟩) := by
  unfold bnI xF; simp only [Option.bind_assoc, Option.bind_map, Function.comp_def]
theorem f_kStr (i : Str) {K : Kt (Sl × List Sl) β} : @bnI _ _ (xF Φ (.kStr i) ρ) K = (@bnI _ _ (xE Φ (.kStr i) ρ) ⟨fun r => (@bnI _ _ (cur r.2.1 r.1 r.2.2) ⟨fun d => K.f (.sh d, frz r.2.1 r.2.2)⟩)⟩) := by
  unfold bnI xF; simp only [Option.bind_assoc, Option.bind_map, Function.comp_def]
theorem f_kBl (i : Bool) {K : Kt (Sl × List Sl) β} : @bnI _ _ (xF Φ (.kBl i) ρ) K = (@bnI _ _ (xE Φ (.kBl i) ρ) ⟨fun r => (@bnI _ _ (cur r.2.1 r.1 r.2.2) ⟨fun d => K.f (.sh d, frz r.2.1 r.2.2)⟩)⟩) := by
  unfold bnI xF; simp only [Option.bind_assoc, Option.bind_map, Function.comp_def]
theorem f_kNon  {K : Kt (Sl × List Sl) β} : @bnI _ _ (xF Φ .kNon ρ) K = (@bnI _ _ (xE Φ .kNon ρ) ⟨fun r => (@bnI _ _ (cur r.2.1 r.1 r.2.2) ⟨fun d => K.f (.sh d, frz r.2.1 r.2.2)⟩)⟩) := by
  unfold bnI xF; simp only [Option.bind_assoc, Option.bind_map, Function.comp_def]
theorem f_loc (i : Nat) {K : Kt (Sl × List Sl) β} : @bnI _ _ (xF Φ (.loc i) ρ) K = (@bnI _ _ (xE Φ (.loc i) ρ) ⟨fun r => (@bnI _ _ (cur r.2.1 r.1 r.2.2) ⟨fun d => K.f (.sh d, frz r.2.1 r.2.2)⟩)⟩) := by
  unfold bnI xF; simp only [Option.bind_assoc, Option.bind_map, Function.comp_def]
theorem f_bin (o : Operator) (a b : E) {K : Kt (Sl × List Sl) β} : @bnI _ _ (xF Φ (.bin o a b) ρ) K = (@bnI _ _ (xE Φ (.bin o a b) ρ) ⟨fun r => K.f (fresh r.1, r.2.2)⟩) := by
  unfold bnI xF; simp only [Option.bind_map, Function.comp_def]
theorem fh_i (i : Int) : fresh (.int i) = .sh (.int i) := rfl
theorem fh_s (i : Str) : fresh (.str i) = .sh (.str i) := rfl
theorem fh_t (i : List D) : fresh (.tup i) = .sh (.tup i) := rfl
theorem fh_l (i : List D) : fresh (.lst i) = .ow (.lst i) := rfl
theorem f_neg (a : E) {K : Kt (Sl × List Sl) β} : @bnI _ _ (xF Φ (.neg a) ρ) K = (@bnI _ _ (xE Φ (.neg a) ρ) ⟨fun r => (@bnI _ _ (cur r.2.1 r.1 r.2.2) ⟨fun d => K.f (.sh d, frz r.2.1 r.2.2)⟩)⟩) := by
  unfold bnI xF; simp only [Option.bind_assoc, Option.bind_map, Function.comp_def]
theorem f_cmp (o : CmpOp) (a b : E) {K : Kt (Sl × List Sl) β} : @bnI _ _ (xF Φ (.cmp o a b) ρ) K = (@bnI _ _ (xE Φ (.cmp o a b) ρ) ⟨fun r => (@bnI _ _ (cur r.2.1 r.1 r.2.2) ⟨fun d => K.f (.sh d, frz r.2.1 r.2.2)⟩)⟩) := by
  unfold bnI xF; simp only [Option.bind_assoc, Option.bind_map, Function.comp_def]
theorem f_cmp2 (o p : CmpOp) (a b c : E) {K : Kt (Sl × List Sl) β} : @bnI _ _ (xF Φ (.cmp2 o p a b c) ρ) K = (@bnI _ _ (xE Φ (.cmp2 o p a b c) ρ) ⟨fun r => (@bnI _ _ (cur r.2.1 r.1 r.2.2) ⟨fun d => K.f (.sh d, frz r.2.1 r.2.2)⟩)⟩) := by
  unfold bnI xF; simp only [Option.bind_assoc, Option.bind_map, Function.comp_def]
theorem f_and (a b : E) {K : Kt (Sl × List Sl) β} : @bnI _ _ (xF Φ (.and a b) ρ) K = (@bnI _ _ (xE Φ (.and a b) ρ) ⟨fun r => (@bnI _ _ (cur r.2.1 r.1 r.2.2) ⟨fun d => K.f (.sh d, frz r.2.1 r.2.2)⟩)⟩) := by
  unfold bnI xF; simp only [Option.bind_assoc, Option.bind_map, Function.comp_def]
theorem f_or (a b : E) {K : Kt (Sl × List Sl) β} : @bnI _ _ (xF Φ (.or a b) ρ) K = (@bnI _ _ (xE Φ (.or a b) ρ) ⟨fun r => (@bnI _ _ (cur r.2.1 r.1 r.2.2) ⟨fun d => K.f (.sh d, frz r.2.1 r.2.2)⟩)⟩) := by
  unfold bnI xF; simp only [Option.bind_assoc, Option.bind_map, Function.comp_def]
theorem f_not (a : E) {K : Kt (Sl × List Sl) β} : @bnI _ _ (xF Φ (.not a) ρ) K = (@bnI _ _ (xE Φ (.not a) ρ) ⟨fun r => (@bnI _ _ (cur r.2.1 r.1 r.2.2) ⟨fun d => K.f (.sh d, frz r.2.1 r.2.2)⟩)⟩) := by
  unfold bnI xF; simp only [Option.bind_assoc, Option.bind_map, Function.comp_def]
theorem f_ife (c a b : E) {K : Kt (Sl × List Sl) β} : @bnI _ _ (xF Φ (.ife c a b) ρ) K = (@bnI _ _ (xE Φ (.ife c a b) ρ) ⟨fun r => (@bnI _ _ (cur r.2.1 r.1 r.2.2) ⟨fun d => K.f (.sh d, frz r.2.1 r.2.2)⟩)⟩) := by
  unfold bnI xF; simp only [Option.bind_assoc, Option.bind_map, Function.comp_def]
theorem f_sub (a b : E) {K : Kt (Sl × List Sl) β} : @bnI _ _ (xF Φ (.sub a b) ρ) K = (@bnI _ _ (xE Φ (.sub a b) ρ) ⟨fun r => (@bnI _ _ (cur r.2.1 r.1 r.2.2) ⟨fun d => K.f (.sh d, frz r.2.1 r.2.2)⟩)⟩) := by
  unfold bnI xF; simp only [Option.bind_assoc, Option.bind_map, Function.comp_def]
theorem f_slc (a : E) (lo hi : O) {K : Kt (Sl × List Sl) β} : @bnI _ _ (xF Φ (.slc a lo hi) ρ) K = (@bnI _ _ (xE Φ (.slc a lo hi) ρ) ⟨fun r => (@bnI _ _ (cur r.2.1 r.1 r.2.2) ⟨fun d => K.f (.sh d, frz r.2.1 r.2.2)⟩)⟩) := by
  unfold bnI xF; simp only [Option.bind_assoc, Option.bind_map, Function.comp_def]
theorem f_rev (a : E) {K : Kt (Sl × List Sl) β} : @bnI _ _ (xF Φ (.rev a) ρ) K = (@bnI _ _ (xE Φ (.rev a) ρ) ⟨fun r => (@bnI _ _ (cur r.2.1 r.1 r.2.2) ⟨fun d => K.f (.sh d, frz r.2.1 r.2.2)⟩)⟩) := by
  unfold bnI xF; simp only [Option.bind_assoc, Option.bind_map, Function.comp_def]
theorem f_tup (es : Es) {K : Kt (Sl × List Sl) β} : @bnI _ _ (xF Φ (.tup es) ρ) K = (@bnI _ _ (xE Φ (.tup es) ρ) ⟨fun r => (@bnI _ _ (cur r.2.1 r.1 r.2.2) ⟨fun d => K.f (.sh d, frz r.2.1 r.2.2)⟩)⟩) := by
  unfold bnI xF; simp only [Option.bind_assoc, Option.bind_map, Function.comp_def]
theorem f_me (m : ME) (a : E) (es : Es) {K : Kt (Sl × List Sl) β} : @bnI _ _ (xF Φ (.me m a es) ρ) K = (@bnI _ _ (xE Φ (.me m a es) ρ) ⟨fun r => (@bnI _ _ (cur r.2.1 r.1 r.2.2) ⟨fun d => K.f (.sh d, frz r.2.1 r.2.2)⟩)⟩) := by
  unfold bnI xF; simp only [Option.bind_assoc, Option.bind_map, Function.comp_def]
theorem f_mt (m : MT) (i : Nat) (es : Es) {K : Kt (Sl × List Sl) β} : @bnI _ _ (xF Φ (.mt m i es) ρ) K = (@bnI _ _ (xE Φ (.mt m i es) ρ) ⟨fun r => (@bnI _ _ (cur r.2.1 r.1 r.2.2) ⟨fun d => K.f (.sh d, frz r.2.1 r.2.2)⟩)⟩) := by
  unfold bnI xF; simp only [Option.bind_assoc, Option.bind_map, Function.comp_def]
theorem f_fld (a : E) (f : Str) {K : Kt (Sl × List Sl) β} : @bnI _ _ (xF Φ (.fld a f) ρ) K = (@bnI _ _ (xE Φ (.fld a f) ρ) ⟨fun r => (@bnI _ _ (cur r.2.1 r.1 r.2.2) ⟨fun d => K.f (.sh d, frz r.2.1 r.2.2)⟩)⟩) := by
  unfold bnI xF; simp only [Option.bind_assoc, Option.bind_map, Function.comp_def]
theorem f_prp (a : E) (f : Nat) {K : Kt (Sl × List Sl) β} : @bnI _ _ (xF Φ (.prp a f) ρ) K = (@bnI _ _ (xE Φ (.prp a f) ρ) ⟨fun r => (@bnI _ _ (cur r.2.1 r.1 r.2.2) ⟨fun d => K.f (.sh d, frz r.2.1 r.2.2)⟩)⟩) := by
  unfold bnI xF; simp only [Option.bind_assoc, Option.bind_map, Function.comp_def]
theorem f_eqT (n : Bool) (f : Nat) (a b : E) {K : Kt (Sl × List Sl) β} : @bnI _ _ (xF Φ (.eqT n f a b) ρ) K = (@bnI _ _ (xE Φ (.eqT n f a b) ρ) ⟨fun r => (@bnI _ _ (cur r.2.1 r.1 r.2.2) ⟨fun d => K.f (.sh d, frz r.2.1 r.2.2)⟩)⟩) := by
  unfold bnI xF; simp only [Option.bind_assoc, Option.bind_map, Function.comp_def]
theorem f_isi (a : E) (t : TyN) {K : Kt (Sl × List Sl) β} : @bnI _ _ (xF Φ (.isi a t) ρ) K = (@bnI _ _ (xE Φ (.isi a t) ρ) ⟨fun r => (@bnI _ _ (cur r.2.1 r.1 r.2.2) ⟨fun d => K.f (.sh d, frz r.2.1 r.2.2)⟩)⟩) := by
  unfold bnI xF; simp only [Option.bind_assoc, Option.bind_map, Function.comp_def]
def unAt (i : Nat) (ρ : List Sl) : Option (Sl × List Sl) := match ρ[i]? with
  | some (.sh d) => some (.sh d, ρ)
  | some (.ow d) => some (.ow d, ρ.set i .un)
  | _ => none
theorem r_loc (i : Nat) {K : Kt (Sl × List Sl) β} : @bnI _ _ (xR Φ (.loc i) ρ) K = @bnI _ _ (unAt i ρ) K := rfl

theorem r_kInt (i : Int) {K : Kt (Sl × List Sl) β} : @bnI _ _ (xR Φ (.kInt i) ρ) K = @bnI _ _ (xF Φ (.kInt i) ρ) K := rfl
theorem r_kStr (i : Str) {K : Kt (Sl × List Sl) β} : @bnI _ _ (xR Φ (.kStr i) ρ) K = @bnI _ _ (xF Φ (.kStr i) ρ) K := rfl
theorem r_kBl (i : Bool) {K : Kt (Sl × List Sl) β} : @bnI _ _ (xR Φ (.kBl i) ρ) K = @bnI _ _ (xF Φ (.kBl i) ρ) K := rfl
theorem r_kNon  {K : Kt (Sl × List Sl) β} : @bnI _ _ (xR Φ .kNon ρ) K = @bnI _ _ (xF Φ .kNon ρ) K := rfl
theorem r_bin (o : Operator) (a b : E) {K : Kt (Sl × List Sl) β} : @bnI _ _ (xR Φ (.bin o a b) ρ) K = @bnI _ _ (xF Φ (.bin o a b) ρ) K := rfl
theorem r_neg (a : E) {K : Kt (Sl × List Sl) β} : @bnI _ _ (xR Φ (.neg a) ρ) K = @bnI _ _ (xF Φ (.neg a) ρ) K := rfl
theorem r_cmp (o : CmpOp) (a b : E) {K : Kt (Sl × List Sl) β} : @bnI _ _ (xR Φ (.cmp o a b) ρ) K = @bnI _ _ (xF Φ (.cmp o a b) ρ) K := rfl
theorem r_cmp2 (o p : CmpOp) (a b c : E) {K : Kt (Sl × List Sl) β} : @bnI _ _ (xR Φ (.cmp2 o p a b c) ρ) K = @bnI _ _ (xF Φ (.cmp2 o p a b c) ρ) K := rfl
theorem r_and (a b : E) {K : Kt (Sl × List Sl) β} : @bnI _ _ (xR Φ (.and a b) ρ) K = @bnI _ _ (xF Φ (.and a b) ρ) K := rfl
theorem r_or (a b : E) {K : Kt (Sl × List Sl) β} : @bnI _ _ (xR Φ (.or a b) ρ) K = @bnI _ _ (xF Φ (.or a b) ρ) K := rfl
theorem r_not (a : E) {K : Kt (Sl × List Sl) β} : @bnI _ _ (xR Φ (.not a) ρ) K = @bnI _ _ (xF Φ (.not a) ρ) K := rfl
theorem r_ife (c a b : E) {K : Kt (Sl × List Sl) β} : @bnI _ _ (xR Φ (.ife c a b) ρ) K = @bnI _ _ (xF Φ (.ife c a b) ρ) K := rfl
theorem r_sub (a b : E) {K : Kt (Sl × List Sl) β} : @bnI _ _ (xR Φ (.sub a b) ρ) K = @bnI _ _ (xF Φ (.sub a b) ρ) K := rfl
theorem r_slc (a : E) (lo hi : O) {K : Kt (Sl × List Sl) β} : @bnI _ _ (xR Φ (.slc a lo hi) ρ) K = @bnI _ _ (xF Φ (.slc a lo hi) ρ) K := rfl
theorem r_rev (a : E) {K : Kt (Sl × List Sl) β} : @bnI _ _ (xR Φ (.rev a) ρ) K = @bnI _ _ (xF Φ (.rev a) ρ) K := rfl
theorem r_tup (es : Es) {K : Kt (Sl × List Sl) β} : @bnI _ _ (xR Φ (.tup es) ρ) K = @bnI _ _ (xF Φ (.tup es) ρ) K := rfl
theorem r_me (m : ME) (a : E) (es : Es) {K : Kt (Sl × List Sl) β} : @bnI _ _ (xR Φ (.me m a es) ρ) K = @bnI _ _ (xF Φ (.me m a es) ρ) K := rfl
theorem r_mt (m : MT) (i : Nat) (es : Es) {K : Kt (Sl × List Sl) β} : @bnI _ _ (xR Φ (.mt m i es) ρ) K = @bnI _ _ (xF Φ (.mt m i es) ρ) K := rfl
theorem r_fld (a : E) (f : Str) {K : Kt (Sl × List Sl) β} : @bnI _ _ (xR Φ (.fld a f) ρ) K = @bnI _ _ (xF Φ (.fld a f) ρ) K := rfl
theorem r_prp (a : E) (f : Nat) {K : Kt (Sl × List Sl) β} : @bnI _ _ (xR Φ (.prp a f) ρ) K = @bnI _ _ (xF Φ (.prp a f) ρ) K := rfl
theorem r_eqT (n : Bool) (f : Nat) (a b : E) {K : Kt (Sl × List Sl) β} : @bnI _ _ (xR Φ (.eqT n f a b) ρ) K = @bnI _ _ (xF Φ (.eqT n f a b) ρ) K := rfl
theorem r_isi (a : E) (t : TyN) {K : Kt (Sl × List Sl) β} : @bnI _ _ (xR Φ (.isi a t) ρ) K = @bnI _ _ (xF Φ (.isi a t) ρ) K := rfl
theorem r_lst (es : Es) {K : Kt (Sl × List Sl) β} : @bnI _ _ (xR Φ (.lst es) ρ) K = @bnI _ _ (xF Φ (.lst es) ρ) K := rfl
theorem r_dic0  {K : Kt (Sl × List Sl) β} : @bnI _ _ (xR Φ .dic0 ρ) K = @bnI _ _ (xF Φ .dic0 ρ) K := rfl
theorem r_dic1 (k v : E) {K : Kt (Sl × List Sl) β} : @bnI _ _ (xR Φ (.dic1 k v) ρ) K = @bnI _ _ (xF Φ (.dic1 k v) ρ) K := rfl
theorem r_lc (own : List Nat) (t : Tg) (it : It) (c : O) (e : E) {K : Kt (Sl × List Sl) β} : @bnI _ _ (xR Φ (.lc own t it c e) ρ) K = @bnI _ _ (xF Φ (.lc own t it c e) ρ) K := rfl
theorem r_lc2 (own own2 : List Nat) (t : Tg) (it : It) (c : O) (t2 : Tg) (it2 : It) (c2 : O) (e : E) {K : Kt (Sl × List Sl) β} : @bnI _ _ (xR Φ (.lc2 own own2 t it c t2 it2 c2 e) ρ) K = @bnI _ _ (xF Φ (.lc2 own own2 t it c t2 it2 c2 e) ρ) K := rfl
theorem r_dc (own : List Nat) (t : Tg) (it : It) (k v : E) {K : Kt (Sl × List Sl) β} : @bnI _ _ (xR Φ (.dc own t it k v) ρ) K = @bnI _ _ (xF Φ (.dc own t it k v) ρ) K := rfl
theorem r_call (f : Nat) (es : Es) {K : Kt (Sl × List Sl) β} : @bnI _ _ (xR Φ (.call f es) ρ) K = @bnI _ _ (xF Φ (.call f es) ρ) K := rfl
theorem r_bi (b : BI) (es : Es) {K : Kt (Sl × List Sl) β} : @bnI _ _ (xR Φ (.bi b es) ρ) K = @bnI _ _ (xF Φ (.bi b es) ρ) K := rfl
theorem s_set (i : Nat) (e : E) {K : Kt Oc β} : @bnI _ _ (xS Φ (.set i e) ρ) K = (@bnI _ _ (xF Φ e ρ) ⟨fun r => K.f (.nx (r.2.set i r.1))⟩) := by
  unfold bnI; rw [xS]; simp only [Option.bind_map, Function.comp_def]
theorem s_setT (l : List Nat) (e : E) {K : Kt Oc β} : @bnI _ _ (xS Φ (.setT l e) ρ) K = (@bnI _ _ (xE Φ e ρ) ⟨fun r => (@bnI _ _ (cur r.2.1 r.1 r.2.2) ⟨fun d => (@bnI _ _ (tup_ l.length d) ⟨fun ds => K.f (.nx (setL (frz r.2.1 r.2.2) l ds))⟩)⟩)⟩) := by
  unfold bnI; rw [xS]; simp only [Option.bind_assoc]
  refine bcg fun r => bcg fun d => ?_
  cases d <;> first | rfl | skip
  all_goals
    rename_i ds
    unfold tup_ guardO
    dsimp only
    cases decide (ds.length = l.length) <;> rfl
theorem s_par2 (i j : Nat) (a b : E) {K : Kt Oc β} : @bnI _ _ (xS Φ (.par2 i j a b) ρ) K = (@bnI _ _ (xF Φ a ρ) ⟨fun r1 => (@bnI _ _ (xF Φ b r1.2) ⟨fun r2 => K.f (.nx ((r2.2.set i r1.1).set j r2.1))⟩)⟩) := by
  unfold bnI; rw [xS]; simp only [Option.bind_assoc, Option.bind_map, Function.comp_def]
theorem s_par3 (i j k : Nat) (a b c : E) {K : Kt Oc β} : @bnI _ _ (xS Φ (.par3 i j k a b c) ρ) K = (@bnI _ _ (xF Φ a ρ) ⟨fun r1 => (@bnI _ _ (xF Φ b r1.2) ⟨fun r2 => (@bnI _ _ (xF Φ c r2.2) ⟨fun r3 => K.f (.nx (((r3.2.set i r1.1).set j r2.1).set k r3.1))⟩)⟩)⟩) := by
  unfold bnI; rw [xS]; simp only [Option.bind_assoc, Option.bind_map, Function.comp_def]
theorem s_put (i : Nat) (k e : E) {K : Kt Oc β} : @bnI _ _ (xS Φ (.put i k e) ρ) K = (@bnI _ _ (xE Φ e ρ) ⟨fun r1 => (@bnI _ _ (owAt i r1.2.2) ⟨fun _ => (@bnI _ _ (xE Φ k r1.2.2) ⟨fun r2 => (@bnI _ _ (cur r1.2.1 r1.1 r2.2.2) ⟨fun d => (@bnI _ _ (owAt i (frz r1.2.1 r2.2.2)) ⟨fun c => (@bnI _ _ (stD c r2.1 d) ⟨fun c => K.f (.nx ((frz r1.2.1 r2.2.2).set i (.ow c)))⟩)⟩)⟩)⟩)⟩)⟩) := by
  unfold bnI; rw [xS]
  refine (Option.bind_assoc ..).trans (bcg fun r1 => ?_)
  show (match r1.2.2[i]? with
    | some (.ow _) => _
    | _ => none : Option Oc).bind _ = (owAt i r1.2.2).bind _
  unfold owAt
  cases r1.2.2[i]? with
  | none => rfl
  | some y =>
    cases y <;> first | rfl | skip
    refine (Option.bind_assoc ..).trans (bcg fun r2 => (Option.bind_assoc ..).trans (bcg fun d => ?_))
    show (match (frz r1.2.1 r2.2.2)[i]? with
      | some (.ow c) => _
      | _ => none : Option Oc).bind _ = (owAt i (frz r1.2.1 r2.2.2)).bind _
    unfold owAt
    cases (frz r1.2.1 r2.2.2)[i]? with
    | none => rfl
    | some z => cases z <;> first | rfl | exact Option.bind_map ..
def shAt (i : Nat) (ρ : List Sl) : Option D := match ρ[i]? with
  | some (.sh d) => some d
  | _ => none

theorem s_swap (i m n : Nat) {K : Kt Oc β} : @bnI _ _ (xS Φ (.swap i (.loc m) (.loc n)) ρ) K = (@bnI _ _ (shAt m ρ) ⟨fun da => (@bnI _ _ (shAt n ρ) ⟨fun db => (@bnI _ _ (owAt i ρ) ⟨fun c => (@bnI _ _ (lst_ c) ⟨fun c => (@bnI _ _ (ixD (.lst c) db) ⟨fun x => (@bnI _ _ (ixD (.lst c) da) ⟨fun y => (@bnI _ _ (stD (.lst c) da x) ⟨fun c1 => (@bnI _ _ (stD c1 db y) ⟨fun c2 => K.f (.nx (ρ.set i (.ow c2)))⟩)⟩)⟩)⟩)⟩)⟩)⟩)⟩) := by
  unfold bnI; rw [xS]; unfold shAt owAt
  dsimp only
  cases ρ[m]? with
  | none => rfl
  | some x =>
    cases x <;> first | rfl | skip
    cases ρ[n]? with
    | none => rfl
    | some x =>
      cases x <;> first | rfl | skip
      cases ρ[i]? with
      | none => rfl
      | some x =>
        cases x with
        | ow d => cases d <;> first | rfl | simp only [Option.bind_assoc, Option.bind_map, Option.bind_some, Function.comp_def, lst_]
        | _ => rfl
theorem s_ex (e : E) {K : Kt Oc β} : @bnI _ _ (xS Φ (.ex e) ρ) K = (@bnI _ _ (xE Φ e ρ) ⟨fun r => K.f (.nx r.2.2)⟩) := by
  unfold bnI; rw [xS]; simp only [Option.bind_map, Function.comp_def]
theorem s_ret (e : E) {K : Kt Oc β} : @bnI _ _ (xS Φ (.ret e) ρ) K = (@bnI _ _ (xR Φ e ρ) ⟨fun r => K.f (.rt r.1 r.2)⟩) := by
  unfold bnI; rw [xS]; simp only [Option.bind_map, Function.comp_def]
theorem s_retN  {K : Kt Oc β} : @bnI _ _ (xS Φ .retN ρ) K = K.f (.rt (.sh .non) ρ) := by
  rfl
theorem s_pass  {K : Kt Oc β} : @bnI _ _ (xS Φ .pass ρ) K = K.f (.nx ρ) := by
  rfl
theorem s_ifs (c : E) (a b : Ss) {K : Kt Oc β} : @bnI _ _ (xS Φ (.ifs c a b) ρ) K = (@bnI _ _ (xE Φ c ρ) ⟨fun r => (@bnI _ _ (bool_ r.1) ⟨fun b0 => (@ifI _ b0 ⟨@bnI _ _ (xB Φ a r.2.2) K⟩ ⟨@bnI _ _ (xB Φ b r.2.2) K⟩)⟩)⟩) := by
  unfold bnI; rw [xS]
  rw [Option.bind_assoc]
  refine (asB_bn (xE Φ c ρ) (K := ⟨_⟩)).trans ?_
  unfold bnI
  refine bcg fun r => bcg fun c => ?_; cases c <;> rfl
def forSt (Φ : Nat → Option PF) (t : Tg) (b : Ss) (x : D) (ρ : List Sl) : Option Oc := (xTg t x ρ).bind fun ρ => xB Φ b ρ
theorem b_forSt (t : Tg) (b : Ss) (x : D) {K : Kt Oc β} : @bnI _ _ (forSt Φ t b x ρ) K = (@bnI _ _ (xTg t x ρ) ⟨fun ρ1 => @bnI _ _ (xB Φ b ρ1) K⟩) := bn_bind ..
def whlT (Φ : Nat → Option PF) (c : E) (ρ : List Sl) : Option (Bool × List Sl) := asB (xE Φ c ρ)
theorem b_whlT (c : E) {K : Kt (Bool × List Sl) β} : @bnI _ _ (whlT Φ c ρ) K = (@bnI _ _ (xE Φ c ρ) ⟨fun r => (@bnI _ _ (bool_ r.1) ⟨fun b => K.f (b, r.2.2)⟩)⟩) := asB_bn _

theorem s_for (t : Tg) (it : It) (b : Ss) {K : Kt Oc β} : @bnI _ _ (xS Φ (.for_ t it b) ρ) K = (@bnI _ _ (xI Φ it ρ) ⟨fun r => @bnI _ _ (xFor (forSt Φ t b) r.1 (frz r.2.1 r.2.2)) K⟩) := by
  unfold bnI; rw [xS]; rw [Option.bind_assoc]; rfl
theorem s_whl (c : E) (b : Ss) {K : Kt Oc β} : @bnI _ _ (xS Φ (.whl c b) ρ) K = @bnI _ _ (xWhl (whlT Φ c) (fun ρ => xB Φ b ρ) 1000 ρ) K := by
  unfold bnI; rw [xS]; rfl
class KO (β : Type) where
  nx : List Sl → Option β
  rt : Sl → List Sl → Option β
def ocI {β : Type} (r : Oc) [K : KO β] : Option β := match r with
  | .nx ρ => K.nx ρ
  | .rt s ρ => K.rt s ρ
theorem oc_nx {ρ : List Sl} {K : KO β} : @ocI _ (.nx ρ) K = K.nx ρ := rfl
theorem oc_rt {s : Sl} {ρ : List Sl} {K : KO β} : @ocI _ (.rt s ρ) K = K.rt s ρ := rfl

theorem b_cons (s : S) (ss : Ss) {K : Kt Oc β} : @bnI _ _ (xB Φ (.cons s ss) ρ) K = (@bnI _ _ (xS Φ s ρ) ⟨fun r => (@ocI _ r ⟨fun ρ => @bnI _ _ (xB Φ ss ρ) K, fun s ρ => K.f (.rt s ρ)⟩)⟩) := by
  unfold bnI; rw [xB, Option.bind_assoc]; refine bcg fun r => ?_; cases r <;> rfl
theorem b_nil  {K : Kt Oc β} : @bnI _ _ (xB Φ .nil ρ) K = K.f (.nx ρ) := by
  rfl
end
section
variable {ρ : List Sl} {d : D}
theorem lo_s0 : loAt (0 : Nat) (.sh d :: ρ) = some (d, none) := rfl
theorem lo_o0 : loAt (0 : Nat) (.ow d :: ρ) = some (d, some 0) := rfl
theorem cu_s0 {e : D} : cur (some (0 : Nat)) e (.sh d :: ρ) = some d := rfl
theorem cu_o0 {e : D} : cur (some (0 : Nat)) e (.ow d :: ρ) = some d := rfl
theorem fr_s0 : frz (some (0 : Nat)) (.sh d :: ρ) = .sh d :: ρ := rfl
theorem fr_o0 : frz (some (0 : Nat)) (.ow d :: ρ) = .sh d :: ρ := rfl
theorem ow_o0 : owAt (0 : Nat) (.ow d :: ρ) = some d := rfl
theorem sh_s0 : shAt (0 : Nat) (.sh d :: ρ) = some d := rfl
theorem un_s0 : unAt (0 : Nat) (.sh d :: ρ) = some (.sh d, .sh d :: ρ) := rfl
theorem un_o0 : unAt (0 : Nat) (.ow d :: ρ) = some (.ow d, .un :: ρ) := rfl
theorem st_s0 {ρ2 : List Sl} : stillB (some (0 : Nat)) (.sh d :: ρ) (.sh d :: ρ2) = true := dEq_refl d
theorem st_o0 {ρ2 : List Sl} : stillB (some (0 : Nat)) (.ow d :: ρ) (.ow d :: ρ2) = true := dEq_refl d
theorem se_0 {z y : Sl} : (z :: ρ).set (0 : Nat) y = y :: ρ := rfl
theorem ba_0 {z : Sl} {l : List Nat} {ρ2 : List Sl} : back ((0 : Nat) :: l) (z :: ρ) ρ2 = (back l (z :: ρ) ρ2).set (0 : Nat) z := rfl
theorem lo_s1 {x0 : Sl} : loAt (1 : Nat) (x0 :: .sh d :: ρ) = some (d, none) := rfl
theorem lo_o1 {x0 : Sl} : loAt (1 : Nat) (x0 :: .ow d :: ρ) = some (d, some 1) := rfl
theorem cu_s1 {x0 : Sl} {e : D} : cur (some (1 : Nat)) e (x0 :: .sh d :: ρ) = some d := rfl
theorem cu_o1 {x0 : Sl} {e : D} : cur (some (1 : Nat)) e (x0 :: .ow d :: ρ) = some d := rfl
theorem fr_s1 {x0 : Sl} : frz (some (1 : Nat)) (x0 :: .sh d :: ρ) = x0 :: .sh d :: ρ := rfl
theorem fr_o1 {x0 : Sl} : frz (some (1 : Nat)) (x0 :: .ow d :: ρ) = x0 :: .sh d :: ρ := rfl
theorem ow_o1 {x0 : Sl} : owAt (1 : Nat) (x0 :: .ow d :: ρ) = some d := rfl
theorem sh_s1 {x0 : Sl} : shAt (1 : Nat) (x0 :: .sh d :: ρ) = some d := rfl
theorem un_s1 {x0 : Sl} : unAt (1 : Nat) (x0 :: .sh d :: ρ) = some (.sh d, x0 :: .sh d :: ρ) := rfl
theorem un_o1 {x0 : Sl} : unAt (1 : Nat) (x0 :: .ow d :: ρ) = some (.ow d, x0 :: .un :: ρ) := rfl
theorem st_s1 {x0 : Sl} {y0 : Sl} {ρ2 : List Sl} : stillB (some (1 : Nat)) (x0 :: .sh d :: ρ) (y0 :: .sh d :: ρ2) = true := dEq_refl d
theorem st_o1 {x0 : Sl} {y0 : Sl} {ρ2 : List Sl} : stillB (some (1 : Nat)) (x0 :: .ow d :: ρ) (y0 :: .ow d :: ρ2) = true := dEq_refl d
theorem se_1 {x0 : Sl} {z y : Sl} : (x0 :: z :: ρ).set (1 : Nat) y = x0 :: y :: ρ := rfl
theorem ba_1 {x0 : Sl} {z : Sl} {l : List Nat} {ρ2 : List Sl} : back ((1 : Nat) :: l) (x0 :: z :: ρ) ρ2 = (back l (x0 :: z :: ρ) ρ2).set (1 : Nat) z := rfl
theorem lo_s2 {x0 x1 : Sl} : loAt (2 : Nat) (x0 :: x1 :: .sh d :: ρ) = some (d, none) := rfl
theorem lo_o2 {x0 x1 : Sl} : loAt (2 : Nat) (x0 :: x1 :: .ow d :: ρ) = some (d, some 2) := rfl
theorem cu_s2 {x0 x1 : Sl} {e : D} : cur (some (2 : Nat)) e (x0 :: x1 :: .sh d :: ρ) = some d := rfl
theorem cu_o2 {x0 x1 : Sl} {e : D} : cur (some (2 : Nat)) e (x0 :: x1 :: .ow d :: ρ) = some d := rfl
theorem fr_s2 {x0 x1 : Sl} : frz (some (2 : Nat)) (x0 :: x1 :: .sh d :: ρ) = x0 :: x1 :: .sh d :: ρ := rfl
theorem fr_o2 {x0 x1 : Sl} : frz (some (2 : Nat)) (x0 :: x1 :: .ow d :: ρ) = x0 :: x1 :: .sh d :: ρ := rfl
theorem ow_o2 {x0 x1 : Sl} : owAt (2 : Nat) (x0 :: x1 :: .ow d :: ρ) = some d := rfl
theorem sh_s2 {x0 x1 : Sl} : shAt (2 : Nat) (x0 :: x1 :: .sh d :: ρ) = some d := rfl
theorem un_s2 {x0 x1 : Sl} : unAt (2 : Nat) (x0 :: x1 :: .sh d :: ρ) = some (.sh d, x0 :: x1 :: .sh d :: ρ) := rfl
theorem un_o2 {x0 x1 : Sl} : unAt (2 : Nat) (x0 :: x1 :: .ow d :: ρ) = some (.ow d, x0 :: x1 :: .un :: ρ) := rfl
theorem st_s2 {x0 x1 : Sl} {y0 y1 : Sl} {ρ2 : List Sl} : stillB (some (2 : Nat)) (x0 :: x1 :: .sh d :: ρ) (y0 :: y1 :: .sh d :: ρ2) = true := dEq_refl d
theorem st_o2 {x0 x1 : Sl} {y0 y1 : Sl} {ρ2 : List Sl} : stillB (some (2 : Nat)) (x0 :: x1 :: .ow d :: ρ) (y0 :: y1 :: .ow d :: ρ2) = true := dEq_refl d
theorem se_2 {x0 x1 : Sl} {z y : Sl} : (x0 :: x1 :: z :: ρ).set (2 : Nat) y = x0 :: x1 :: y :: ρ := rfl
theorem ba_2 {x0 x1 : Sl} {z : Sl} {l : List Nat} {ρ2 : List Sl} : back ((2 : Nat) :: l) (x0 :: x1 :: z :: ρ) ρ2 = (back l (x0 :: x1 :: z :: ρ) ρ2).set (2 : Nat) z := rfl
theorem lo_s3 {x0 x1 x2 : Sl} : loAt (3 : Nat) (x0 :: x1 :: x2 :: .sh d :: ρ) = some (d, none) := rfl
theorem lo_o3 {x0 x1 x2 : Sl} : loAt (3 : Nat) (x0 :: x1 :: x2 :: .ow d :: ρ) = some (d, some 3) := rfl
theorem cu_s3 {x0 x1 x2 : Sl} {e : D} : cur (some (3 : Nat)) e (x0 :: x1 :: x2 :: .sh d :: ρ) = some d := rfl
theorem cu_o3 {x0 x1 x2 : Sl} {e : D} : cur (some (3 : Nat)) e (x0 :: x1 :: x2 :: .ow d :: ρ) = some d := rfl
theorem fr_s3 {x0 x1 x2 : Sl} : frz (some (3 : Nat)) (x0 :: x1 :: x2 :: .sh d :: ρ) = x0 :: x1 :: x2 :: .sh d :: ρ := rfl
theorem fr_o3 {x0 x1 x2 : Sl} : frz (some (3 : Nat)) (x0 :: x1 :: x2 :: .ow d :: ρ) = x0 :: x1 :: x2 :: .sh d :: ρ := rfl
theorem ow_o3 {x0 x1 x2 : Sl} : owAt (3 : Nat) (x0 :: x1 :: x2 :: .ow d :: ρ) = some d := rfl
theorem sh_s3 {x0 x1 x2 : Sl} : shAt (3 : Nat) (x0 :: x1 :: x2 :: .sh d :: ρ) = some d := rfl
theorem un_s3 {x0 x1 x2 : Sl} : unAt (3 : Nat) (x0 :: x1 :: x2 :: .sh d :: ρ) = some (.sh d, x0 :: x1 :: x2 :: .sh d :: ρ) := rfl
theorem un_o3 {x0 x1 x2 : Sl} : unAt (3 : Nat) (x0 :: x1 :: x2 :: .ow d :: ρ) = some (.ow d, x0 :: x1 :: x2 :: .un :: ρ) := rfl
theorem st_s3 {x0 x1 x2 : Sl} {y0 y1 y2 : Sl} {ρ2 : List Sl} : stillB (some (3 : Nat)) (x0 :: x1 :: x2 :: .sh d :: ρ) (y0 :: y1 :: y2 :: .sh d :: ρ2) = true := dEq_refl d
theorem st_o3 {x0 x1 x2 : Sl} {y0 y1 y2 : Sl} {ρ2 : List Sl} : stillB (some (3 : Nat)) (x0 :: x1 :: x2 :: .ow d :: ρ) (y0 :: y1 :: y2 :: .ow d :: ρ2) = true := dEq_refl d
theorem se_3 {x0 x1 x2 : Sl} {z y : Sl} : (x0 :: x1 :: x2 :: z :: ρ).set (3 : Nat) y = x0 :: x1 :: x2 :: y :: ρ := rfl
theorem ba_3 {x0 x1 x2 : Sl} {z : Sl} {l : List Nat} {ρ2 : List Sl} : back ((3 : Nat) :: l) (x0 :: x1 :: x2 :: z :: ρ) ρ2 = (back l (x0 :: x1 :: x2 :: z :: ρ) ρ2).set (3 : Nat) z := rfl
theorem lo_s4 {x0 x1 x2 x3 : Sl} : loAt (4 : Nat) (x0 :: x1 :: x2 :: x3 :: .sh d :: ρ) = some (d, none) := rfl
theorem lo_o4 {x0 x1 x2 x3 : Sl} : loAt (4 : Nat) (x0 :: x1 :: x2 :: x3 :: .ow d :: ρ) = some (d, some 4) := rfl
theorem cu_s4 {x0 x1 x2 x3 : Sl} {e : D} : cur (some (4 : Nat)) e (x0 :: x1 :: x2 :: x3 :: .sh d :: ρ) = some d := rfl
theorem cu_o4 {x0 x1 x2 x3 : Sl} {e : D} : cur (some (4 : Nat)) e (x0 :: x1 :: x2 :: x3 :: .ow d :: ρ) = some d := rfl
theorem fr_s4 {x0 x1 x2 x3 : Sl} : frz (some (4 : Nat)) (x0 :: x1 :: x2 :: x3 :: .sh d :: ρ) = x0 :: x1 :: x2 :: x3 :: .sh d :: ρ := rfl
theorem fr_o4 {x0 x1 x2 x3 : Sl} : frz (some (4 : Nat)) (x0 :: x1 :: x2 :: x3 :: .ow d :: ρ) = x0 :: x1 :: x2 :: x3 :: .sh d :: ρ := rfl
theorem ow_o4 {x0 x1 x2 x3 : Sl} : owAt (4 : Nat) (x0 :: x1 :: x2 :: x3 :: .ow d :: ρ) = some d := rfl
theorem sh_s4 {x0 x1 x2 x3 : Sl} : shAt (4 : Nat) (x0 :: x1 :: x2 :: x3 :: .sh d :: ρ) = some d := rfl
theorem un_s4 {x0 x1 x2 x3 : Sl} : unAt (4 : Nat) (x0 :: x1 :: x2 :: x3 :: .sh d :: ρ) = some (.sh d, x0 :: x1 :: x2 :: x3 :: .sh d :: ρ) := rfl
theorem un_o4 {x0 x1 x2 x3 : Sl} : unAt (4 : Nat) (x0 :: x1 :: x2 :: x3 :: .ow d :: ρ) = some (.ow d, x0 :: x1 :: x2 :: x3 :: .un :: ρ) := rfl
theorem st_s4 {x0 x1 x2 x3 : Sl} {y0 y1 y2 y3 : Sl} {ρ2 : List Sl} : stillB (some (4 : Nat)) (x0 :: x1 :: x2 :: x3 :: .sh d :: ρ) (y0 :: y1 :: y2 :: y3 :: .sh d :: ρ2) = true := dEq_refl d
theorem st_o4 {x0 x1 x2 x3 : Sl} {y0 y1 y2 y3 : Sl} {ρ2 : List Sl} : stillB (some (4 : Nat)) (x0 :: x1 :: x2 :: x3 :: .ow d :: ρ) (y0 :: y1 :: y2 :: y3 :: .ow d :: ρ2) = true := dEq_refl d
theorem se_4 {x0 x1 x2 x3 : Sl} {z y : Sl} : (x0 :: x1 :: x2 :: x3 :: z :: ρ).set (4 : Nat) y = x0 :: x1 :: x2 :: x3 :: y :: ρ := rfl
theorem ba_4 {x0 x1 x2 x3 : Sl} {z : Sl} {l : List Nat} {ρ2 : List Sl} : back ((4 : Nat) :: l) (x0 :: x1 :: x2 :: x3 :: z :: ρ) ρ2 = (back l (x0 :: x1 :: x2 :: x3 :: z :: ρ) ρ2).set (4 : Nat) z := rfl
theorem lo_s5 {x0 x1 x2 x3 x4 : Sl} : loAt (5 : Nat) (x0 :: x1 :: x2 :: x3 :: x4 :: .sh d :: ρ) = some (d, none) := rfl
theorem lo_o5 {x0 x1 x2 x3 x4 : Sl} : loAt (5 : Nat) (x0 :: x1 :: x2 :: x3 :: x4 :: .ow d :: ρ) = some (d, some 5) := rfl
theorem cu_s5 {x0 x1 x2 x3 x4 : Sl} {e : D} : cur (some (5 : Nat)) e (x0 :: x1 :: x2 :: x3 :: x4 :: .sh d :: ρ) = some d := rfl
theorem cu_o5 {x0 x1 x2 x3 x4 : Sl} {e : D} : cur (some (5 : Nat)) e (x0 :: x1 :: x2 :: x3 :: x4 :: .ow d :: ρ) = some d := rfl
theorem fr_s5 {x0 x1 x2 x3 x4 : Sl} : frz (some (5 : Nat)) (x0 :: x1 :: x2 :: x3 :: x4 :: .sh d :: ρ) = x0 :: x1 :: x2 :: x3 :: x4 :: .sh d :: ρ := rfl
theorem fr_o5 {x0 x1 x2 x3 x4 : Sl} : frz (some (5 : Nat)) (x0 :: x1 :: x2 :: x3 :: x4 :: .ow d :: ρ) = x0 :: x1 :: x2 :: x3 :: x4 :: .sh d :: ρ := rfl
theorem ow_o5 {x0 x1 x2 x3 x4 : Sl} : owAt (5 : Nat) (x0 :: x1 :: x2 :: x3 :: x4 :: .ow d :: ρ) = some d := rfl
theorem sh_s5 {x0 x1 x2 x3 x4 : Sl} : shAt (5 : Nat) (x0 :: x1 :: x2 :: x3 :: x4 :: .sh d :: ρ) = some d := rfl
theorem un_s5 {x0 x1 x2 x3 x4 : Sl} : unAt (5 : Nat) (x0 :: x1 :: x2 :: x3 :: x4 :: .sh d :: ρ) = some (.sh d, x0 :: x1 :: x2 :: x3 :: x4 :: .sh d :: ρ) := rfl
theorem un_o5 {x0 x1 x2 x3 x4 : Sl} : unAt (5 : Nat) (x0 :: x1 :: x2 :: x3 :: x4 :: .ow d :: ρ) = some (.ow d, x0 :: x1 :: x2 :: x3 :: x4 :: .un :: ρ) := rfl
theorem st_s5 {x0 x1 x2 x3 x4 : Sl} {y0 y1 y2 y3 y4 : Sl} {ρ2 : List Sl} : stillB (some (5 : Nat)) (x0 :: x1 :: x2 :: x3 :: x4 :: .sh d :: ρ) (y0 :: y1 :: y2 :: y3 :: y4 :: .sh d :: ρ2) = true := dEq_refl d
theorem st_o5 {x0 x1 x2 x3 x4 : Sl} {y0 y1 y2 y3 y4 : Sl} {ρ2 : List Sl} : stillB (some (5 : Nat)) (x0 :: x1 :: x2 :: x3 :: x4 :: .ow d :: ρ) (y0 :: y1 :: y2 :: y3 :: y4 :: .ow d :: ρ2) = true := dEq_refl d
theorem se_5 {x0 x1 x2 x3 x4 : Sl} {z y : Sl} : (x0 :: x1 :: x2 :: x3 :: x4 :: z :: ρ).set (5 : Nat) y = x0 :: x1 :: x2 :: x3 :: x4 :: y :: ρ := rfl
theorem ba_5 {x0 x1 x2 x3 x4 : Sl} {z : Sl} {l : List Nat} {ρ2 : List Sl} : back ((5 : Nat) :: l) (x0 :: x1 :: x2 :: x3 :: x4 :: z :: ρ) ρ2 = (back l (x0 :: x1 :: x2 :: x3 :: x4 :: z :: ρ) ρ2).set (5 : Nat) z := rfl
theorem lo_s6 {x0 x1 x2 x3 x4 x5 : Sl} : loAt (6 : Nat) (x0 :: x1 :: x2 :: x3 :: x4 :: x5 :: .sh d :: ρ) = some (d, none) := rfl
theorem lo_o6 {x0 x1 x2 x3 x4 x5 : Sl} : loAt (6 : Nat) (x0 :: x1 :: x2 :: x3 :: x4 :: x5 :: .ow d :: ρ) = some (d, some 6) := rfl
theorem cu_s6 {x0 x1 x2 x3 x4 x5 : Sl} {e : D} : cur (some (6 : Nat)) e (x0 :: x1 :: x2 :: x3 :: x4 :: x5 :: .sh d :: ρ) = some d := rfl
theorem cu_o6 {x0 x1 x2 x3 x4 x5 : Sl} {e : D} : cur (some (6 : Nat)) e (x0 :: x1 :: x2 :: x3 :: x4 :: x5 :: .ow d :: ρ) = some d := rfl
theorem fr_s6 {x0 x1 x2 x3 x4 x5 : Sl} : frz (some (6 : Nat)) (x0 :: x1 :: x2 :: x3 :: x4 :: x5 :: .sh d :: ρ) = x0 :: x1 :: x2 :: x3 :: x4 :: x5 :: .sh d :: ρ := rfl
theorem fr_o6 {x0 x1 x2 x3 x4 x5 : Sl} : frz (some (6 : Nat)) (x0 :: x1 :: x2 :: x3 :: x4 :: x5 :: .ow d :: ρ) = x0 :: x1 :: x2 :: x3 :: x4 :: x5 :: .sh d :: ρ := rfl
theorem ow_o6 {x0 x1 x2 x3 x4 x5 : Sl} : owAt (6 : Nat) (x0 :: x1 :: x2 :: x3 :: x4 :: x5 :: .ow d :: ρ) = some d := rfl
theorem sh_s6 {x0 x1 x2 x3 x4 x5 : Sl} : shAt (6 : Nat) (x0 :: x1 :: x2 :: x3 :: x4 :: x5 :: .sh d :: ρ) = some d := rfl
theorem un_s6 {x0 x1 x2 x3 x4 x5 : Sl} : unAt (6 : Nat) (x0 :: x1 :: x2 :: x3 :: x4 :: x5 :: .sh d :: ρ) = some (.sh d, x0 :: x1 :: x2 :: x3 :: x4 :: x5 :: .sh d :: ρ) := rfl
theorem un_o6 {x0 x1 x2 x3 x4 x5 : Sl} : unAt (6 : Nat) (x0 :: x1 :: x2 :: x3 :: x4 :: x5 :: .ow d :: ρ) = some (.ow d, x0 :: x1 :: x2 :: x3 :: x4 :: x5 :: .un :: ρ) := rfl
theorem st_s6 {x0 x1 x2 x3 x4 x5 : Sl} {y0 y1 y2 y3 y4 y5 : Sl} {ρ2 : List Sl} : stillB (some (6 : Nat)) (x0 :: x1 :: x2 :: x3 :: x4 :: x5 :: .sh d :: ρ) (y0 :: y1 :: y2 :: y3 :: y4 :: y5 :: .sh d :: ρ2) = true := dEq_refl d
theorem st_o6 {x0 x1 x2 x3 x4 x5 : Sl} {y0 y1 y2 y3 y4 y5 : Sl} {ρ2 : List Sl} : stillB (some (6 : Nat)) (x0 :: x1 :: x2 :: x3 :: x4 :: x5 :: .ow d :: ρ) (y0 :: y1 :: y2 :: y3 :: y4 :: y5 :: .ow d :: ρ2) = true := dEq_refl d
theorem se_6 {x0 x1 x2 x3 x4 x5 : Sl} {z y : Sl} : (x0 :: x1 :: x2 :: x3 :: x4 :: x5 :: z :: ρ).set (6 : Nat) y = x0 :: x1 :: x2 :: x3 :: x4 :: x5 :: y :: ρ := rfl
theorem ba_6 {x0 x1 x2 x3 x4 x5 : Sl} {z : Sl} {l : List Nat} {ρ2 : List Sl} : back ((6 : Nat) :: l) (x0 :: x1 :: x2 :: x3 :: x4 :: x5 :: z :: ρ) ρ2 = (back l (x0 :: x1 :: x2 :: x3 :: x4 :: x5 :: z :: ρ) ρ2).set (6 : Nat) z := rfl
theorem lo_s7 {x0 x1 x2 x3 x4 x5 x6 : Sl} : loAt (7 : Nat) (x0 :: x1 :: x2 :: x3 :: x4 :: x5 :: x6 :: .sh d :: ρ) = some (d, none) := rfl
theorem lo_o7 {x0 x1 x2 x3 x4 x5 x6 : Sl} : loAt (7 : Nat) (x0 :: x1 :: x2 :: x3 :: x4 :: x5 :: x6 :: .ow d :: ρ) = some (d, some 7) := rfl
theorem cu_s7 {x0 x1 x2 x3 x4 x5 x6 : Sl} {e : D} : cur (some (7 : Nat)) e (x0 :: x1 :: x2 :: x3 :: x4 :: x5 :: x6 :: .sh d :: ρ) = some d := rfl
theorem cu_o7 {x0 x1 x2 x3 x4 x5 x6 : Sl} {e : D} : cur (some (7 : Nat)) e (x0 :: x1 :: x2 :: x3 :: x4 :: x5 :: x6 :: .ow d :: ρ) = some d := rfl
theorem fr_s7 {x0 x1 x2 x3 x4 x5 x6 : Sl} : frz (some (7 : Nat)) (x0 :: x1 :: x2 :: x3 :: x4 :: x5 :: x6 :: .sh d :: ρ) = x0 :: x1 :: x2 :: x3 :: x4 :: x5 :: x6 :: .sh d :: ρ := rfl
theorem fr_o7 {x0 x1 x2 x3 x4 x5 x6 : Sl} : frz (some (7 : Nat)) (x0 :: x1 :: x2 :: x3 :: x4 :: x5 :: x6 :: .ow d :: ρ) = x0 :: x1 :: x2 :: x3 :: x4 :: x5 :: x6 :: .sh d :: ρ := rfl
theorem ow_o7 {x0 x1 x2 x3 x4 x5 x6 : Sl} : owAt (7 : Nat) (x0 :: x1 :: x2 :: x3 :: x4 :: x5 :: x6 :: .ow d :: ρ) = some d := rfl
theorem sh_s7 {x0 x1 x2 x3 x4 x5 x6 : Sl} : shAt (7 : Nat) (x0 :: x1 :: x2 :: x3 :: x4 :: x5 :: x6 :: .sh d :: ρ) = some d := rfl
theorem un_s7 {x0 x1 x2 x3 x4 x5 x6 : Sl} : unAt (7 : Nat) (x0 :: x1 :: x2 :: x3 :: x4 :: x5 :: x6 :: .sh d :: ρ) = some (.sh d, x0 :: x1 :: x2 :: x3 :: x4 :: x5 :: x6 :: .sh d :: ρ) := rfl
theorem un_o7 {x0 x1 x2 x3 x4 x5 x6 : Sl} : unAt (7 : Nat) (x0 :: x1 :: x2 :: x3 :: x4 :: x5 :: x6 :: .ow d :: ρ) = some (.ow d, x0 :: x1 :: x2 :: x3 :: x4 :: x5 :: x6 :: .un :: ρ) := rfl
theorem st_s7 {x0 x1 x2 x3 x4 x5 x6 : Sl} {y0 y1 y2 y3 y4 y5 y6 : Sl} {ρ2 : List Sl} : stillB (some (7 : Nat)) (x0 :: x1 :: x2 :: x3 :: x4 :: x5 :: x6 :: .sh d :: ρ) (y0 :: y1 :: y2 :: y3 :: y4 :: y5 :: y6 :: .sh d :: ρ2) = true := dEq_refl d
theorem st_o7 {x0 x1 x2 x3 x4 x5 x6 : Sl} {y0 y1 y2 y3 y4 y5 y6 : Sl} {ρ2 : List Sl} : stillB (some (7 : Nat)) (x0 :: x1 :: x2 :: x3 :: x4 :: x5 :: x6 :: .ow d :: ρ) (y0 :: y1 :: y2 :: y3 :: y4 :: y5 :: y6 :: .ow d :: ρ2) = true := dEq_refl d
theorem se_7 {x0 x1 x2 x3 x4 x5 x6 : Sl} {z y : Sl} : (x0 :: x1 :: x2 :: x3 :: x4 :: x5 :: x6 :: z :: ρ).set (7 : Nat) y = x0 :: x1 :: x2 :: x3 :: x4 :: x5 :: x6 :: y :: ρ := rfl
theorem ba_7 {x0 x1 x2 x3 x4 x5 x6 : Sl} {z : Sl} {l : List Nat} {ρ2 : List Sl} : back ((7 : Nat) :: l) (x0 :: x1 :: x2 :: x3 :: x4 :: x5 :: x6 :: z :: ρ) ρ2 = (back l (x0 :: x1 :: x2 :: x3 :: x4 :: x5 :: x6 :: z :: ρ) ρ2).set (7 : Nat) z := rfl
theorem lo_s8 {x0 x1 x2 x3 x4 x5 x6 x7 : Sl} : loAt (8 : Nat) (x0 :: x1 :: x2 :: x3 :: x4 :: x5 :: x6 :: x7 :: .sh d :: ρ) = some (d, none) := rfl
theorem lo_o8 {x0 x1 x2 x3 x4 x5 x6 x7 : Sl} : loAt (8 : Nat) (x0 :: x1 :: x2 :: x3 :: x4 :: x5 :: x6 :: x7 :: .ow d :: ρ) = some (d, some 8) := rfl
theorem cu_s8 {x0 x1 x2 x3 x4 x5 x6 x7 : Sl} {e : D} : cur (some (8 : Nat)) e (x0 :: x1 :: x2 :: x3 :: x4 :: x5 :: x6 :: x7 :: .sh d :: ρ) = some d := rfl
theorem cu_o8 {x0 x1 x2 x3 x4 x5 x6 x7 : Sl} {e : D} : cur (some (8 : Nat)) e (x0 :: x1 :: x2 :: x3 :: x4 :: x5 :: x6 :: x7 :: .ow d :: ρ) = some d := rfl
theorem fr_s8 {x0 x1 x2 x3 x4 x5 x6 x7 : Sl} : frz (some (8 : Nat)) (x0 :: x1 :: x2 :: x3 :: x4 :: x5 :: x6 :: x7 :: .sh d :: ρ) = x0 :: x1 :: x2 :: x3 :: x4 :: x5 :: x6 :: x7 :: .sh d :: ρ := rfl
theorem fr_o8 {x0 x1 x2 x3 x4 x5 x6 x7 : Sl} : frz (some (8 : Nat)) (x0 :: x1 :: x2 :: x3 :: x4 :: x5 :: x6 :: x7 :: .ow d :: ρ) = x0 :: x1 :: x2 :: x3 :: x4 :: x5 :: x6 :: x7 :: .sh d :: ρ := rfl
theorem ow_o8 {x0 x1 x2 x3 x4 x5 x6 x7 : Sl} : owAt (8 : Nat) (x0 :: x1 :: x2 :: x3 :: x4 :: x5 :: x6 :: x7 :: .ow d :: ρ) = some d := rfl
theorem sh_s8 {x0 x1 x2 x3 x4 x5 x6 x7 : Sl} : shAt (8 : Nat) (x0 :: x1 :: x2 :: x3 :: x4 :: x5 :: x6 :: x7 :: .sh d :: ρ) = some d := rfl
theorem un_s8 {x0 x1 x2 x3 x4 x5 x6 x7 : Sl} : unAt (8 : Nat) (x0 :: x1 :: x2 :: x3 :: x4 :: x5 :: x6 :: x7 :: .sh d :: ρ) = some (.sh d, x0 :: x1 :: x2 :: x3 :: x4 :: x5 :: x6 :: x7 :: .sh d :: ρ) := rfl
theorem un_o8 {x0 x1 x2 x3 x4 x5 x6 x7 : Sl} : unAt (8 : Nat) (x0 :: x1 :: x2 :: x3 :: x4 :: x5 :: x6 :: x7 :: .ow d :: ρ) = some (.ow d, x0 :: x1 :: x2 :: x3 :: x4 :: x5 :: x6 :: x7 :: .un :: ρ) := rfl
theorem st_s8 {x0 x1 x2 x3 x4 x5 x6 x7 : Sl} {y0 y1 y2 y3 y4 y5 y6 y7 : Sl} {ρ2 : List Sl} : stillB (some (8 : Nat)) (x0 :: x1 :: x2 :: x3 :: x4 :: x5 :: x6 :: x7 :: .sh d :: ρ) (y0 :: y1 :: y2 :: y3 :: y4 :: y5 :: y6 :: y7 :: .sh d :: ρ2) = true := dEq_refl d
theorem st_o8 {x0 x1 x2 x3 x4 x5 x6 x7 : Sl} {y0 y1 y2 y3 y4 y5 y6 y7 : Sl} {ρ2 : List Sl} : stillB (some (8 : Nat)) (x0 :: x1 :: x2 :: x3 :: x4 :: x5 :: x6 :: x7 :: .ow d :: ρ) (y0 :: y1 :: y2 :: y3 :: y4 :: y5 :: y6 :: y7 :: .ow d :: ρ2) = true := dEq_refl d
theorem se_8 {x0 x1 x2 x3 x4 x5 x6 x7 : Sl} {z y : Sl} : (x0 :: x1 :: x2 :: x3 :: x4 :: x5 :: x6 :: x7 :: z :: ρ).set (8 : Nat) y = x0 :: x1 :: x2 :: x3 :: x4 :: x5 :: x6 :: x7 :: y :: ρ := rfl
theorem ba_8 {x0 x1 x2 x3 x4 x5 x6 x7 : Sl} {z : Sl} {l : List Nat} {ρ2 : List Sl} : back ((8 : Nat) :: l) (x0 :: x1 :: x2 :: x3 :: x4 :: x5 :: x6 :: x7 :: z :: ρ) ρ2 = (back l (x0 :: x1 :: x2 :: x3 :: x4 :: x5 :: x6 :: x7 :: z :: ρ) ρ2).set (8 : Nat) z := rfl
theorem lo_s9 {x0 x1 x2 x3 x4 x5 x6 x7 x8 : Sl} : loAt (9 : Nat) (x0 :: x1 :: x2 :: x3 :: x4 :: x5 :: x6 :: x7 :: x8 :: .sh d :: ρ) = some (d, none) := rfl
theorem lo_o9 {x0 x1 x2 x3 x4 x5 x6 x7 x8 : Sl} : loAt (9 : Nat) (x0 :: x1 :: x2 :: x3 :: x4 :: x5 :: x6 :: x7 :: x8 :: .ow d :: ρ) = some (d, some 9) := rfl
theorem cu_s9 {x0 x1 x2 x3 x4 x5 x6 x7 x8 : Sl} {e : D} : cur (some (9 : Nat)) e (x0 :: x1 :: x2 :: x3 :: x4 :: x5 :: x6 :: x7 :: x8 :: .sh d :: ρ) = some d := rfl
theorem cu_o9 {x0 x1 x2 x3 x4 x5 x6 x7 x8 : Sl} {e : D} : cur (some (9 : Nat)) e (x0 :: x1 :: x2 :: x3 :: x4 :: x5 :: x6 :: x7 :: x8 :: .ow d :: ρ) = some d := rfl
theorem fr_s9 {x0 x1 x2 x3 x4 x5 x6 x7 x8 : Sl} : frz (some (9 : Nat)) (x0 :: x1 :: x2 :: x3 :: x4 :: x5 :: x6 :: x7 :: x8 :: .sh d :: ρ) = x0 :: x1 :: x2 :: x3 :: x4 :: x5 :: x6 :: x7 :: x8 :: .sh d :: ρ := rfl
theorem fr_o9 {x0 x1 x2 x3 x4 x5 x6 x7 x8 : Sl} : frz (some (9 : Nat)) (x0 :: x1 :: x2 :: x3 :: x4 :: x5 :: x6 :: x7 :: x8 :: .ow d :: ρ) = x0 :: x1 :: x2 :: x3 :: x4 :: x5 :: x6 :: x7 :: x8 :: .sh d :: ρ := rfl
theorem ow_o9 {x0 x1 x2 x3 x4 x5 x6 x7 x8 : Sl} : owAt (9 : Nat) (x0 :: x1 :: x2 :: x3 :: x4 :: x5 :: x6 :: x7 :: x8 :: .ow d :: ρ) = some d := rfl
theorem sh_s9 {x0 x1 x2 x3 x4 x5 x6 x7 x8 : Sl} : shAt (9 : Nat) (x0 :: x1 :: x2 :: x3 :: x4 :: x5 :: x6 :: x7 :: x8 :: .sh d :: ρ) = some d := rfl
theorem un_s9 {x0 x1 x2 x3 x4 x5 x6 x7 x8 : Sl} : unAt (9 : Nat) (x0 :: x1 :: x2 :: x3 :: x4 :: x5 :: x6 :: x7 :: x8 :: .sh d :: ρ) = some (.sh d, x0 :: x1 :: x2 :: x3 :: x4 :: x5 :: x6 :: x7 :: x8 :: .sh d :: ρ) := rfl
theorem un_o9 {x0 x1 x2 x3 x4 x5 x6 x7 x8 : Sl} : unAt (9 : Nat) (x0 :: x1 :: x2 :: x3 :: x4 :: x5 :: x6 :: x7 :: x8 :: .ow d :: ρ) = some (.ow d, x0 :: x1 :: x2 :: x3 :: x4 :: x5 :: x6 :: x7 :: x8 :: .un :: ρ) := rfl
theorem st_s9 {x0 x1 x2 x3 x4 x5 x6 x7 x8 : Sl} {y0 y1 y2 y3 y4 y5 y6 y7 y8 : Sl} {ρ2 : List Sl} : stillB (some (9 : Nat)) (x0 :: x1 :: x2 :: x3 :: x4 :: x5 :: x6 :: x7 :: x8 :: .sh d :: ρ) (y0 :: y1 :: y2 :: y3 :: y4 :: y5 :: y6 :: y7 :: y8 :: .sh d :: ρ2) = true := dEq_refl d
theorem st_o9 {x0 x1 x2 x3 x4 x5 x6 x7 x8 : Sl} {y0 y1 y2 y3 y4 y5 y6 y7 y8 : Sl} {ρ2 : List Sl} : stillB (some (9 : Nat)) (x0 :: x1 :: x2 :: x3 :: x4 :: x5 :: x6 :: x7 :: x8 :: .ow d :: ρ) (y0 :: y1 :: y2 :: y3 :: y4 :: y5 :: y6 :: y7 :: y8 :: .ow d :: ρ2) = true := dEq_refl d
theorem se_9 {x0 x1 x2 x3 x4 x5 x6 x7 x8 : Sl} {z y : Sl} : (x0 :: x1 :: x2 :: x3 :: x4 :: x5 :: x6 :: x7 :: x8 :: z :: ρ).set (9 : Nat) y = x0 :: x1 :: x2 :: x3 :: x4 :: x5 :: x6 :: x7 :: x8 :: y :: ρ := rfl
theorem ba_9 {x0 x1 x2 x3 x4 x5 x6 x7 x8 : Sl} {z : Sl} {l : List Nat} {ρ2 : List Sl} : back ((9 : Nat) :: l) (x0 :: x1 :: x2 :: x3 :: x4 :: x5 :: x6 :: x7 :: x8 :: z :: ρ) ρ2 = (back l (x0 :: x1 :: x2 :: x3 :: x4 :: x5 :: x6 :: x7 :: x8 :: z :: ρ) ρ2).set (9 : Nat) z := rfl
theorem lo_s10 {x0 x1 x2 x3 x4 x5 x6 x7 x8 x9 : Sl} : loAt (10 : Nat) (x0 :: x1 :: x2 :: x3 :: x4 :: x5 :: x6 :: x7 :: x8 :: x9 :: .sh d :: ρ) = some (d, none) := rfl
theorem lo_o10 {x0 x1 x2 x3 x4 x5 x6 x7 x8 x9 : Sl} : loAt (10 : Nat) (x0 :: x1 :: x2 :: x3 :: x4 :: x5 :: x6 :: x7 :: x8 :: x9 :: .ow d :: ρ) = some (d, some 10) := rfl
theorem cu_s10 {x0 x1 x2 x3 x4 x5 x6 x7 x8 x9 : Sl} {e : D} : cur (some (10 : Nat)) e (x0 :: x1 :: x2 :: x3 :: x4 :: x5 :: x6 :: x7 :: x8 :: x9 :: .sh d :: ρ) = some d := rfl
theorem cu_o10 {x0 x1 x2 x3 x4 x5 x6 x7 x8 x9 : Sl} {e : D} : cur (some (10 : Nat)) e (x0 :: x1 :: x2 :: x3 :: x4 :: x5 :: x6 :: x7 :: x8 :: x9 :: .ow d :: ρ) = some d := rfl
theorem fr_s10 {x0 x1 x2 x3 x4 x5 x6 x7 x8 x9 : Sl} : frz (some (10 : Nat)) (x0 :: x1 :: x2 :: x3 :: x4 :: x5 :: x6 :: x7 :: x8 :: x9 :: .sh d :: ρ) = x0 :: x1 :: x2 :: x3 :: x4 :: x5 :: x6 :: x7 :: x8 :: x9 :: .sh d :: ρ := rfl
theorem fr_o10 {x0 x1 x2 x3 x4 x5 x6 x7 x8 x9 : Sl} : frz (some (10 : Nat)) (x0 :: x1 :: x2 :: x3 :: x4 :: x5 :: x6 :: x7 :: x8 :: x9 :: .ow d :: ρ) = x0 :: x1 :: x2 :: x3 :: x4 :: x5 :: x6 :: x7 :: x8 :: x9 :: .sh d :: ρ := rfl
theorem ow_o10 {x0 x1 x2 x3 x4 x5 x6 x7 x8 x9 : Sl} : owAt (10 : Nat) (x0 :: x1 :: x2 :: x3 :: x4 :: x5 :: x6 :: x7 :: x8 :: x9 :: .ow d :: ρ) = some d := rfl
theorem sh_s10 {x0 x1 x2 x3 x4 x5 x6 x7 x8 x9 : Sl} : shAt (10 : Nat) (x0 :: x1 :: x2 :: x3 :: x4 :: x5 :: x6 :: x7 :: x8 :: x9 :: .sh d :: ρ) = some d := rfl
theorem un_s10 {x0 x1 x2 x3 x4 x5 x6 x7 x8 x9 : Sl} : unAt (10 : Nat) (x0 :: x1 :: x2 :: x3 :: x4 :: x5 :: x6 :: x7 :: x8 :: x9 :: .sh d :: ρ) = some (.sh d, x0 :: x1 :: x2 :: x3 :: x4 :: x5 :: x6 :: x7 :: x8 :: x9 :: .sh d :: ρ) := rfl
theorem un_o10 {x0 x1 x2 x3 x4 x5 x6 x7 x8 x9 : Sl} : unAt (10 : Nat) (x0 :: x1 :: x2 :: x3 :: x4 :: x5 :: x6 :: x7 :: x8 :: x9 :: .ow d :: ρ) = some (.ow d, x0 :: x1 :: x2 :: x3 :: x4 :: x5 :: x6 :: x7 :: x8 :: x9 :: .un :: ρ) := rfl
theorem st_s10 {x0 x1 x2 x3 x4 x5 x6 x7 x8 x9 : Sl} {y0 y1 y2 y3 y4 y5 y6 y7 y8 y9 : Sl} {ρ2 : List Sl} : stillB (some (10 : Nat)) (x0 :: x1 :: x2 :: x3 :: x4 :: x5 :: x6 :: x7 :: x8 :: x9 :: .sh d :: ρ) (y0 :: y1 :: y2 :: y3 :: y4 :: y5 :: y6 :: y7 :: y8 :: y9 :: .sh d :: ρ2) = true := dEq_refl d
theorem st_o10 {x0 x1 x2 x3 x4 x5 x6 x7 x8 x9 : Sl} {y0 y1 y2 y3 y4 y5 y6 y7 y8 y9 : Sl} {ρ2 : List Sl} : stillB (some (10 : Nat)) (x0 :: x1 :: x2 :: x3 :: x4 :: x5 :: x6 :: x7 :: x8 :: x9 :: .ow d :: ρ) (y0 :: y1 :: y2 :: y3 :: y4 :: y5 :: y6 :: y7 :: y8 :: y9 :: .ow d :: ρ2) = true := dEq_refl d
theorem se_10 {x0 x1 x2 x3 x4 x5 x6 x7 x8 x9 : Sl} {z y : Sl} : (x0 :: x1 :: x2 :: x3 :: x4 :: x5 :: x6 :: x7 :: x8 :: x9 :: z :: ρ).set (10 : Nat) y = x0 :: x1 :: x2 :: x3 :: x4 :: x5 :: x6 :: x7 :: x8 :: x9 :: y :: ρ := rfl
theorem ba_10 {x0 x1 x2 x3 x4 x5 x6 x7 x8 x9 : Sl} {z : Sl} {l : List Nat} {ρ2 : List Sl} : back ((10 : Nat) :: l) (x0 :: x1 :: x2 :: x3 :: x4 :: x5 :: x6 :: x7 :: x8 :: x9 :: z :: ρ) ρ2 = (back l (x0 :: x1 :: x2 :: x3 :: x4 :: x5 :: x6 :: x7 :: x8 :: x9 :: z :: ρ) ρ2).set (10 : Nat) z := rfl
theorem lo_s11 {x0 x1 x2 x3 x4 x5 x6 x7 x8 x9 x10 : Sl} : loAt (11 : Nat) (x0 :: x1 :: x2 :: x3 :: x4 :: x5 :: x6 :: x7 :: x8 :: x9 :: x10 :: .sh d :: ρ) = some (d, none) := rfl
theorem lo_o11 {x0 x1 x2 x3 x4 x5 x6 x7 x8 x9 x10 : Sl} : loAt (11 : Nat) (x0 :: x1 :: x2 :: x3 :: x4 :: x5 :: x6 :: x7 :: x8 :: x9 :: x10 :: .ow d :: ρ) = some (d, some 11) := rfl
theorem cu_s11 {x0 x1 x2 x3 x4 x5 x6 x7 x8 x9 x10 : Sl} {e : D} : cur (some (11 : Nat)) e (x0 :: x1 :: x2 :: x3 :: x4 :: x5 :: x6 :: x7 :: x8 :: x9 :: x10 :: .sh d :: ρ) = some d := rfl
theorem cu_o11 {x0 x1 x2 x3 x4 x5 x6 x7 x8 x9 x10 : Sl} {e : D} : cur (some (11 : Nat)) e (x0 :: x1 :: x2 :: x3 :: x4 :: x5 :: x6 :: x7 :: x8 :: x9 :: x10 :: .ow d :: ρ) = some d := rfl
theorem fr_s11 {x0 x1 x2 x3 x4 x5 x6 x7 x8 x9 x10 : Sl} : frz (some (11 : Nat)) (x0 :: x1 :: x2 :: x3 :: x4 :: x5 :: x6 :: x7 :: x8 :: x9 :: x10 :: .sh d :: ρ) = x0 :: x1 :: x2 :: x3 :: x4 :: x5 :: x6 :: x7 :: x8 :: x9 :: x10 :: .sh d :: ρ := rfl
theorem fr_o11 {x0 x1 x2 x3 x4 x5 x6 x7 x8 x9 x10 : Sl} : frz (some (11 : Nat)) (x0 :: x1 :: x2 :: x3 :: x4 :: x5 :: x6 :: x7 :: x8 :: x9 :: x10 :: .ow d :: ρ) = x0 :: x1 :: x2 :: x3 :: x4 :: x5 :: x6 :: x7 :: x8 :: x9 :: x10 :: .sh d :: ρ := rfl
theorem ow_o11 {x0 x1 x2 x3 x4 x5 x6 x7 x8 x9 x10 : Sl} : owAt (11 : Nat) (x0 :: x1 :: x2 :: x3 :: x4 :: x5 :: x6 :: x7 :: x8 :: x9 :: x10 :: .ow d :: ρ) = some d := rfl
theorem sh_s11 {x0 x1 x2 x3 x4 x5 x6 x7 x8 x9 x10 : Sl} : shAt (11 : Nat) (x0 :: x1 :: x2 :: x3 :: x4 :: x5 :: x6 :: x7 :: x8 :: x9 :: x10 :: .sh d :: ρ) = some d := rfl
theorem un_s11 {x0 x1 x2 x3 x4 x5 x6 x7 x8 x9 x10 : Sl} : unAt (11 : Nat) (x0 :: x1 :: x2 :: x3 :: x4 :: x5 :: x6 :: x7 :: x8 :: x9 :: x10 :: .sh d :: ρ) = some (.sh d, x0 :: x1 :: x2 :: x3 :: x4 :: x5 :: x6 :: x7 :: x8 :: x9 :: x10 :: .sh d :: ρ) := rfl
theorem un_o11 {x0 x1 x2 x3 x4 x5 x6 x7 x8 x9 x10 : Sl} : unAt (11 : Nat) (x0 :: x1 :: x2 :: x3 :: x4 :: x5 :: x6 :: x7 :: x8 :: x9 :: x10 :: .ow d :: ρ) = some (.ow d, x0 :: x1 :: x2 :: x3 :: x4 :: x5 :: x6 :: x7 :: x8 :: x9 :: x10 :: .un :: ρ) := rfl
theorem st_s11 {x0 x1 x2 x3 x4 x5 x6 x7 x8 x9 x10 : Sl} {y0 y1 y2 y3 y4 y5 y6 y7 y8 y9 y10 : Sl} {ρ2 : List Sl} : stillB (some (11 : Nat)) (x0 :: x1 :: x2 :: x3 :: x4 :: x5 :: x6 :: x7 :: x8 :: x9 :: x10 :: .sh d :: ρ) (y0 :: y1 :: y2 :: y3 :: y4 :: y5 :: y6 :: y7 :: y8 :: y9 :: y10 :: .sh d :: ρ2) = true := dEq_refl d
theorem st_o11 {x0 x1 x2 x3 x4 x5 x6 x7 x8 x9 x10 : Sl} {y0 y1 y2 y3 y4 y5 y6 y7 y8 y9 y10 : Sl} {ρ2 : List Sl} : stillB (some (11 : Nat)) (x0 :: x1 :: x2 :: x3 :: x4 :: x5 :: x6 :: x7 :: x8 :: x9 :: x10 :: .ow d :: ρ) (y0 :: y1 :: y2 :: y3 :: y4 :: y5 :: y6 :: y7 :: y8 :: y9 :: y10 :: .ow d :: ρ2) = true := dEq_refl d
theorem se_11 {x0 x1 x2 x3 x4 x5 x6 x7 x8 x9 x10 : Sl} {z y : Sl} : (x0 :: x1 :: x2 :: x3 :: x4 :: x5 :: x6 :: x7 :: x8 :: x9 :: x10 :: z :: ρ).set (11 : Nat) y = x0 :: x1 :: x2 :: x3 :: x4 :: x5 :: x6 :: x7 :: x8 :: x9 :: x10 :: y :: ρ := rfl
theorem ba_11 {x0 x1 x2 x3 x4 x5 x6 x7 x8 x9 x10 : Sl} {z : Sl} {l : List Nat} {ρ2 : List Sl} : back ((11 : Nat) :: l) (x0 :: x1 :: x2 :: x3 :: x4 :: x5 :: x6 :: x7 :: x8 :: x9 :: x10 :: z :: ρ) ρ2 = (back l (x0 :: x1 :: x2 :: x3 :: x4 :: x5 :: x6 :: x7 :: x8 :: x9 :: x10 :: z :: ρ) ρ2).set (11 : Nat) z := rfl
theorem lo_s12 {x0 x1 x2 x3 x4 x5 x6 x7 x8 x9 x10 x11 : Sl} : loAt (12 : Nat) (x0 :: x1 :: x2 :: x3 :: x4 :: x5 :: x6 :: x7 :: x8 :: x9 :: x10 :: x11 :: .sh d :: ρ) = some (d, none) := rfl
theorem lo_o12 {x0 x1 x2 x3 x4 x5 x6 x7 x8 x9 x10 x11 : Sl} : loAt (12 : Nat) (x0 :: x1 :: x2 :: x3 :: x4 :: x5 :: x6 :: x7 :: x8 :: x9 :: x10 :: x11 :: .ow d :: ρ) = some (d, some 12) := rfl
theorem cu_s12 {x0 x1 x2 x3 x4 x5 x6 x7 x8 x9 x10 x11 : Sl} {e : D} : cur (some (12 : Nat)) e (x0 :: x1 :: x2 :: x3 :: x4 :: x5 :: x6 :: x7 :: x8 :: x9 :: x10 :: x11 :: .sh d :: ρ) = some d := rfl
theorem cu_o12 {x0 x1 x2 x3 x4 x5 x6 x7 x8 x9 x10 x11 : Sl} {e : D} : cur (some (12 : Nat)) e (x0 :: x1 :: x2 :: x3 :: x4 :: x5 :: x6 :: x7 :: x8 :: x9 :: x10 :: x11 :: .ow d :: ρ) = some d := rfl
theorem fr_s12 {x0 x1 x2 x3 x4 x5 x6 x7 x8 x9 x10 x11 : Sl} : frz (some (12 : Nat)) (x0 :: x1 :: x2 :: x3 :: x4 :: x5 :: x6 :: x7 :: x8 :: x9 :: x10 :: x11 :: .sh d :: ρ) = x0 :: x1 :: x2 :: x3 :: x4 :: x5 :: x6 :: x7 :: x8 :: x9 :: x10 :: x11 :: .sh d :: ρ := rfl
theorem fr_o12 {x0 x1 x2 x3 x4 x5 x6 x7 x8 x9 x10 x11 : Sl} : frz (some (12 : Nat)) (x0 :: x1 :: x2 :: x3 :: x4 :: x5 :: x6 :: x7 :: x8 :: x9 :: x10 :: x11 :: .ow d :: ρ) = x0 :: x1 :: x2 :: x3 :: x4 :: x5 :: x6 :: x7 :: x8 :: x9 :: x10 :: x11 :: .sh d :: ρ := rfl
theorem ow_o12 {x0 x1 x2 x3 x4 x5 x6 x7 x8 x9 x10 x11 : Sl} : owAt (12 : Nat) (x0 :: x1 :: x2 :: x3 :: x4 :: x5 :: x6 :: x7 :: x8 :: x9 :: x10 :: x11 :: .ow d :: ρ) = some d := rfl
theorem sh_s12 {x0 x1 x2 x3 x4 x5 x6 x7 x8 x9 x10 x11 : Sl} : shAt (12 : Nat) (x0 :: x1 :: x2 :: x3 :: x4 :: x5 :: x6 :: x7 :: x8 :: x9 :: x10 :: x11 :: .sh d :: ρ) = some d := rfl
theorem un_s12 {x0 x1 x2 x3 x4 x5 x6 x7 x8 x9 x10 x11 : Sl} : unAt (12 : Nat) (x0 :: x1 :: x2 :: x3 :: x4 :: x5 :: x6 :: x7 :: x8 :: x9 :: x10 :: x11 :: .sh d :: ρ) = some (.sh d, x0 :: x1 :: x2 :: x3 :: x4 :: x5 :: x6 :: x7 :: x8 :: x9 :: x10 :: x11 :: .sh d :: ρ) := rfl
theorem un_o12 {x0 x1 x2 x3 x4 x5 x6 x7 x8 x9 x10 x11 : Sl} : unAt (12 : Nat) (x0 :: x1 :: x2 :: x3 :: x4 :: x5 :: x6 :: x7 :: x8 :: x9 :: x10 :: x11 :: .ow d :: ρ) = some (.ow d, x0 :: x1 :: x2 :: x3 :: x4 :: x5 :: x6 :: x7 :: x8 :: x9 :: x10 :: x11 :: .un :: ρ) := rfl
theorem st_s12 {x0 x1 x2 x3 x4 x5 x6 x7 x8 x9 x10 x11 : Sl} {y0 y1 y2 y3 y4 y5 y6 y7 y8 y9 y10 y11 : Sl} {ρ2 : List Sl} : stillB (some (12 : Nat)) (x0 :: x1 :: x2 :: x3 :: x4 :: x5 :: x6 :: x7 :: x8 :: x9 :: x10 :: x11 :: .sh d :: ρ) (y0 :: y1 :: y2 :: y3 :: y4 :: y5 :: y6 :: y7 :: y8 :: y9 :: y10 :: y11 :: .sh d :: ρ2) = true := dEq_refl d
theorem st_o12 {x0 x1 x2 x3 x4 x5 x6 x7 x8 x9 x10 x11 : Sl} {y0 y1 y2 y3 y4 y5 y6 y7 y8 y9 y10 y11 : Sl} {ρ2 : List Sl} : stillB (some (12 : Nat)) (x0 :: x1 :: x2 :: x3 :: x4 :: x5 :: x6 :: x7 :: x8 :: x9 :: x10 :: x11 :: .ow d :: ρ) (y0 :: y1 :: y2 :: y3 :: y4 :: y5 :: y6 :: y7 :: y8 :: y9 :: y10 :: y11 :: .ow d :: ρ2) = true := dEq_refl d
theorem se_12 {x0 x1 x2 x3 x4 x5 x6 x7 x8 x9 x10 x11 : Sl} {z y : Sl} : (x0 :: x1 :: x2 :: x3 :: x4 :: x5 :: x6 :: x7 :: x8 :: x9 :: x10 :: x11 :: z :: ρ).set (12 : Nat) y = x0 :: x1 :: x2 :: x3 :: x4 :: x5 :: x6 :: x7 :: x8 :: x9 :: x10 :: x11 :: y :: ρ := rfl
theorem ba_12 {x0 x1 x2 x3 x4 x5 x6 x7 x8 x9 x10 x11 : Sl} {z : Sl} {l : List Nat} {ρ2 : List Sl} : back ((12 : Nat) :: l) (x0 :: x1 :: x2 :: x3 :: x4 :: x5 :: x6 :: x7 :: x8 :: x9 :: x10 :: x11 :: z :: ρ) ρ2 = (back l (x0 :: x1 :: x2 :: x3 :: x4 :: x5 :: x6 :: x7 :: x8 :: x9 :: x10 :: x11 :: z :: ρ) ρ2).set (12 : Nat) z := rfl
theorem lo_s13 {x0 x1 x2 x3 x4 x5 x6 x7 x8 x9 x10 x11 x12 : Sl} : loAt (13 : Nat) (x0 :: x1 :: x2 :: x3 :: x4 :: x5 :: x6 :: x7 :: x8 :: x9 :: x10 :: x11 :: x12 :: .sh d :: ρ) = some (d, none) := rfl
theorem lo_o13 {x0 x1 x2 x3 x4 x5 x6 x7 x8 x9 x10 x11 x12 : Sl} : loAt (13 : Nat) (x0 :: x1 :: x2 :: x3 :: x4 :: x5 :: x6 :: x7 :: x8 :: x9 :: x10 :: x11 :: x12 :: .ow d :: ρ) = some (d, some 13) := rfl
theorem cu_s13 {x0 x1 x2 x3 x4 x5 x6 x7 x8 x9 x10 x11 x12 : Sl} {e : D} : cur (some (13 : Nat)) e (x0 :: x1 :: x2 :: x3 :: x4 :: x5 :: x6 :: x7 :: x8 :: x9 :: x10 :: x11 :: x12 :: .sh d :: ρ) = some d := rfl
theorem cu_o13 {x0 x1 x2 x3 x4 x5 x6 x7 x8 x9 x10 x11 x12 : Sl} {e : D} : cur (some (13 : Nat)) e (x0 :: x1 :: x2 :: x3 :: x4 :: x5 :: x6 :: x7 :: x8 :: x9 :: x10 :: x11 :: x12 :: .ow d :: ρ) = some d := rfl
theorem fr_s13 {x0 x1 x2 x3 x4 x5 x6 x7 x8 x9 x10 x11 x12 : Sl} : frz (some (13 : Nat)) (x0 :: x1 :: x2 :: x3 :: x4 :: x5 :: x6 :: x7 :: x8 :: x9 :: x10 :: x11 :: x12 :: .sh d :: ρ) = x0 :: x1 :: x2 :: x3 :: x4 :: x5 :: x6 :: x7 :: x8 :: x9 :: x10 :: x11 :: x12 :: .sh d :: ρ := rfl
theorem fr_o13 {x0 x1 x2 x3 x4 x5 x6 x7 x8 x9 x10 x11 x12 : Sl} : frz (some (13 : Nat)) (x0 :: x1 :: x2 :: x3 :: x4 :: x5 :: x6 :: x7 :: x8 :: x9 :: x10 :: x11 :: x12 :: .ow d :: ρ) = x0 :: x1 :: x2 :: x3 :: x4 :: x5 :: x6 :: x7 :: x8 :: x9 :: x10 :: x11 :: x12 :: .sh d :: ρ := rfl
theorem ow_o13 {x0 x1 x2 x3 x4 x5 x6 x7 x8 x9 x10 x11 x12 : Sl} : owAt (13 : Nat) (x0 :: x1 :: x2 :: x3 :: x4 :: x5 :: x6 :: x7 :: x8 :: x9 :: x10 :: x11 :: x12 :: .ow d :: ρ) = some d := rfl
theorem sh_s13 {x0 x1 x2 x3 x4 x5 x6 x7 x8 x9 x10 x11 x12 : Sl} : shAt (13 : Nat) (x0 :: x1 :: x2 :: x3 :: x4 :: x5 :: x6 :: x7 :: x8 :: x9 :: x10 :: x11 :: x12 :: .sh d :: ρ) = some d := rfl
theorem un_s13 {x0 x1 x2 x3 x4 x5 x6 x7 x8 x9 x10 x11 x12 : Sl} : unAt (13 : Nat) (x0 :: x1 :: x2 :: x3 :: x4 :: x5 :: x6 :: x7 :: x8 :: x9 :: x10 :: x11 :: x12 :: .sh d :: ρ) = some (.sh d, x0 :: x1 :: x2 :: x3 :: x4 :: x5 :: x6 :: x7 :: x8 :: x9 :: x10 :: x11 :: x12 :: .sh d :: ρ) := rfl
theorem un_o13 {x0 x1 x2 x3 x4 x5 x6 x7 x8 x9 x10 x11 x12 : Sl} : unAt (13 : Nat) (x0 :: x1 :: x2 :: x3 :: x4 :: x5 :: x6 :: x7 :: x8 :: x9 :: x10 :: x11 :: x12 :: .ow d :: ρ) = some (.ow d, x0 :: x1 :: x2 :: x3 :: x4 :: x5 :: x6 :: x7 :: x8 :: x9 :: x10 :: x11 :: x12 :: .un :: ρ) := rfl
theorem st_s13 {x0 x1 x2 x3 x4 x5 x6 x7 x8 x9 x10 x11 x12 : Sl} {y0 y1 y2 y3 y4 y5 y6 y7 y8 y9 y10 y11 y12 : Sl} {ρ2 : List Sl} : stillB (some (13 : Nat)) (x0 :: x1 :: x2 :: x3 :: x4 :: x5 :: x6 :: x7 :: x8 :: x9 :: x10 :: x11 :: x12 :: .sh d :: ρ) (y0 :: y1 :: y2 :: y3 :: y4 :: y5 :: y6 :: y7 :: y8 :: y9 :: y10 :: y11 :: y12 :: .sh d :: ρ2) = true := dEq_refl d
theorem st_o13 {x0 x1 x2 x3 x4 x5 x6 x7 x8 x9 x10 x11 x12 : Sl} {y0 y1 y2 y3 y4 y5 y6 y7 y8 y9 y10 y11 y12 : Sl} {ρ2 : List Sl} : stillB (some (13 : Nat)) (x0 :: x1 :: x2 :: x3 :: x4 :: x5 :: x6 :: x7 :: x8 :: x9 :: x10 :: x11 :: x12 :: .ow d :: ρ) (y0 :: y1 :: y2 :: y3 :: y4 :: y5 :: y6 :: y7 :: y8 :: y9 :: y10 :: y11 :: y12 :: .ow d :: ρ2) = true := dEq_refl d
theorem se_13 {x0 x1 x2 x3 x4 x5 x6 x7 x8 x9 x10 x11 x12 : Sl} {z y : Sl} : (x0 :: x1 :: x2 :: x3 :: x4 :: x5 :: x6 :: x7 :: x8 :: x9 :: x10 :: x11 :: x12 :: z :: ρ).set (13 : Nat) y = x0 :: x1 :: x2 :: x3 :: x4 :: x5 :: x6 :: x7 :: x8 :: x9 :: x10 :: x11 :: x12 :: y :: ρ := rfl
theorem ba_13 {x0 x1 x2 x3 x4 x5 x6 x7 x8 x9 x10 x11 x12 : Sl} {z : Sl} {l : List Nat} {ρ2 : List Sl} : back ((13 : Nat) :: l) (x0 :: x1 :: x2 :: x3 :: x4 :: x5 :: x6 :: x7 :: x8 :: x9 :: x10 :: x11 :: x12 :: z :: ρ) ρ2 = (back l (x0 :: x1 :: x2 :: x3 :: x4 :: x5 :: x6 :: x7 :: x8 :: x9 :: x10 :: x11 :: x12 :: z :: ρ) ρ2).set (13 : Nat) z := rfl
theorem lo_s14 {x0 x1 x2 x3 x4 x5 x6 x7 x8 x9 x10 x11 x12 x13 : Sl} : loAt (14 : Nat) (x0 :: x1 :: x2 :: x3 :: x4 :: x5 :: x6 :: x7 :: x8 :: x9 :: x10 :: x11 :: x12 :: x13 :: .sh d :: ρ) = some (d, none) := rfl
theorem lo_o14 {x0 x1 x2 x3 x4 x5 x6 x7 x8 x9 x10 x11 x12 x13 : Sl} : loAt (14 : Nat) (x0 :: x1 :: x2 :: x3 :: x4 :: x5 :: x6 :: x7 :: x8 :: x9 :: x10 :: x11 :: x12 :: x13 :: .ow d :: ρ) = some (d, some 14) := rfl
theorem cu_s14 {x0 x1 x2 x3 x4 x5 x6 x7 x8 x9 x10 x11 x12 x13 : Sl} {e : D} : cur (some (14 : Nat)) e (x0 :: x1 :: x2 :: x3 :: x4 :: x5 :: x6 :: x7 :: x8 :: x9 :: x10 :: x11 :: x12 :: x13 :: .sh d :: ρ) = some d := rfl
theorem cu_o14 {x0 x1 x2 x3 x4 x5 x6 x7 x8 x9 x10 x11 x12 x13 : Sl} {e : D} : cur (some (14 : Nat)) e (x0 :: x1 :: x2 :: x3 :: x4 :: x5 :: x6 :: x7 :: x8 :: x9 :: x10 :: x11 :: x12 :: x13 :: .ow d :: ρ) = some d := rfl
theorem fr_s14 {x0 x1 x2 x3 x4 x5 x6 x7 x8 x9 x10 x11 x12 x13 : Sl} : frz (some (14 : Nat)) (x0 :: x1 :: x2 :: x3 :: x4 :: x5 :: x6 :: x7 :: x8 :: x9 :: x10 :: x11 :: x12 :: x13 :: .sh d :: ρ) = x0 :: x1 :: x2 :: x3 :: x4 :: x5 :: x6 :: x7 :: x8 :: x9 :: x10 :: x11 :: x12 :: x13 :: .sh d :: ρ := rfl
theorem fr_o14 {x0 x1 x2 x3 x4 x5 x6 x7 x8 x9 x10 x11 x12 x13 : Sl} : frz (some (14 : Nat)) (x0 :: x1 :: x2 :: x3 :: x4 :: x5 :: x6 :: x7 :: x8 :: x9 :: x10 :: x11 :: x12 :: x13 :: .ow d :: ρ) = x0 :: x1 :: x2 :: x3 :: x4 :: x5 :: x6 :: x7 :: x8 :: x9 :: x10 :: x11 :: x12 :: x13 :: .sh d :: ρ := rfl
theorem ow_o14 {x0 x1 x2 x3 x4 x5 x6 x7 x8 x9 x10 x11 x12 x13 : Sl} : owAt (14 : Nat) (x0 :: x1 :: x2 :: x3 :: x4 :: x5 :: x6 :: x7 :: x8 :: x9 :: x10 :: x11 :: x12 :: x13 :: .ow d :: ρ) = some d := rfl
theorem sh_s14 {x0 x1 x2 x3 x4 x5 x6 x7 x8 x9 x10 x11 x12 x13 : Sl} : shAt (14 : Nat) (x0 :: x1 :: x2 :: x3 :: x4 :: x5 :: x6 :: x7 :: x8 :: x9 :: x10 :: x11 :: x12 :: x13 :: .sh d :: ρ) = some d := rfl
theorem un_s14 {x0 x1 x2 x3 x4 x5 x6 x7 x8 x9 x10 x11 x12 x13 : Sl} : unAt (14 : Nat) (x0 :: x1 :: x2 :: x3 :: x4 :: x5 :: x6 :: x7 :: x8 :: x9 :: x10 :: x11 :: x12 :: x13 :: .sh d :: ρ) = some (.sh d, x0 :: x1 :: x2 :: x3 :: x4 :: x5 :: x6 :: x7 :: x8 :: x9 :: x10 :: x11 :: x12 :: x13 :: .sh d :: ρ) := rfl
theorem un_o14 {x0 x1 x2 x3 x4 x5 x6 x7 x8 x9 x10 x11 x12 x13 : Sl} : unAt (14 : Nat) (x0 :: x1 :: x2 :: x3 :: x4 :: x5 :: x6 :: x7 :: x8 :: x9 :: x10 :: x11 :: x12 :: x13 :: .ow d :: ρ) = some (.ow d, x0 :: x1 :: x2 :: x3 :: x4 :: x5 :: x6 :: x7 :: x8 :: x9 :: x10 :: x11 :: x12 :: x13 :: .un :: ρ) := rfl
theorem st_s14 {x0 x1 x2 x3 x4 x5 x6 x7 x8 x9 x10 x11 x12 x13 : Sl} {y0 y1 y2 y3 y4 y5 y6 y7 y8 y9 y10 y11 y12 y13 : Sl} {ρ2 : List Sl} : stillB (some (14 : Nat)) (x0 :: x1 :: x2 :: x3 :: x4 :: x5 :: x6 :: x7 :: x8 :: x9 :: x10 :: x11 :: x12 :: x13 :: .sh d :: ρ) (y0 :: y1 :: y2 :: y3 :: y4 :: y5 :: y6 :: y7 :: y8 :: y9 :: y10 :: y11 :: y12 :: y13 :: .sh d :: ρ2) = true := dEq_refl d
theorem st_o14 {x0 x1 x2 x3 x4 x5 x6 x7 x8 x9 x10 x11 x12 x13 : Sl} {y0 y1 y2 y3 y4 y5 y6 y7 y8 y9 y10 y11 y12 y13 : Sl} {ρ2 : List Sl} : stillB (some (14 : Nat)) (x0 :: x1 :: x2 :: x3 :: x4 :: x5 :: x6 :: x7 :: x8 :: x9 :: x10 :: x11 :: x12 :: x13 :: .ow d :: ρ) (y0 :: y1 :: y2 :: y3 :: y4 :: y5 :: y6 :: y7 :: y8 :: y9 :: y10 :: y11 :: y12 :: y13 :: .ow d :: ρ2) = true := dEq_refl d
theorem se_14 {x0 x1 x2 x3 x4 x5 x6 x7 x8 x9 x10 x11 x12 x13 : Sl} {z y : Sl} : (x0 :: x1 :: x2 :: x3 :: x4 :: x5 :: x6 :: x7 :: x8 :: x9 :: x10 :: x11 :: x12 :: x13 :: z :: ρ).set (14 : Nat) y = x0 :: x1 :: x2 :: x3 :: x4 :: x5 :: x6 :: x7 :: x8 :: x9 :: x10 :: x11 :: x12 :: x13 :: y :: ρ := rfl
theorem ba_14 {x0 x1 x2 x3 x4 x5 x6 x7 x8 x9 x10 x11 x12 x13 : Sl} {z : Sl} {l : List Nat} {ρ2 : List Sl} : back ((14 : Nat) :: l) (x0 :: x1 :: x2 :: x3 :: x4 :: x5 :: x6 :: x7 :: x8 :: x9 :: x10 :: x11 :: x12 :: x13 :: z :: ρ) ρ2 = (back l (x0 :: x1 :: x2 :: x3 :: x4 :: x5 :: x6 :: x7 :: x8 :: x9 :: x10 :: x11 :: x12 :: x13 :: z :: ρ) ρ2).set (14 : Nat) z := rfl
theorem lo_s15 {x0 x1 x2 x3 x4 x5 x6 x7 x8 x9 x10 x11 x12 x13 x14 : Sl} : loAt (15 : Nat) (x0 :: x1 :: x2 :: x3 :: x4 :: x5 :: x6 :: x7 :: x8 :: x9 :: x10 :: x11 :: x12 :: x13 :: x14 :: .sh d :: ρ) = some (d, none) := rfl
theorem lo_o15 {x0 x1 x2 x3 x4 x5 x6 x7 x8 x9 x10 x11 x12 x13 x14 : Sl} : loAt (15 : Nat) (x0 :: x1 :: x2 :: x3 :: x4 :: x5 :: x6 :: x7 :: x8 :: x9 :: x10 :: x11 :: x12 :: x13 :: x14 :: .ow d :: ρ) = some (d, some 15) := rfl
theorem cu_s15 {x0 x1 x2 x3 x4 x5 x6 x7 x8 x9 x10 x11 x12 x13 x14 : Sl} {e : D} : cur (some (15 : Nat)) e (x0 :: x1 :: x2 :: x3 :: x4 :: x5 :: x6 :: x7 :: x8 :: x9 :: x10 :: x11 :: x12 :: x13 :: x14 :: .sh d :: ρ) = some d := rfl
theorem cu_o15 {x0 x1 x2 x3 x4 x5 x6 x7 x8 x9 x10 x11 x12 x13 x14 : Sl} {e : D} : cur (some (15 : Nat)) e (x0 :: x1 :: x2 :: x3 :: x4 :: x5 :: x6 :: x7 :: x8 :: x9 :: x10 :: x11 :: x12 :: x13 :: x14 :: .ow d :: ρ) = some d := rfl
theorem fr_s15 {x0 x1 x2 x3 x4 x5 x6 x7 x8 x9 x10 x11 x12 x13 x14 : Sl} : frz (some (15 : Nat)) (x0 :: x1 :: x2 :: x3 :: x4 :: x5 :: x6 :: x7 :: x8 :: x9 :: x10 :: x11 :: x12 :: x13 :: x14 :: .sh d :: ρ) = x0 :: x1 :: x2 :: x3 :: x4 :: x5 :: x6 :: x7 :: x8 :: x9 :: x10 :: x11 :: x12 :: x13 :: x14 :: .sh d :: ρ := rfl
theorem fr_o15 {x0 x1 x2 x3 x4 x5 x6 x7 x8 x9 x10 x11 x12 x13 x14 : Sl} : frz (some (15 : Nat)) (x0 :: x1 :: x2 :: x3 :: x4 :: x5 :: x6 :: x7 :: x8 :: x9 :: x10 :: x11 :: x12 :: x13 :: x14 :: .ow d :: ρ) = x0 :: x1 :: x2 :: x3 :: x4 :: x5 :: x6 :: x7 :: x8 :: x9 :: x10 :: x11 :: x12 :: x13 :: x14 :: .sh d :: ρ := rfl
theorem ow_o15 {x0 x1 x2 x3 x4 x5 x6 x7 x8 x9 x10 x11 x12 x13 x14 : Sl} : owAt (15 : Nat) (x0 :: x1 :: x2 :: x3 :: x4 :: x5 :: x6 :: x7 :: x8 :: x9 :: x10 :: x11 :: x12 :: x13 :: x14 :: .ow d :: ρ) = some d := rfl
theorem sh_s15 {x0 x1 x2 x3 x4 x5 x6 x7 x8 x9 x10 x11 x12 x13 x14 : Sl} : shAt (15 : Nat) (x0 :: x1 :: x2 :: x3 :: x4 :: x5 :: x6 :: x7 :: x8 :: x9 :: x10 :: x11 :: x12 :: x13 :: x14 :: .sh d :: ρ) = some d := rfl
theorem un_s15 {x0 x1 x2 x3 x4 x5 x6 x7 x8 x9 x10 x11 x12 x13 x14 : Sl} : unAt (15 : Nat) (x0 :: x1 :: x2 :: x3 :: x4 :: x5 :: x6 :: x7 :: x8 :: x9 :: x10 :: x11 :: x12 :: x13 :: x14 :: .sh d :: ρ) = some (.sh d, x0 :: x1 :: x2 :: x3 :: x4 :: x5 :: x6 :: x7 :: x8 :: x9 :: x10 :: x11 :: x12 :: x13 :: x14 :: .sh d :: ρ) := rfl
theorem un_o15 {x0 x1 x2 x3 x4 x5 x6 x7 x8 x9 x10 x11 x12 x13 x14 : Sl} : unAt (15 : Nat) (x0 :: x1 :: x2 :: x3 :: x4 :: x5 :: x6 :: x7 :: x8 :: x9 :: x10 :: x11 :: x12 :: x13 :: x14 :: .ow d :: ρ) = some (.ow d, x0 :: x1 :: x2 :: x3 :: x4 :: x5 :: x6 :: x7 :: x8 :: x9 :: x10 :: x11 :: x12 :: x13 :: x14 :: .un :: ρ) := rfl
theorem st_s15 {x0 x1 x2 x3 x4 x5 x6 x7 x8 x9 x10 x11 x12 x13 x14 : Sl} {y0 y1 y2 y3 y4 y5 y6 y7 y8 y9 y10 y11 y12 y13 y14 : Sl} {ρ2 : List Sl} : stillB (some (15 : Nat)) (x0 :: x1 :: x2 :: x3 :: x4 :: x5 :: x6 :: x7 :: x8 :: x9 :: x10 :: x11 :: x12 :: x13 :: x14 :: .sh d :: ρ) (y0 :: y1 :: y2 :: y3 :: y4 :: y5 :: y6 :: y7 :: y8 :: y9 :: y10 :: y11 :: y12 :: y13 :: y14 :: .sh d :: ρ2) = true := dEq_refl d
theorem st_o15 {x0 x1 x2 x3 x4 x5 x6 x7 x8 x9 x10 x11 x12 x13 x14 : Sl} {y0 y1 y2 y3 y4 y5 y6 y7 y8 y9 y10 y11 y12 y13 y14 : Sl} {ρ2 : List Sl} : stillB (some (15 : Nat)) (x0 :: x1 :: x2 :: x3 :: x4 :: x5 :: x6 :: x7 :: x8 :: x9 :: x10 :: x11 :: x12 :: x13 :: x14 :: .ow d :: ρ) (y0 :: y1 :: y2 :: y3 :: y4 :: y5 :: y6 :: y7 :: y8 :: y9 :: y10 :: y11 :: y12 :: y13 :: y14 :: .ow d :: ρ2) = true := dEq_refl d
theorem se_15 {x0 x1 x2 x3 x4 x5 x6 x7 x8 x9 x10 x11 x12 x13 x14 : Sl} {z y : Sl} : (x0 :: x1 :: x2 :: x3 :: x4 :: x5 :: x6 :: x7 :: x8 :: x9 :: x10 :: x11 :: x12 :: x13 :: x14 :: z :: ρ).set (15 : Nat) y = x0 :: x1 :: x2 :: x3 :: x4 :: x5 :: x6 :: x7 :: x8 :: x9 :: x10 :: x11 :: x12 :: x13 :: x14 :: y :: ρ := rfl
theorem ba_15 {x0 x1 x2 x3 x4 x5 x6 x7 x8 x9 x10 x11 x12 x13 x14 : Sl} {z : Sl} {l : List Nat} {ρ2 : List Sl} : back ((15 : Nat) :: l) (x0 :: x1 :: x2 :: x3 :: x4 :: x5 :: x6 :: x7 :: x8 :: x9 :: x10 :: x11 :: x12 :: x13 :: x14 :: z :: ρ) ρ2 = (back l (x0 :: x1 :: x2 :: x3 :: x4 :: x5 :: x6 :: x7 :: x8 :: x9 :: x10 :: x11 :: x12 :: x13 :: x14 :: z :: ρ) ρ2).set (15 : Nat) z := rfl
theorem lo_s16 {x0 x1 x2 x3 x4 x5 x6 x7 x8 x9 x10 x11 x12 x13 x14 x15 : Sl} : loAt (16 : Nat) (x0 :: x1 :: x2 :: x3 :: x4 :: x5 :: x6 :: x7 :: x8 :: x9 :: x10 :: x11 :: x12 :: x13 :: x14 :: x15 :: .sh d :: ρ) = some (d, none) := rfl
theorem lo_o16 {x0 x1 x2 x3 x4 x5 x6 x7 x8 x9 x10 x11 x12 x13 x14 x15 : Sl} : loAt (16 : Nat) (x0 :: x1 :: x2 :: x3 :: x4 :: x5 :: x6 :: x7 :: x8 :: x9 :: x10 :: x11 :: x12 :: x13 :: x14 :: x15 :: .ow d :: ρ) = some (d, some 16) := rfl
theorem cu_s16 {x0 x1 x2 x3 x4 x5 x6 x7 x8 x9 x10 x11 x12 x13 x14 x15 : Sl} {e : D} : cur (some (16 : Nat)) e (x0 :: x1 :: x2 :: x3 :: x4 :: x5 :: x6 :: x7 :: x8 :: x9 :: x10 :: x11 :: x12 :: x13 :: x14 :: x15 :: .sh d :: ρ) = some d := rfl
theorem cu_o16 {x0 x1 x2 x3 x4 x5 x6 x7 x8 x9 x10 x11 x12 x13 x14 x15 : Sl} {e : D} : cur (some (16 : Nat)) e (x0 :: x1 :: x2 :: x3 :: x4 :: x5 :: x6 :: x7 :: x8 :: x9 :: x10 :: x11 :: x12 :: x13 :: x14 :: x15 :: .ow d :: ρ) = some d := rfl
theorem fr_s16 {x0 x1 x2 x3 x4 x5 x6 x7 x8 x9 x10 x11 x12 x13 x14 x15 : Sl} : frz (some (16 : Nat)) (x0 :: x1 :: x2 :: x3 :: x4 :: x5 :: x6 :: x7 :: x8 :: x9 :: x10 :: x11 :: x12 :: x13 :: x14 :: x15 :: .sh d :: ρ) = x0 :: x1 :: x2 :: x3 :: x4 :: x5 :: x6 :: x7 :: x8 :: x9 :: x10 :: x11 :: x12 :: x13 :: x14 :: x15 :: .sh d :: ρ := rfl
theorem fr_o16 {x0 x1 x2 x3 x4 x5 x6 x7 x8 x9 x10 x11 x12 x13 x14 x15 : Sl} : frz (some (16 : Nat)) (x0 :: x1 :: x2 :: x3 :: x4 :: x5 :: x6 :: x7 :: x8 :: x9 :: x10 :: x11 :: x12 :: x13 :: x14 :: x15 :: .ow d :: ρ) = x0 :: x1 :: x2 :: x3 :: x4 :: x5 :: x6 :: x7 :: x8 :: x9 :: x10 :: x11 :: x12 :: x13 :: x14 :: x15 :: .sh d :: ρ := rfl
theorem ow_o16 {x0 x1 x2 x3 x4 x5 x6 x7 x8 x9 x10 x11 x12 x13 x14 x15 : Sl} : owAt (16 : Nat) (x0 :: x1 :: x2 :: x3 :: x4 :: x5 :: x6 :: x7 :: x8 :: x9 :: x10 :: x11 :: x12 :: x13 :: x14 :: x15 :: .ow d :: ρ) = some d := rfl
theorem sh_s16 {x0 x1 x2 x3 x4 x5 x6 x7 x8 x9 x10 x11 x12 x13 x14 x15 : Sl} : shAt (16 : Nat) (x0 :: x1 :: x2 :: x3 :: x4 :: x5 :: x6 :: x7 :: x8 :: x9 :: x10 :: x11 :: x12 :: x13 :: x14 :: x15 :: .sh d :: ρ) = some d := rfl
theorem un_s16 {x0 x1 x2 x3 x4 x5 x6 x7 x8 x9 x10 x11 x12 x13 x14 x15 : Sl} : unAt (16 : Nat) (x0 :: x1 :: x2 :: x3 :: x4 :: x5 :: x6 :: x7 :: x8 :: x9 :: x10 :: x11 :: x12 :: x13 :: x14 :: x15 :: .sh d :: ρ) = some (.sh d, x0 :: x1 :: x2 :: x3 :: x4 :: x5 :: x6 :: x7 :: x8 :: x9 :: x10 :: x11 :: x12 :: x13 :: x14 :: x15 :: .sh d :: ρ) := rfl
theorem un_o16 {x0 x1 x2 x3 x4 x5 x6 x7 x8 x9 x10 x11 x12 x13 x14 x15 : Sl} : unAt (16 : Nat) (x0 :: x1 :: x2 :: x3 :: x4 :: x5 :: x6 :: x7 :: x8 :: x9 :: x10 :: x11 :: x12 :: x13 :: x14 :: x15 :: .ow d :: ρ) = some (.ow d, x0 :: x1 :: x2 :: x3 :: x4 :: x5 :: x6 :: x7 :: x8 :: x9 :: x10 :: x11 :: x12 :: x13 :: x14 :: x15 :: .un :: ρ) := rfl
theorem st_s16 {x0 x1 x2 x3 x4 x5 x6 x7 x8 x9 x10 x11 x12 x13 x14 x15 : Sl} {y0 y1 y2 y3 y4 y5 y6 y7 y8 y9 y10 y11 y12 y13 y14 y15 : Sl} {ρ2 : List Sl} : stillB (some (16 : Nat)) (x0 :: x1 :: x2 :: x3 :: x4 :: x5 :: x6 :: x7 :: x8 :: x9 :: x10 :: x11 :: x12 :: x13 :: x14 :: x15 :: .sh d :: ρ) (y0 :: y1 :: y2 :: y3 :: y4 :: y5 :: y6 :: y7 :: y8 :: y9 :: y10 :: y11 :: y12 :: y13 :: y14 :: y15 :: .sh d :: ρ2) = true := dEq_refl d
theorem st_o16 {x0 x1 x2 x3 x4 x5 x6 x7 x8 x9 x10 x11 x12 x13 x14 x15 : Sl} {y0 y1 y2 y3 y4 y5 y6 y7 y8 y9 y10 y11 y12 y13 y14 y15 : Sl} {ρ2 : List Sl} : stillB (some (16 : Nat)) (x0 :: x1 :: x2 :: x3 :: x4 :: x5 :: x6 :: x7 :: x8 :: x9 :: x10 :: x11 :: x12 :: x13 :: x14 :: x15 :: .ow d :: ρ) (y0 :: y1 :: y2 :: y3 :: y4 :: y5 :: y6 :: y7 :: y8 :: y9 :: y10 :: y11 :: y12 :: y13 :: y14 :: y15 :: .ow d :: ρ2) = true := dEq_refl d
theorem se_16 {x0 x1 x2 x3 x4 x5 x6 x7 x8 x9 x10 x11 x12 x13 x14 x15 : Sl} {z y : Sl} : (x0 :: x1 :: x2 :: x3 :: x4 :: x5 :: x6 :: x7 :: x8 :: x9 :: x10 :: x11 :: x12 :: x13 :: x14 :: x15 :: z :: ρ).set (16 : Nat) y = x0 :: x1 :: x2 :: x3 :: x4 :: x5 :: x6 :: x7 :: x8 :: x9 :: x10 :: x11 :: x12 :: x13 :: x14 :: x15 :: y :: ρ := rfl
theorem ba_16 {x0 x1 x2 x3 x4 x5 x6 x7 x8 x9 x10 x11 x12 x13 x14 x15 : Sl} {z : Sl} {l : List Nat} {ρ2 : List Sl} : back ((16 : Nat) :: l) (x0 :: x1 :: x2 :: x3 :: x4 :: x5 :: x6 :: x7 :: x8 :: x9 :: x10 :: x11 :: x12 :: x13 :: x14 :: x15 :: z :: ρ) ρ2 = (back l (x0 :: x1 :: x2 :: x3 :: x4 :: x5 :: x6 :: x7 :: x8 :: x9 :: x10 :: x11 :: x12 :: x13 :: x14 :: x15 :: z :: ρ) ρ2).set (16 : Nat) z := rfl
theorem lo_s17 {x0 x1 x2 x3 x4 x5 x6 x7 x8 x9 x10 x11 x12 x13 x14 x15 x16 : Sl} : loAt (17 : Nat) (x0 :: x1 :: x2 :: x3 :: x4 :: x5 :: x6 :: x7 :: x8 :: x9 :: x10 :: x11 :: x12 :: x13 :: x14 :: x15 :: x16 :: .sh d :: ρ) = some (d, none) := rfl
theorem lo_o17 {x0 x1 x2 x3 x4 x5 x6 x7 x8 x9 x10 x11 x12 x13 x14 x15 x16 : Sl} : loAt (17 : Nat) (x0 :: x1 :: x2 :: x3 :: x4 :: x5 :: x6 :: x7 :: x8 :: x9 :: x10 :: x11 :: x12 :: x13 :: x14 :: x15 :: x16 :: .ow d :: ρ) = some (d, some 17) := rfl
theorem cu_s17 {x0 x1 x2 x3 x4 x5 x6 x7 x8 x9 x10 x11 x12 x13 x14 x15 x16 : Sl} {e : D} : cur (some (17 : Nat)) e (x0 :: x1 :: x2 :: x3 :: x4 :: x5 :: x6 :: x7 :: x8 :: x9 :: x10 :: x11 :: x12 :: x13 :: x14 :: x15 :: x16 :: .sh d :: ρ) = some d := rfl
theorem cu_o17 {x0 x1 x2 x3 x4 x5 x6 x7 x8 x9 x10 x11 x12 x13 x14 x15 x16 : Sl} {e : D} : cur (some (17 : Nat)) e (x0 :: x1 :: x2 :: x3 :: x4 :: x5 :: x6 :: x7 :: x8 :: x9 :: x10 :: x11 :: x12 :: x13 :: x14 :: x15 :: x16 :: .ow d :: ρ) = some d := rfl
theorem fr_s17 {x0 x1 x2 x3 x4 x5 x6 x7 x8 x9 x10 x11 x12 x13 x14 x15 x16 : Sl} : frz (some (17 : Nat)) (x0 :: x1 :: x2 :: x3 :: x4 :: x5 :: x6 :: x7 :: x8 :: x9 :: x10 :: x11 :: x12 :: x13 :: x14 :: x15 :: x16 :: .sh d :: ρ) = x0 :: x1 :: x2 :: x3 :: x4 :: x5 :: x6 :: x7 :: x8 :: x9 :: x10 :: x11 :: x12 :: x13 :: x14 :: x15 :: x16 :: .sh d :: ρ := rfl
theorem fr_o17 {x0 x1 x2 x3 x4 x5 x6 x7 x8 x9 x10 x11 x12 x13 x14 x15 x16 : Sl} : frz (some (17 : Nat)) (x0 :: x1 :: x2 :: x3 :: x4 :: x5 :: x6 :: x7 :: x8 :: x9 :: x10 :: x11 :: x12 :: x13 :: x14 :: x15 :: x16 :: .ow d :: ρ) = x0 :: x1 :: x2 :: x3 :: x4 :: x5 :: x6 :: x7 :: x8 :: x9 :: x10 :: x11 :: x12 :: x13 :: x14 :: x15 :: x16 :: .sh d :: ρ := rfl
theorem ow_o17 {x0 x1 x2 x3 x4 x5 x6 x7 x8 x9 x10 x11 x12 x13 x14 x15 x16 : Sl} : owAt (17 : Nat) (x0 :: x1 :: x2 :: x3 :: x4 :: x5 :: x6 :: x7 :: x8 :: x9 :: x10 :: x11 :: x12 :: x13 :: x14 :: x15 :: x16 :: .ow d :: ρ) = some d := rfl
theorem sh_s17 {x0 x1 x2 x3 x4 x5 x6 x7 x8 x9 x10 x11 x12 x13 x14 x15 x16 : Sl} : shAt (17 : Nat) (x0 :: x1 :: x2 :: x3 :: x4 :: x5 :: x6 :: x7 :: x8 :: x9 :: x10 :: x11 :: x12 :: x13 :: x14 :: x15 :: x16 :: .sh d :: ρ) = some d := rfl
theorem un_s17 {x0 x1 x2 x3 x4 x5 x6 x7 x8 x9 x10 x11 x12 x13 x14 x15 x16 : Sl} : unAt (17 : Nat) (x0 :: x1 :: x2 :: x3 :: x4 :: x5 :: x6 :: x7 :: x8 :: x9 :: x10 :: x11 :: x12 :: x13 :: x14 :: x15 :: x16 :: .sh d :: ρ) = some (.sh d, x0 :: x1 :: x2 :: x3 :: x4 :: x5 :: x6 :: x7 :: x8 :: x9 :: x10 :: x11 :: x12 :: x13 :: x14 :: x15 :: x16 :: .sh d :: ρ) := rfl
theorem un_o17 {x0 x1 x2 x3 x4 x5 x6 x7 x8 x9 x10 x11 x12 x13 x14 x15 x16 : Sl} : unAt (17 : Nat) (x0 :: x1 :: x2 :: x3 :: x4 :: x5 :: x6 :: x7 :: x8 :: x9 :: x10 :: x11 :: x12 :: x13 :: x14 :: x15 :: x16 :: .ow d :: ρ) = some (.ow d, x0 :: x1 :: x2 :: x3 :: x4 :: x5 :: x6 :: x7 :: x8 :: x9 :: x10 :: x11 :: x12 :: x13 :: x14 :: x15 :: x16 :: .un :: ρ) := rfl
theorem st_s17 {x0 x1 x2 x3 x4 x5 x6 x7 x8 x9 x10 x11 x12 x13 x14 x15 x16 : Sl} {y0 y1 y2 y3 y4 y5 y6 y7 y8 y9 y10 y11 y12 y13 y14 y15 y16 : Sl} {ρ2 : List Sl} : stillB (some (17 : Nat)) (x0 :: x1 :: x2 :: x3 :: x4 :: x5 :: x6 :: x7 :: x8 :: x9 :: x10 :: x11 :: x12 :: x13 :: x14 :: x15 :: x16 :: .sh d :: ρ) (y0 :: y1 :: y2 :: y3 :: y4 :: y5 :: y6 :: y7 :: y8 :: y9 :: y10 :: y11 :: y12 :: y13 :: y14 :: y15 :: y16 :: .sh d :: ρ2) = true := dEq_refl d
theorem st_o17 {x0 x1 x2 x3 x4 x5 x6 x7 x8 x9 x10 x11 x12 x13 x14 x15 x16 : Sl} {y0 y1 y2 y3 y4 y5 y6 y7 y8 y9 y10 y11 y12 y13 y14 y15 y16 : Sl} {ρ2 : List Sl} : stillB (some (17 : Nat)) (x0 :: x1 :: x2 :: x3 :: x4 :: x5 :: x6 :: x7 :: x8 :: x9 :: x10 :: x11 :: x12 :: x13 :: x14 :: x15 :: x16 :: .ow d :: ρ) (y0 :: y1 :: y2 :: y3 :: y4 :: y5 :: y6 :: y7 :: y8 :: y9 :: y10 :: y11 :: y12 :: y13 :: y14 :: y15 :: y16 :: .ow d :: ρ2) = true := dEq_refl d
theorem se_17 {x0 x1 x2 x3 x4 x5 x6 x7 x8 x9 x10 x11 x12 x13 x14 x15 x16 : Sl} {z y : Sl} : (x0 :: x1 :: x2 :: x3 :: x4 :: x5 :: x6 :: x7 :: x8 :: x9 :: x10 :: x11 :: x12 :: x13 :: x14 :: x15 :: x16 :: z :: ρ).set (17 : Nat) y = x0 :: x1 :: x2 :: x3 :: x4 :: x5 :: x6 :: x7 :: x8 :: x9 :: x10 :: x11 :: x12 :: x13 :: x14 :: x15 :: x16 :: y :: ρ := rfl
theorem ba_17 {x0 x1 x2 x3 x4 x5 x6 x7 x8 x9 x10 x11 x12 x13 x14 x15 x16 : Sl} {z : Sl} {l : List Nat} {ρ2 : List Sl} : back ((17 : Nat) :: l) (x0 :: x1 :: x2 :: x3 :: x4 :: x5 :: x6 :: x7 :: x8 :: x9 :: x10 :: x11 :: x12 :: x13 :: x14 :: x15 :: x16 :: z :: ρ) ρ2 = (back l (x0 :: x1 :: x2 :: x3 :: x4 :: x5 :: x6 :: x7 :: x8 :: x9 :: x10 :: x11 :: x12 :: x13 :: x14 :: x15 :: x16 :: z :: ρ) ρ2).set (17 : Nat) z := rfl
theorem lo_s18 {x0 x1 x2 x3 x4 x5 x6 x7 x8 x9 x10 x11 x12 x13 x14 x15 x16 x17 : Sl} : loAt (18 : Nat) (x0 :: x1 :: x2 :: x3 :: x4 :: x5 :: x6 :: x7 :: x8 :: x9 :: x10 :: x11 :: x12 :: x13 :: x14 :: x15 :: x16 :: x17 :: .sh d :: ρ) = some (d, none) := rfl
theorem lo_o18 {x0 x1 x2 x3 x4 x5 x6 x7 x8 x9 x10 x11 x12 x13 x14 x15 x16 x17 : Sl} : loAt (18 : Nat) (x0 :: x1 :: x2 :: x3 :: x4 :: x5 :: x6 :: x7 :: x8 :: x9 :: x10 :: x11 :: x12 :: x13 :: x14 :: x15 :: x16 :: x17 :: .ow d :: ρ) = some (d, some 18) := rfl
theorem cu_s18 {x0 x1 x2 x3 x4 x5 x6 x7 x8 x9 x10 x11 x12 x13 x14 x15 x16 x17 : Sl} {e : D} : cur (some (18 : Nat)) e (x0 :: x1 :: x2 :: x3 :: x4 :: x5 :: x6 :: x7 :: x8 :: x9 :: x10 :: x11 :: x12 :: x13 :: x14 :: x15 :: x16 :: x17 :: .sh d :: ρ) = some d := rfl
theorem cu_o18 {x0 x1 x2 x3 x4 x5 x6 x7 x8 x9 x10 x11 x12 x13 x14 x15 x16 x17 : Sl} {e : D} : cur (some (18 : Nat)) e (x0 :: x1 :: x2 :: x3 :: x4 :: x5 :: x6 :: x7 :: x8 :: x9 :: x10 :: x11 :: x12 :: x13 :: x14 :: x15 :: x16 :: x17 :: .ow d :: ρ) = some d := rfl
theorem fr_s18 {x0 x1 x2 x3 x4 x5 x6 x7 x8 x9 x10 x11 x12 x13 x14 x15 x16 x17 : Sl} : frz (some (18 : Nat)) (x0 :: x1 :: x2 :: x3 :: x4 :: x5 :: x6 :: x7 :: x8 :: x9 :: x10 :: x11 :: x12 :: x13 :: x14 :: x15 :: x16 :: x17 :: .sh d :: ρ) = x0 :: x1 :: x2 :: x3 :: x4 :: x5 :: x6 :: x7 :: x8 :: x9 :: x10 :: x11 :: x12 :: x13 :: x14 :: x15 :: x16 :: x17 :: .sh d :: ρ := rfl
theorem fr_o18 {x0 x1 x2 x3 x4 x5 x6 x7 x8 x9 x10 x11 x12 x13 x14 x15 x16 x17 : Sl} : frz (some (18 : Nat)) (x0 :: x1 :: x2 :: x3 :: x4 :: x5 :: x6 :: x7 :: x8 :: x9 :: x10 :: x11 :: x12 :: x13 :: x14 :: x15 :: x16 :: x17 :: .ow d :: ρ) = x0 :: x1 :: x2 :: x3 :: x4 :: x5 :: x6 :: x7 :: x8 :: x9 :: x10 :: x11 :: x12 :: x13 :: x14 :: x15 :: x16 :: x17 :: .sh d :: ρ := rfl
theorem ow_o18 {x0 x1 x2 x3 x4 x5 x6 x7 x8 x9 x10 x11 x12 x13 x14 x15 x16 x17 : Sl} : owAt (18 : Nat) (x0 :: x1 :: x2 :: x3 :: x4 :: x5 :: x6 :: x7 :: x8 :: x9 :: x10 :: x11 :: x12 :: x13 :: x14 :: x15 :: x16 :: x17 :: .ow d :: ρ) = some d := rfl
theorem sh_s18 {x0 x1 x2 x3 x4 x5 x6 x7 x8 x9 x10 x11 x12 x13 x14 x15 x16 x17 : Sl} : shAt (18 : Nat) (x0 :: x1 :: x2 :: x3 :: x4 :: x5 :: x6 :: x7 :: x8 :: x9 :: x10 :: x11 :: x12 :: x13 :: x14 :: x15 :: x16 :: x17 :: .sh d :: ρ) = some d := rfl
theorem un_s18 {x0 x1 x2 x3 x4 x5 x6 x7 x8 x9 x10 x11 x12 x13 x14 x15 x16 x17 : Sl} : unAt (18 : Nat) (x0 :: x1 :: x2 :: x3 :: x4 :: x5 :: x6 :: x7 :: x8 :: x9 :: x10 :: x11 :: x12 :: x13 :: x14 :: x15 :: x16 :: x17 :: .sh d :: ρ) = some (.sh d, x0 :: x1 :: x2 :: x3 :: x4 :: x5 :: x6 :: x7 :: x8 :: x9 :: x10 :: x11 :: x12 :: x13 :: x14 :: x15 :: x16 :: x17 :: .sh d :: ρ) := rfl
theorem un_o18 {x0 x1 x2 x3 x4 x5 x6 x7 x8 x9 x10 x11 x12 x13 x14 x15 x16 x17 : Sl} : unAt (18 : Nat) (x0 :: x1 :: x2 :: x3 :: x4 :: x5 :: x6 :: x7 :: x8 :: x9 :: x10 :: x11 :: x12 :: x13 :: x14 :: x15 :: x16 :: x17 :: .ow d :: ρ) = some (.ow d, x0 :: x1 :: x2 :: x3 :: x4 :: x5 :: x6 :: x7 :: x8 :: x9 :: x10 :: x11 :: x12 :: x13 :: x14 :: x15 :: x16 :: x17 :: .un :: ρ) := rfl
theorem st_s18 {x0 x1 x2 x3 x4 x5 x6 x7 x8 x9 x10 x11 x12 x13 x14 x15 x16 x17 : Sl} {y0 y1 y2 y3 y4 y5 y6 y7 y8 y9 y10 y11 y12 y13 y14 y15 y16 y17 : Sl} {ρ2 : List Sl} : stillB (some (18 : Nat)) (x0 :: x1 :: x2 :: x3 :: x4 :: x5 :: x6 :: x7 :: x8 :: x9 :: x10 :: x11 :: x12 :: x13 :: x14 :: x15 :: x16 :: x17 :: .sh d :: ρ) (y0 :: y1 :: y2 :: y3 :: y4 :: y5 :: y6 :: y7 :: y8 :: y9 :: y10 :: y11 :: y12 :: y13 :: y14 :: y15 :: y16 :: y17 :: .sh d :: ρ2) = true := dEq_refl d
theorem st_o18 {x0 x1 x2 x3 x4 x5 x6 x7 x8 x9 x10 x11 x12 x13 x14 x15 x16 x17 : Sl} {y0 y1 y2 y3 y4 y5 y6 y7 y8 y9 y10 y11 y12 y13 y14 y15 y16 y17 : Sl} {ρ2 : List Sl} : stillB (some (18 : Nat)) (x0 :: x1 :: x2 :: x3 :: x4 :: x5 :: x6 :: x7 :: x8 :: x9 :: x10 :: x11 :: x12 :: x13 :: x14 :: x15 :: x16 :: x17 :: .ow d :: ρ) (y0 :: y1 :: y2 :: y3 :: y4 :: y5 :: y6 :: y7 :: y8 :: y9 :: y10 :: y11 :: y12 :: y13 :: y14 :: y15 :: y16 :: y17 :: .ow d :: ρ2) = true := dEq_refl d
theorem se_18 {x0 x1 x2 x3 x4 x5 x6 x7 x8 x9 x10 x11 x12 x13 x14 x15 x16 x17 : Sl} {z y : Sl} : (x0 :: x1 :: x2 :: x3 :: x4 :: x5 :: x6 :: x7 :: x8 :: x9 :: x10 :: x11 :: x12 :: x13 :: x14 :: x15 :: x16 :: x17 :: z :: ρ).set (18 : Nat) y = x0 :: x1 :: x2 :: x3 :: x4 :: x5 :: x6 :: x7 :: x8 :: x9 :: x10 :: x11 :: x12 :: x13 :: x14 :: x15 :: x16 :: x17 :: y :: ρ := rfl
theorem ba_18 {x0 x1 x2 x3 x4 x5 x6 x7 x8 x9 x10 x11 x12 x13 x14 x15 x16 x17 : Sl} {z : Sl} {l : List Nat} {ρ2 : List Sl} : back ((18 : Nat) :: l) (x0 :: x1 :: x2 :: x3 :: x4 :: x5 :: x6 :: x7 :: x8 :: x9 :: x10 :: x11 :: x12 :: x13 :: x14 :: x15 :: x16 :: x17 :: z :: ρ) ρ2 = (back l (x0 :: x1 :: x2 :: x3 :: x4 :: x5 :: x6 :: x7 :: x8 :: x9 :: x10 :: x11 :: x12 :: x13 :: x14 :: x15 :: x16 :: x17 :: z :: ρ) ρ2).set (18 : Nat) z := rfl
theorem lo_s19 {x0 x1 x2 x3 x4 x5 x6 x7 x8 x9 x10 x11 x12 x13 x14 x15 x16 x17 x18 : Sl} : loAt (19 : Nat) (x0 :: x1 :: x2 :: x3 :: x4 :: x5 :: x6 :: x7 :: x8 :: x9 :: x10 :: x11 :: x12 :: x13 :: x14 :: x15 :: x16 :: x17 :: x18 :: .sh d :: ρ) = some (d, none) := rfl
theorem lo_o19 {x0 x1 x2 x3 x4 x5 x6 x7 x8 x9 x10 x11 x12 x13 x14 x15 x16 x17 x18 : Sl} : loAt (19 : Nat) (x0 :: x1 :: x2 :: x3 :: x4 :: x5 :: x6 :: x7 :: x8 :: x9 :: x10 :: x11 :: x12 :: x13 :: x14 :: x15 :: x16 :: x17 :: x18 :: .ow d :: ρ) = some (d, some 19) := rfl
theorem cu_s19 {x0 x1 x2 x3 x4 x5 x6 x7 x8 x9 x10 x11 x12 x13 x14 x15 x16 x17 x18 : Sl} {e : D} : cur (some (19 : Nat)) e (x0 :: x1 :: x2 :: x3 :: x4 :: x5 :: x6 :: x7 :: x8 :: x9 :: x10 :: x11 :: x12 :: x13 :: x14 :: x15 :: x16 :: x17 :: x18 :: .sh d :: ρ) = some d := rfl
theorem cu_o19 {x0 x1 x2 x3 x4 x5 x6 x7 x8 x9 x10 x11 x12 x13 x14 x15 x16 x17 x18 : Sl} {e : D} : cur (some (19 : Nat)) e (x0 :: x1 :: x2 :: x3 :: x4 :: x5 :: x6 :: x7 :: x8 :: x9 :: x10 :: x11 :: x12 :: x13 :: x14 :: x15 :: x16 :: x17 :: x18 :: .ow d :: ρ) = some d := rfl
theorem fr_s19 {x0 x1 x2 x3 x4 x5 x6 x7 x8 x9 x10 x11 x12 x13 x14 x15 x16 x17 x18 : Sl} : frz (some (19 : Nat)) (x0 :: x1 :: x2 :: x3 :: x4 :: x5 :: x6 :: x7 :: x8 :: x9 :: x10 :: x11 :: x12 :: x13 :: x14 :: x15 :: x16 :: x17 :: x18 :: .sh d :: ρ) = x0 :: x1 :: x2 :: x3 :: x4 :: x5 :: x6 :: x7 :: x8 :: x9 :: x10 :: x11 :: x12 :: x13 :: x14 :: x15 :: x16 :: x17 :: x18 :: .sh d :: ρ := rfl
theorem fr_o19 {x0 x1 x2 x3 x4 x5 x6 x7 x8 x9 x10 x11 x12 x13 x14 x15 x16 x17 x18 : Sl} : frz (some (19 : Nat)) (x0 :: x1 :: x2 :: x3 :: x4 :: x5 :: x6 :: x7 :: x8 :: x9 :: x10 :: x11 :: x12 :: x13 :: x14 :: x15 :: x16 :: x17 :: x18 :: .ow d :: ρ) = x0 :: x1 :: x2 :: x3 :: x4 :: x5 :: x6 :: x7 :: x8 :: x9 :: x10 :: x11 :: x12 :: x13 :: x14 :: x15 :: x16 :: x17 :: x18 :: .sh d :: ρ := rfl
theorem ow_o19 {x0 x1 x2 x3 x4 x5 x6 x7 x8 x9 x10 x11 x12 x13 x14 x15 x16 x17 x18 : Sl} : owAt (19 : Nat) (x0 :: x1 :: x2 :: x3 :: x4 :: x5 :: x6 :: x7 :: x8 :: x9 :: x10 :: x11 :: x12 :: x13 :: x14 :: x15 :: x16 :: x17 :: x18 :: .ow d :: ρ) = some d := rfl
theorem sh_s19 {x0 x1 x2 x3 x4 x5 x6 x7 x8 x9 x10 x11 x12 x13 x14 x15 x16 x17 x18 : Sl} : shAt (19 : Nat) (x0 :: x1 :: x2 :: x3 :: x4 :: x5 :: x6 :: x7 :: x8 :: x9 :: x10 :: x11 :: x12 :: x13 :: x14 :: x15 :: x16 :: x17 :: x18 :: .sh d :: ρ) = some d := rfl
theorem un_s19 {x0 x1 x2 x3 x4 x5 x6 x7 x8 x9 x10 x11 x12 x13 x14 x15 x16 x17 x18 : Sl} : unAt (19 : Nat) (x0 :: x1 :: x2 :: x3 :: x4 :: x5 :: x6 :: x7 :: x8 :: x9 :: x10 :: x11 :: x12 :: x13 :: x14 :: x15 :: x16 :: x17 :: x18 :: .sh d :: ρ) = some (.sh d, x0 :: x1 :: x2 :: x3 :: x4 :: x5 :: x6 :: x7 :: x8 :: x9 :: x10 :: x11 :: x12 :: x13 :: x14 :: x15 :: x16 :: x17 :: x18 :: .sh d :: ρ) := rfl
theorem un_o19 {x0 x1 x2 x3 x4 x5 x6 x7 x8 x9 x10 x11 x12 x13 x14 x15 x16 x17 x18 : Sl} : unAt (19 : Nat) (x0 :: x1 :: x2 :: x3 :: x4 :: x5 :: x6 :: x7 :: x8 :: x9 :: x10 :: x11 :: x12 :: x13 :: x14 :: x15 :: x16 :: x17 :: x18 :: .ow d :: ρ) = some (.ow d, x0 :: x1 :: x2 :: x3 :: x4 :: x5 :: x6 :: x7 :: x8 :: x9 :: x10 :: x11 :: x12 :: x13 :: x14 :: x15 :: x16 :: x17 :: x18 :: .un :: ρ) := rfl
theorem st_s19 {x0 x1 x2 x3 x4 x5 x6 x7 x8 x9 x10 x11 x12 x13 x14 x15 x16 x17 x18 : Sl} {y0 y1 y2 y3 y4 y5 y6 y7 y8 y9 y10 y11 y12 y13 y14 y15 y16 y17 y18 : Sl} {ρ2 : List Sl} : stillB (some (19 : Nat)) (x0 :: x1 :: x2 :: x3 :: x4 :: x5 :: x6 :: x7 :: x8 :: x9 :: x10 :: x11 :: x12 :: x13 :: x14 :: x15 :: x16 :: x17 :: x18 :: .sh d :: ρ) (y0 :: y1 :: y2 :: y3 :: y4 :: y5 :: y6 :: y7 :: y8 :: y9 :: y10 :: y11 :: y12 :: y13 :: y14 :: y15 :: y16 :: y17 :: y18 :: .sh d :: ρ2) = true := dEq_refl d
theorem st_o19 {x0 x1 x2 x3 x4 x5 x6 x7 x8 x9 x10 x11 x12 x13 x14 x15 x16 x17 x18 : Sl} {y0 y1 y2 y3 y4 y5 y6 y7 y8 y9 y10 y11 y12 y13 y14 y15 y16 y17 y18 : Sl} {ρ2 : List Sl} : stillB (some (19 : Nat)) (x0 :: x1 :: x2 :: x3 :: x4 :: x5 :: x6 :: x7 :: x8 :: x9 :: x10 :: x11 :: x12 :: x13 :: x14 :: x15 :: x16 :: x17 :: x18 :: .ow d :: ρ) (y0 :: y1 :: y2 :: y3 :: y4 :: y5 :: y6 :: y7 :: y8 :: y9 :: y10 :: y11 :: y12 :: y13 :: y14 :: y15 :: y16 :: y17 :: y18 :: .ow d :: ρ2) = true := dEq_refl d
theorem se_19 {x0 x1 x2 x3 x4 x5 x6 x7 x8 x9 x10 x11 x12 x13 x14 x15 x16 x17 x18 : Sl} {z y : Sl} : (x0 :: x1 :: x2 :: x3 :: x4 :: x5 :: x6 :: x7 :: x8 :: x9 :: x10 :: x11 :: x12 :: x13 :: x14 :: x15 :: x16 :: x17 :: x18 :: z :: ρ).set (19 : Nat) y = x0 :: x1 :: x2 :: x3 :: x4 :: x5 :: x6 :: x7 :: x8 :: x9 :: x10 :: x11 :: x12 :: x13 :: x14 :: x15 :: x16 :: x17 :: x18 :: y :: ρ := rfl
theorem ba_19 {x0 x1 x2 x3 x4 x5 x6 x7 x8 x9 x10 x11 x12 x13 x14 x15 x16 x17 x18 : Sl} {z : Sl} {l : List Nat} {ρ2 : List Sl} : back ((19 : Nat) :: l) (x0 :: x1 :: x2 :: x3 :: x4 :: x5 :: x6 :: x7 :: x8 :: x9 :: x10 :: x11 :: x12 :: x13 :: x14 :: x15 :: x16 :: x17 :: x18 :: z :: ρ) ρ2 = (back l (x0 :: x1 :: x2 :: x3 :: x4 :: x5 :: x6 :: x7 :: x8 :: x9 :: x10 :: x11 :: x12 :: x13 :: x14 :: x15 :: x16 :: x17 :: x18 :: z :: ρ) ρ2).set (19 : Nat) z := rfl
theorem lo_s20 {x0 x1 x2 x3 x4 x5 x6 x7 x8 x9 x10 x11 x12 x13 x14 x15 x16 x17 x18 x19 : Sl} : loAt (20 : Nat) (x0 :: x1 :: x2 :: x3 :: x4 :: x5 :: x6 :: x7 :: x8 :: x9 :: x10 :: x11 :: x12 :: x13 :: x14 :: x15 :: x16 :: x17 :: x18 :: x19 :: .sh d :: ρ) = some (d, none) := rfl
theorem lo_o20 {x0 x1 x2 x3 x4 x5 x6 x7 x8 x9 x10 x11 x12 x13 x14 x15 x16 x17 x18 x19 : Sl} : loAt (20 : Nat) (x0 :: x1 :: x2 :: x3 :: x4 :: x5 :: x6 :: x7 :: x8 :: x9 :: x10 :: x11 :: x12 :: x13 :: x14 :: x15 :: x16 :: x17 :: x18 :: x19 :: .ow d :: ρ) = some (d, some 20) := rfl
theorem cu_s20 {x0 x1 x2 x3 x4 x5 x6 x7 x8 x9 x10 x11 x12 x13 x14 x15 x16 x17 x18 x19 : Sl} {e : D} : cur (some (20 : Nat)) e (x0 :: x1 :: x2 :: x3 :: x4 :: x5 :: x6 :: x7 :: x8 :: x9 :: x10 :: x11 :: x12 :: x13 :: x14 :: x15 :: x16 :: x17 :: x18 :: x19 :: .sh d :: ρ) = some d := rfl
theorem cu_o20 {x0 x1 x2 x3 x4 x5 x6 x7 x8 x9 x10 x11 x12 x13 x14 x15 x16 x17 x18 x19 : Sl} {e : D} : cur (some (20 : Nat)) e (x0 :: x1 :: x2 :: x3 :: x4 :: x5 :: x6 :: x7 :: x8 :: x9 :: x10 :: x11 :: x12 :: x13 :: x14 :: x15 :: x16 :: x17 :: x18 :: x19 :: .ow d :: ρ) = some d := rfl
theorem fr_s20 {x0 x1 x2 x3 x4 x5 x6 x7 x8 x9 x10 x11 x12 x13 x14 x15 x16 x17 x18 x19 : Sl} : frz (some (20 : Nat)) (x0 :: x1 :: x2 :: x3 :: x4 :: x5 :: x6 :: x7 :: x8 :: x9 :: x10 :: x11 :: x12 :: x13 :: x14 :: x15 :: x16 :: x17 :: x18 :: x19 :: .sh d :: ρ) = x0 :: x1 :: x2 :: x3 :: x4 :: x5 :: x6 :: x7 :: x8 :: x9 :: x10 :: x11 :: x12 :: x13 :: x14 :: x15 :: x16 :: x17 :: x18 :: x19 :: .sh d :: ρ := rfl
theorem fr_o20 {x0 x1 x2 x3 x4 x5 x6 x7 x8 x9 x10 x11 x12 x13 x14 x15 x16 x17 x18 x19 : Sl} : frz (some (20 : Nat)) (x0 :: x1 :: x2 :: x3 :: x4 :: x5 :: x6 :: x7 :: x8 :: x9 :: x10 :: x11 :: x12 :: x13 :: x14 :: x15 :: x16 :: x17 :: x18 :: x19 :: .ow d :: ρ) = x0 :: x1 :: x2 :: x3 :: x4 :: x5 :: x6 :: x7 :: x8 :: x9 :: x10 :: x11 :: x12 :: x13 :: x14 :: x15 :: x16 :: x17 :: x18 :: x19 :: .sh d :: ρ := rfl
theorem ow_o20 {x0 x1 x2 x3 x4 x5 x6 x7 x8 x9 x10 x11 x12 x13 x14 x15 x16 x17 x18 x19 : Sl} : owAt (20 : Nat) (x0 :: x1 :: x2 :: x3 :: x4 :: x5 :: x6 :: x7 :: x8 :: x9 :: x10 :: x11 :: x12 :: x13 :: x14 :: x15 :: x16 :: x17 :: x18 :: x19 :: .ow d :: ρ) = some d := rfl
theorem sh_s20 {x0 x1 x2 x3 x4 x5 x6 x7 x8 x9 x10 x11 x12 x13 x14 x15 x16 x17 x18 x19 : Sl} : shAt (20 : Nat) (x0 :: x1 :: x2 :: x3 :: x4 :: x5 :: x6 :: x7 :: x8 :: x9 :: x10 :: x11 :: x12 :: x13 :: x14 :: x15 :: x16 :: x17 :: x18 :: x19 :: .sh d :: ρ) = some d := rfl
theorem un_s20 {x0 x1 x2 x3 x4 x5 x6 x7 x8 x9 x10 x11 x12 x13 x14 x15 x16 x17 x18 x19 : Sl} : unAt (20 : Nat) (x0 :: x1 :: x2 :: x3 :: x4 :: x5 :: x6 :: x7 :: x8 :: x9 :: x10 :: x11 :: x12 :: x13 :: x14 :: x15 :: x16 :: x17 :: x18 :: x19 :: .sh d :: ρ) = some (.sh d, x0 :: x1 :: x2 :: x3 :: x4 :: x5 :: x6 :: x7 :: x8 :: x9 :: x10 :: x11 :: x12 :: x13 :: x14 :: x15 :: x16 :: x17 :: x18 :: x19 :: .sh d :: ρ) := rfl
theorem un_o20 {x0 x1 x2 x3 x4 x5 x6 x7 x8 x9 x10 x11 x12 x13 x14 x15 x16 x17 x18 x19 : Sl} : unAt (20 : Nat) (x0 :: x1 :: x2 :: x3 :: x4 :: x5 :: x6 :: x7 :: x8 :: x9 :: x10 :: x11 :: x12 :: x13 :: x14 :: x15 :: x16 :: x17 :: x18 :: x19 :: .ow d :: ρ) = some (.ow d, x0 :: x1 :: x2 :: x3 :: x4 :: x5 :: x6 :: x7 :: x8 :: x9 :: x10 :: x11 :: x12 :: x13 :: x14 :: x15 :: x16 :: x17 :: x18 :: x19 :: .un :: ρ) := rfl
theorem st_s20 {x0 x1 x2 x3 x4 x5 x6 x7 x8 x9 x10 x11 x12 x13 x14 x15 x16 x17 x18 x19 : Sl} {y0 y1 y2 y3 y4 y5 y6 y7 y8 y9 y10 y11 y12 y13 y14 y15 y16 y17 y18 y19 : Sl} {ρ2 : List Sl} : stillB (some (20 : Nat)) (x0 :: x1 :: x2 :: x3 :: x4 :: x5 :: x6 :: x7 :: x8 :: x9 :: x10 :: x11 :: x12 :: x13 :: x14 :: x15 :: x16 :: x17 :: x18 :: x19 :: .sh d :: ρ) (y0 :: y1 :: y2 :: y3 :: y4 :: y5 :: y6 :: y7 :: y8 :: y9 :: y10 :: y11 :: y12 :: y13 :: y14 :: y15 :: y16 :: y17 :: y18 :: y19 :: .sh d :: ρ2) = true := dEq_refl d
theorem st_o20 {x0 x1 x2 x3 x4 x5 x6 x7 x8 x9 x10 x11 x12 x13 x14 x15 x16 x17 x18 x19 : Sl} {y0 y1 y2 y3 y4 y5 y6 y7 y8 y9 y10 y11 y12 y13 y14 y15 y16 y17 y18 y19 : Sl} {ρ2 : List Sl} : stillB (some (20 : Nat)) (x0 :: x1 :: x2 :: x3 :: x4 :: x5 :: x6 :: x7 :: x8 :: x9 :: x10 :: x11 :: x12 :: x13 :: x14 :: x15 :: x16 :: x17 :: x18 :: x19 :: .ow d :: ρ) (y0 :: y1 :: y2 :: y3 :: y4 :: y5 :: y6 :: y7 :: y8 :: y9 :: y10 :: y11 :: y12 :: y13 :: y14 :: y15 :: y16 :: y17 :: y18 :: y19 :: .ow d :: ρ2) = true := dEq_refl d
theorem se_20 {x0 x1 x2 x3 x4 x5 x6 x7 x8 x9 x10 x11 x12 x13 x14 x15 x16 x17 x18 x19 : Sl} {z y : Sl} : (x0 :: x1 :: x2 :: x3 :: x4 :: x5 :: x6 :: x7 :: x8 :: x9 :: x10 :: x11 :: x12 :: x13 :: x14 :: x15 :: x16 :: x17 :: x18 :: x19 :: z :: ρ).set (20 : Nat) y = x0 :: x1 :: x2 :: x3 :: x4 :: x5 :: x6 :: x7 :: x8 :: x9 :: x10 :: x11 :: x12 :: x13 :: x14 :: x15 :: x16 :: x17 :: x18 :: x19 :: y :: ρ := rfl
theorem ba_20 {x0 x1 x2 x3 x4 x5 x6 x7 x8 x9 x10 x11 x12 x13 x14 x15 x16 x17 x18 x19 : Sl} {z : Sl} {l : List Nat} {ρ2 : List Sl} : back ((20 : Nat) :: l) (x0 :: x1 :: x2 :: x3 :: x4 :: x5 :: x6 :: x7 :: x8 :: x9 :: x10 :: x11 :: x12 :: x13 :: x14 :: x15 :: x16 :: x17 :: x18 :: x19 :: z :: ρ) ρ2 = (back l (x0 :: x1 :: x2 :: x3 :: x4 :: x5 :: x6 :: x7 :: x8 :: x9 :: x10 :: x11 :: x12 :: x13 :: x14 :: x15 :: x16 :: x17 :: x18 :: x19 :: z :: ρ) ρ2).set (20 : Nat) z := rfl
theorem lo_s21 {x0 x1 x2 x3 x4 x5 x6 x7 x8 x9 x10 x11 x12 x13 x14 x15 x16 x17 x18 x19 x20 : Sl} : loAt (21 : Nat) (x0 :: x1 :: x2 :: x3 :: x4 :: x5 :: x6 :: x7 :: x8 :: x9 :: x10 :: x11 :: x12 :: x13 :: x14 :: x15 :: x16 :: x17 :: x18 :: x19 :: x20 :: .sh d :: ρ) = some (d, none) := rfl
theorem lo_o21 {x0 x1 x2 x3 x4 x5 x6 x7 x8 x9 x10 x11 x12 x13 x14 x15 x16 x17 x18 x19 x20 : Sl} : loAt (21 : Nat) (x0 :: x1 :: x2 :: x3 :: x4 :: x5 :: x6 :: x7 :: x8 :: x9 :: x10 :: x11 :: x12 :: x13 :: x14 :: x15 :: x16 :: x17 :: x18 :: x19 :: x20 :: .ow d :: ρ) = some (d, some 21) := rfl
theorem cu_s21 {x0 x1 x2 x3 x4 x5 x6 x7 x8 x9 x10 x11 x12 x13 x14 x15 x16 x17 x18 x19 x20 : Sl} {e : D} : cur (some (21 : Nat)) e (x0 :: x1 :: x2 :: x3 :: x4 :: x5 :: x6 :: x7 :: x8 :: x9 :: x10 :: x11 :: x12 :: x13 :: x14 :: x15 :: x16 :: x17 :: x18 :: x19 :: x20 :: .sh d :: ρ) = some d := rfl
theorem cu_o21 {x0 x1 x2 x3 x4 x5 x6 x7 x8 x9 x10 x11 x12 x13 x14 x15 x16 x17 x18 x19 x20 : Sl} {e : D} : cur (some (21 : Nat)) e (x0 :: x1 :: x2 :: x3 :: x4 :: x5 :: x6 :: x7 :: x8 :: x9 :: x10 :: x11 :: x12 :: x13 :: x14 :: x15 :: x16 :: x17 :: x18 :: x19 :: x20 :: .ow d :: ρ) = some d := rfl
theorem fr_s21 {x0 x1 x2 x3 x4 x5 x6 x7 x8 x9 x10 x11 x12 x13 x14 x15 x16 x17 x18 x19 x20 : Sl} : frz (some (21 : Nat)) (x0 :: x1 :: x2 :: x3 :: x4 :: x5 :: x6 :: x7 :: x8 :: x9 :: x10 :: x11 :: x12 :: x13 :: x14 :: x15 :: x16 :: x17 :: x18 :: x19 :: x20 :: .sh d :: ρ) = x0 :: x1 :: x2 :: x3 :: x4 :: x5 :: x6 :: x7 :: x8 :: x9 :: x10 :: x11 :: x12 :: x13 :: x14 :: x15 :: x16 :: x17 :: x18 :: x19 :: x20 :: .sh d :: ρ := rfl
theorem fr_o21 {x0 x1 x2 x3 x4 x5 x6 x7 x8 x9 x10 x11 x12 x13 x14 x15 x16 x17 x18 x19 x20 : Sl} : frz (some (21 : Nat)) (x0 :: x1 :: x2 :: x3 :: x4 :: x5 :: x6 :: x7 :: x8 :: x9 :: x10 :: x11 :: x12 :: x13 :: x14 :: x15 :: x16 :: x17 :: x18 :: x19 :: x20 :: .ow d :: ρ) = x0 :: x1 :: x2 :: x3 :: x4 :: x5 :: x6 :: x7 :: x8 :: x9 :: x10 :: x11 :: x12 :: x13 :: x14 :: x15 :: x16 :: x17 :: x18 :: x19 :: x20 :: .sh d :: ρ := rfl
theorem ow_o21 {x0 x1 x2 x3 x4 x5 x6 x7 x8 x9 x10 x11 x12 x13 x14 x15 x16 x17 x18 x19 x20 : Sl} : owAt (21 : Nat) (x0 :: x1 :: x2 :: x3 :: x4 :: x5 :: x6 :: x7 :: x8 :: x9 :: x10 :: x11 :: x12 :: x13 :: x14 :: x15 :: x16 :: x17 :: x18 :: x19 :: x20 :: .ow d :: ρ) = some d := rfl
theorem sh_s21 {x0 x1 x2 x3 x4 x5 x6 x7 x8 x9 x10 x11 x12 x13 x14 x15 x16 x17 x18 x19 x20 : Sl} : shAt (21 : Nat) (x0 :: x1 :: x2 :: x3 :: x4 :: x5 :: x6 :: x7 :: x8 :: x9 :: x10 :: x11 :: x12 :: x13 :: x14 :: x15 :: x16 :: x17 :: x18 :: x19 :: x20 :: .sh d :: ρ) = some d := rfl
theorem un_s21 {x0 x1 x2 x3 x4 x5 x6 x7 x8 x9 x10 x11 x12 x13 x14 x15 x16 x17 x18 x19 x20 : Sl} : unAt (21 : Nat) (x0 :: x1 :: x2 :: x3 :: x4 :: x5 :: x6 :: x7 :: x8 :: x9 :: x10 :: x11 :: x12 :: x13 :: x14 :: x15 :: x16 :: x17 :: x18 :: x19 :: x20 :: .sh d :: ρ) = some (.sh d, x0 :: x1 :: x2 :: x3 :: x4 :: x5 :: x6 :: x7 :: x8 :: x9 :: x10 :: x11 :: x12 :: x13 :: x14 :: x15 :: x16 :: x17 :: x18 :: x19 :: x20 :: .sh d :: ρ) := rfl
theorem un_o21 {x0 x1 x2 x3 x4 x5 x6 x7 x8 x9 x10 x11 x12 x13 x14 x15 x16 x17 x18 x19 x20 : Sl} : unAt (21 : Nat) (x0 :: x1 :: x2 :: x3 :: x4 :: x5 :: x6 :: x7 :: x8 :: x9 :: x10 :: x11 :: x12 :: x13 :: x14 :: x15 :: x16 :: x17 :: x18 :: x19 :: x20 :: .ow d :: ρ) = some (.ow d, x0 :: x1 :: x2 :: x3 :: x4 :: x5 :: x6 :: x7 :: x8 :: x9 :: x10 :: x11 :: x12 :: x13 :: x14 :: x15 :: x16 :: x17 :: x18 :: x19 :: x20 :: .un :: ρ) := rfl
theorem st_s21 {x0 x1 x2 x3 x4 x5 x6 x7 x8 x9 x10 x11 x12 x13 x14 x15 x16 x17 x18 x19 x20 : Sl} {y0 y1 y2 y3 y4 y5 y6 y7 y8 y9 y10 y11 y12 y13 y14 y15 y16 y17 y18 y19 y20 : Sl} {ρ2 : List Sl} : stillB (some (21 : Nat)) (x0 :: x1 :: x2 :: x3 :: x4 :: x5 :: x6 :: x7 :: x8 :: x9 :: x10 :: x11 :: x12 :: x13 :: x14 :: x15 :: x16 :: x17 :: x18 :: x19 :: x20 :: .sh d :: ρ) (y0 :: y1 :: y2 :: y3 :: y4 :: y5 :: y6 :: y7 :: y8 :: y9 :: y10 :: y11 :: y12 :: y13 :: y14 :: y15 :: y16 :: y17 :: y18 :: y19 :: y20 :: .sh d :: ρ2) = true := dEq_refl d
theorem st_o21 {x0 x1 x2 x3 x4 x5 x6 x7 x8 x9 x10 x11 x12 x13 x14 x15 x16 x17 x18 x19 x20 : Sl} {y0 y1 y2 y3 y4 y5 y6 y7 y8 y9 y10 y11 y12 y13 y14 y15 y16 y17 y18 y19 y20 : Sl} {ρ2 : List Sl} : stillB (some (21 : Nat)) (x0 :: x1 :: x2 :: x3 :: x4 :: x5 :: x6 :: x7 :: x8 :: x9 :: x10 :: x11 :: x12 :: x13 :: x14 :: x15 :: x16 :: x17 :: x18 :: x19 :: x20 :: .ow d :: ρ) (y0 :: y1 :: y2 :: y3 :: y4 :: y5 :: y6 :: y7 :: y8 :: y9 :: y10 :: y11 :: y12 :: y13 :: y14 :: y15 :: y16 :: y17 :: y18 :: y19 :: y20 :: .ow d :: ρ2) = true := dEq_refl d
theorem se_21 {x0 x1 x2 x3 x4 x5 x6 x7 x8 x9 x10 x11 x12 x13 x14 x15 x16 x17 x18 x19 x20 : Sl} {z y : Sl} : (x0 :: x1 :: x2 :: x3 :: x4 :: x5 :: x6 :: x7 :: x8 :: x9 :: x10 :: x11 :: x12 :: x13 :: x14 :: x15 :: x16 :: x17 :: x18 :: x19 :: x20 :: z :: ρ).set (21 : Nat) y = x0 :: x1 :: x2 :: x3 :: x4 :: x5 :: x6 :: x7 :: x8 :: x9 :: x10 :: x11 :: x12 :: x13 :: x14 :: x15 :: x16 :: x17 :: x18 :: x19 :: x20 :: y :: ρ := rfl
theorem ba_21 {x0 x1 x2 x3 x4 x5 x6 x7 x8 x9 x10 x11 x12 x13 x14 x15 x16 x17 x18 x19 x20 : Sl} {z : Sl} {l : List Nat} {ρ2 : List Sl} : back ((21 : Nat) :: l) (x0 :: x1 :: x2 :: x3 :: x4 :: x5 :: x6 :: x7 :: x8 :: x9 :: x10 :: x11 :: x12 :: x13 :: x14 :: x15 :: x16 :: x17 :: x18 :: x19 :: x20 :: z :: ρ) ρ2 = (back l (x0 :: x1 :: x2 :: x3 :: x4 :: x5 :: x6 :: x7 :: x8 :: x9 :: x10 :: x11 :: x12 :: x13 :: x14 :: x15 :: x16 :: x17 :: x18 :: x19 :: x20 :: z :: ρ) ρ2).set (21 : Nat) z := rfl
theorem lo_s22 {x0 x1 x2 x3 x4 x5 x6 x7 x8 x9 x10 x11 x12 x13 x14 x15 x16 x17 x18 x19 x20 x21 : Sl} : loAt (22 : Nat) (x0 :: x1 :: x2 :: x3 :: x4 :: x5 :: x6 :: x7 :: x8 :: x9 :: x10 :: x11 :: x12 :: x13 :: x14 :: x15 :: x16 :: x17 :: x18 :: x19 :: x20 :: x21 :: .sh d :: ρ) = some (d, none) := rfl
theorem lo_o22 {x0 x1 x2 x3 x4 x5 x6 x7 x8 x9 x10 x11 x12 x13 x14 x15 x16 x17 x18 x19 x20 x21 : Sl} : loAt (22 : Nat) (x0 :: x1 :: x2 :: x3 :: x4 :: x5 :: x6 :: x7 :: x8 :: x9 :: x10 :: x11 :: x12 :: x13 :: x14 :: x15 :: x16 :: x17 :: x18 :: x19 :: x20 :: x21 :: .ow d :: ρ) = some (d, some 22) := rfl
theorem cu_s22 {x0 x1 x2 x3 x4 x5 x6 x7 x8 x9 x10 x11 x12 x13 x14 x15 x16 x17 x18 x19 x20 x21 : Sl} {e : D} : cur (some (22 : Nat)) e (x0 :: x1 :: x2 :: x3 :: x4 :: x5 :: x6 :: x7 :: x8 :: x9 :: x10 :: x11 :: x12 :: x13 :: x14 :: x15 :: x16 :: x17 :: x18 :: x19 :: x20 :: x21 :: .sh d :: ρ) = some d := rfl
theorem cu_o22 {x0 x1 x2 x3 x4 x5 x6 x7 x8 x9 x10 x11 x12 x13 x14 x15 x16 x17 x18 x19 x20 x21 : Sl} {e : D} : cur (some (22 : Nat)) e (x0 :: x1 :: x2 :: x3 :: x4 :: x5 :: x6 :: x7 :: x8 :: x9 :: x10 :: x11 :: x12 :: x13 :: x14 :: x15 :: x16 :: x17 :: x18 :: x19 :: x20 :: x21 :: .ow d :: ρ) = some d := rfl
theorem fr_s22 {x0 x1 x2 x3 x4 x5 x6 x7 x8 x9 x10 x11 x12 x13 x14 x15 x16 x17 x18 x19 x20 x21 : Sl} : frz (some (22 : Nat)) (x0 :: x1 :: x2 :: x3 :: x4 :: x5 :: x6 :: x7 :: x8 :: x9 :: x10 :: x11 :: x12 :: x13 :: x14 :: x15 :: x16 :: x17 :: x18 :: x19 :: x20 :: x21 :: .sh d :: ρ) = x0 :: x1 :: x2 :: x3 :: x4 :: x5 :: x6 :: x7 :: x8 :: x9 :: x10 :: x11 :: x12 :: x13 :: x14 :: x15 :: x16 :: x17 :: x18 :: x19 :: x20 :: x21 :: .sh d :: ρ := rfl
theorem fr_o22 {x0 x1 x2 x3 x4 x5 x6 x7 x8 x9 x10 x11 x12 x13 x14 x15 x16 x17 x18 x19 x20 x21 : Sl} : frz (some (22 : Nat)) (x0 :: x1 :: x2 :: x3 :: x4 :: x5 :: x6 :: x7 :: x8 :: x9 :: x10 :: x11 :: x12 :: x13 :: x14 :: x15 :: x16 :: x17 :: x18 :: x19 :: x20 :: x21 :: .ow d :: ρ) = x0 :: x1 :: x2 :: x3 :: x4 :: x5 :: x6 :: x7 :: x8 :: x9 :: x10 :: x11 :: x12 :: x13 :: x14 :: x15 :: x16 :: x17 :: x18 :: x19 :: x20 :: x21 :: .sh d :: ρ := rfl
theorem ow_o22 {x0 x1 x2 x3 x4 x5 x6 x7 x8 x9 x10 x11 x12 x13 x14 x15 x16 x17 x18 x19 x20 x21 : Sl} : owAt (22 : Nat) (x0 :: x1 :: x2 :: x3 :: x4 :: x5 :: x6 :: x7 :: x8 :: x9 :: x10 :: x11 :: x12 :: x13 :: x14 :: x15 :: x16 :: x17 :: x18 :: x19 :: x20 :: x21 :: .ow d :: ρ) = some d := rfl
theorem sh_s22 {x0 x1 x2 x3 x4 x5 x6 x7 x8 x9 x10 x11 x12 x13 x14 x15 x16 x17 x18 x19 x20 x21 : Sl} : shAt (22 : Nat) (x0 :: x1 :: x2 :: x3 :: x4 :: x5 :: x6 :: x7 :: x8 :: x9 :: x10 :: x11 :: x12 :: x13 :: x14 :: x15 :: x16 :: x17 :: x18 :: x19 :: x20 :: x21 :: .sh d :: ρ) = some d := rfl
theorem un_s22 {x0 x1 x2 x3 x4 x5 x6 x7 x8 x9 x10 x11 x12 x13 x14 x15 x16 x17 x18 x19 x20 x21 : Sl} : unAt (22 : Nat) (x0 :: x1 :: x2 :: x3 :: x4 :: x5 :: x6 :: x7 :: x8 :: x9 :: x10 :: x11 :: x12 :: x13 :: x14 :: x15 :: x16 :: x17 :: x18 :: x19 :: x20 :: x21 :: .sh d :: ρ) = some (.sh d, x0 :: x1 :: x2 :: x3 :: x4 :: x5 :: x6 :: x7 :: x8 :: x9 :: x10 :: x11 :: x12 :: x13 :: x14 :: x15 :: x16 :: x17 :: x18 :: x19 :: x20 :: x21 :: .sh d :: ρ) := rfl
theorem un_o22 {x0 x1 x2 x3 x4 x5 x6 x7 x8 x9 x10 x11 x12 x13 x14 x15 x16 x17 x18 x19 x20 x21 : Sl} : unAt (22 : Nat) (x0 :: x1 :: x2 :: x3 :: x4 :: x5 :: x6 :: x7 :: x8 :: x9 :: x10 :: x11 :: x12 :: x13 :: x14 :: x15 :: x16 :: x17 :: x18 :: x19 :: x20 :: x21 :: .ow d :: ρ) = some (.ow d, x0 :: x1 :: x2 :: x3 :: x4 :: x5 :: x6 :: x7 :: x8 :: x9 :: x10 :: x11 :: x12 :: x13 :: x14 :: x15 :: x16 :: x17 :: x18 :: x19 :: x20 :: x21 :: .un :: ρ) := rfl
theorem st_s22 {x0 x1 x2 x3 x4 x5 x6 x7 x8 x9 x10 x11 x12 x13 x14 x15 x16 x17 x18 x19 x20 x21 : Sl} {y0 y1 y2 y3 y4 y5 y6 y7 y8 y9 y10 y11 y12 y13 y14 y15 y16 y17 y18 y19 y20 y21 : Sl} {ρ2 : List Sl} : stillB (some (22 : Nat)) (x0 :: x1 :: x2 :: x3 :: x4 :: x5 :: x6 :: x7 :: x8 :: x9 :: x10 :: x11 :: x12 :: x13 :: x14 :: x15 :: x16 :: x17 :: x18 :: x19 :: x20 :: x21 :: .sh d :: ρ) (y0 :: y1 :: y2 :: y3 :: y4 :: y5 :: y6 :: y7 :: y8 :: y9 :: y10 :: y11 :: y12 :: y13 :: y14 :: y15 :: y16 :: y17 :: y18 :: y19 :: y20 :: y21 :: .sh d :: ρ2) = true := dEq_refl d
theorem st_o22 {x0 x1 x2 x3 x4 x5 x6 x7 x8 x9 x10 x11 x12 x13 x14 x15 x16 x17 x18 x19 x20 x21 : Sl} {y0 y1 y2 y3 y4 y5 y6 y7 y8 y9 y10 y11 y12 y13 y14 y15 y16 y17 y18 y19 y20 y21 : Sl} {ρ2 : List Sl} : stillB (some (22 : Nat)) (x0 :: x1 :: x2 :: x3 :: x4 :: x5 :: x6 :: x7 :: x8 :: x9 :: x10 :: x11 :: x12 :: x13 :: x14 :: x15 :: x16 :: x17 :: x18 :: x19 :: x20 :: x21 :: .ow d :: ρ) (y0 :: y1 :: y2 :: y3 :: y4 :: y5 :: y6 :: y7 :: y8 :: y9 :: y10 :: y11 :: y12 :: y13 :: y14 :: y15 :: y16 :: y17 :: y18 :: y19 :: y20 :: y21 :: .ow d :: ρ2) = true := dEq_refl d
theorem se_22 {x0 x1 x2 x3 x4 x5 x6 x7 x8 x9 x10 x11 x12 x13 x14 x15 x16 x17 x18 x19 x20 x21 : Sl} {z y : Sl} : (x0 :: x1 :: x2 :: x3 :: x4 :: x5 :: x6 :: x7 :: x8 :: x9 :: x10 :: x11 :: x12 :: x13 :: x14 :: x15 :: x16 :: x17 :: x18 :: x19 :: x20 :: x21 :: z :: ρ).set (22 : Nat) y = x0 :: x1 :: x2 :: x3 :: x4 :: x5 :: x6 :: x7 :: x8 :: x9 :: x10 :: x11 :: x12 :: x13 :: x14 :: x15 :: x16 :: x17 :: x18 :: x19 :: x20 :: x21 :: y :: ρ := rfl
theorem ba_22 {x0 x1 x2 x3 x4 x5 x6 x7 x8 x9 x10 x11 x12 x13 x14 x15 x16 x17 x18 x19 x20 x21 : Sl} {z : Sl} {l : List Nat} {ρ2 : List Sl} : back ((22 : Nat) :: l) (x0 :: x1 :: x2 :: x3 :: x4 :: x5 :: x6 :: x7 :: x8 :: x9 :: x10 :: x11 :: x12 :: x13 :: x14 :: x15 :: x16 :: x17 :: x18 :: x19 :: x20 :: x21 :: z :: ρ) ρ2 = (back l (x0 :: x1 :: x2 :: x3 :: x4 :: x5 :: x6 :: x7 :: x8 :: x9 :: x10 :: x11 :: x12 :: x13 :: x14 :: x15 :: x16 :: x17 :: x18 :: x19 :: x20 :: x21 :: z :: ρ) ρ2).set (22 : Nat) z := rfl
theorem lo_s23 {x0 x1 x2 x3 x4 x5 x6 x7 x8 x9 x10 x11 x12 x13 x14 x15 x16 x17 x18 x19 x20 x21 x22 : Sl} : loAt (23 : Nat) (x0 :: x1 :: x2 :: x3 :: x4 :: x5 :: x6 :: x7 :: x8 :: x9 :: x10 :: x11 :: x12 :: x13 :: x14 :: x15 :: x16 :: x17 :: x18 :: x19 :: x20 :: x21 :: x22 :: .sh d :: ρ) = some (d, none) := rfl
theorem lo_o23 {x0 x1 x2 x3 x4 x5 x6 x7 x8 x9 x10 x11 x12 x13 x14 x15 x16 x17 x18 x19 x20 x21 x22 : Sl} : loAt (23 : Nat) (x0 :: x1 :: x2 :: x3 :: x4 :: x5 :: x6 :: x7 :: x8 :: x9 :: x10 :: x11 :: x12 :: x13 :: x14 :: x15 :: x16 :: x17 :: x18 :: x19 :: x20 :: x21 :: x22 :: .ow d :: ρ) = some (d, some 23) := rfl
theorem cu_s23 {x0 x1 x2 x3 x4 x5 x6 x7 x8 x9 x10 x11 x12 x13 x14 x15 x16 x17 x18 x19 x20 x21 x22 : Sl} {e : D} : cur (some (23 : Nat)) e (x0 :: x1 :: x2 :: x3 :: x4 :: x5 :: x6 :: x7 :: x8 :: x9 :: x10 :: x11 :: x12 :: x13 :: x14 :: x15 :: x16 :: x17 :: x18 :: x19 :: x20 :: x21 :: x22 :: .sh d :: ρ) = some d := rfl
theorem cu_o23 {x0 x1 x2 x3 x4 x5 x6 x7 x8 x9 x10 x11 x12 x13 x14 x15 x16 x17 x18 x19 x20 x21 x22 : Sl} {e : D} : cur (some (23 : Nat)) e (x0 :: x1 :: x2 :: x3 :: x4 :: x5 :: x6 :: x7 :: x8 :: x9 :: x10 :: x11 :: x12 :: x13 :: x14 :: x15 :: x16 :: x17 :: x18 :: x19 :: x20 :: x21 :: x22 :: .ow d :: ρ) = some d := rfl
theorem fr_s23 {x0 x1 x2 x3 x4 x5 x6 x7 x8 x9 x10 x11 x12 x13 x14 x15 x16 x17 x18 x19 x20 x21 x22 : Sl} : frz (some (23 : Nat)) (x0 :: x1 :: x2 :: x3 :: x4 :: x5 :: x6 :: x7 :: x8 :: x9 :: x10 :: x11 :: x12 :: x13 :: x14 :: x15 :: x16 :: x17 :: x18 :: x19 :: x20 :: x21 :: x22 :: .sh d :: ρ) = x0 :: x1 :: x2 :: x3 :: x4 :: x5 :: x6 :: x7 :: x8 :: x9 :: x10 :: x11 :: x12 :: x13 :: x14 :: x15 :: x16 :: x17 :: x18 :: x19 :: x20 :: x21 :: x22 :: .sh d :: ρ := rfl
theorem fr_o23 {x0 x1 x2 x3 x4 x5 x6 x7 x8 x9 x10 x11 x12 x13 x14 x15 x16 x17 x18 x19 x20 x21 x22 : Sl} : frz (some (23 : Nat)) (x0 :: x1 :: x2 :: x3 :: x4 :: x5 :: x6 :: x7 :: x8 :: x9 :: x10 :: x11 :: x12 :: x13 :: x14 :: x15 :: x16 :: x17 :: x18 :: x19 :: x20 :: x21 :: x22 :: .ow d :: ρ) = x0 :: x1 :: x2 :: x3 :: x4 :: x5 :: x6 :: x7 :: x8 :: x9 :: x10 :: x11 :: x12 :: x13 :: x14 :: x15 :: x16 :: x17 :: x18 :: x19 :: x20 :: x21 :: x22 :: .sh d :: ρ := rfl
theorem ow_o23 {x0 x1 x2 x3 x4 x5 x6 x7 x8 x9 x10 x11 x12 x13 x14 x15 x16 x17 x18 x19 x20 x21 x22 : Sl} : owAt (23 : Nat) (x0 :: x1 :: x2 :: x3 :: x4 :: x5 :: x6 :: x7 :: x8 :: x9 :: x10 :: x11 :: x12 :: x13 :: x14 :: x15 :: x16 :: x17 :: x18 :: x19 :: x20 :: x21 :: x22 :: .ow d :: ρ) = some d := rfl
theorem sh_s23 {x0 x1 x2 x3 x4 x5 x6 x7 x8 x9 x10 x11 x12 x13 x14 x15 x16 x17 x18 x19 x20 x21 x22 : Sl} : shAt (23 : Nat) (x0 :: x1 :: x2 :: x3 :: x4 :: x5 :: x6 :: x7 :: x8 :: x9 :: x10 :: x11 :: x12 :: x13 :: x14 :: x15 :: x16 :: x17 :: x18 :: x19 :: x20 :: x21 :: x22 :: .sh d :: ρ) = some d := rfl
theorem un_s23 {x0 x1 x2 x3 x4 x5 x6 x7 x8 x9 x10 x11 x12 x13 x14 x15 x16 x17 x18 x19 x20 x21 x22 : Sl} : unAt (23 : Nat) (x0 :: x1 :: x2 :: x3 :: x4 :: x5 :: x6 :: x7 :: x8 :: x9 :: x10 :: x11 :: x12 :: x13 :: x14 :: x15 :: x16 :: x17 :: x18 :: x19 :: x20 :: x21 :: x22 :: .sh d :: ρ) = some (.sh d, x0 :: x1 :: x2 :: x3 :: x4 :: x5 :: x6 :: x7 :: x8 :: x9 :: x10 :: x11 :: x12 :: x13 :: x14 :: x15 :: x16 :: x17 :: x18 :: x19 :: x20 :: x21 :: x22 :: .sh d :: ρ) := rfl
theorem un_o23 {x0 x1 x2 x3 x4 x5 x6 x7 x8 x9 x10 x11 x12 x13 x14 x15 x16 x17 x18 x19 x20 x21 x22 : Sl} : unAt (23 : Nat) (x0 :: x1 :: x2 :: x3 :: x4 :: x5 :: x6 :: x7 :: x8 :: x9 :: x10 :: x11 :: x12 :: x13 :: x14 :: x15 :: x16 :: x17 :: x18 :: x19 :: x20 :: x21 :: x22 :: .ow d :: ρ) = some (.ow d, x0 :: x1 :: x2 :: x3 :: x4 :: x5 :: x6 :: x7 :: x8 :: x9 :: x10 :: x11 :: x12 :: x13 :: x14 :: x15 :: x16 :: x17 :: x18 :: x19 :: x20 :: x21 :: x22 :: .un :: ρ) := rfl
theorem st_s23 {x0 x1 x2 x3 x4 x5 x6 x7 x8 x9 x10 x11 x12 x13 x14 x15 x16 x17 x18 x19 x20 x21 x22 : Sl} {y0 y1 y2 y3 y4 y5 y6 y7 y8 y9 y10 y11 y12 y13 y14 y15 y16 y17 y18 y19 y20 y21 y22 : Sl} {ρ2 : List Sl} : stillB (some (23 : Nat)) (x0 :: x1 :: x2 :: x3 :: x4 :: x5 :: x6 :: x7 :: x8 :: x9 :: x10 :: x11 :: x12 :: x13 :: x14 :: x15 :: x16 :: x17 :: x18 :: x19 :: x20 :: x21 :: x22 :: .sh d :: ρ) (y0 :: y1 :: y2 :: y3 :: y4 :: y5 :: y6 :: y7 :: y8 :: y9 :: y10 :: y11 :: y12 :: y13 :: y14 :: y15 :: y16 :: y17 :: y18 :: y19 :: y20 :: y21 :: y22 :: .sh d :: ρ2) = true := dEq_refl d
theorem st_o23 {x0 x1 x2 x3 x4 x5 x6 x7 x8 x9 x10 x11 x12 x13 x14 x15 x16 x17 x18 x19 x20 x21 x22 : Sl} {y0 y1 y2 y3 y4 y5 y6 y7 y8 y9 y10 y11 y12 y13 y14 y15 y16 y17 y18 y19 y20 y21 y22 : Sl} {ρ2 : List Sl} : stillB (some (23 : Nat)) (x0 :: x1 :: x2 :: x3 :: x4 :: x5 :: x6 :: x7 :: x8 :: x9 :: x10 :: x11 :: x12 :: x13 :: x14 :: x15 :: x16 :: x17 :: x18 :: x19 :: x20 :: x21 :: x22 :: .ow d :: ρ) (y0 :: y1 :: y2 :: y3 :: y4 :: y5 :: y6 :: y7 :: y8 :: y9 :: y10 :: y11 :: y12 :: y13 :: y14 :: y15 :: y16 :: y17 :: y18 :: y19 :: y20 :: y21 :: y22 :: .ow d :: ρ2) = true := dEq_refl d
theorem se_23 {x0 x1 x2 x3 x4 x5 x6 x7 x8 x9 x10 x11 x12 x13 x14 x15 x16 x17 x18 x19 x20 x21 x22 : Sl} {z y : Sl} : (x0 :: x1 :: x2 :: x3 :: x4 :: x5 :: x6 :: x7 :: x8 :: x9 :: x10 :: x11 :: x12 :: x13 :: x14 :: x15 :: x16 :: x17 :: x18 :: x19 :: x20 :: x21 :: x22 :: z :: ρ).set (23 : Nat) y = x0 :: x1 :: x2 :: x3 :: x4 :: x5 :: x6 :: x7 :: x8 :: x9 :: x10 :: x11 :: x12 :: x13 :: x14 :: x15 :: x16 :: x17 :: x18 :: x19 :: x20 :: x21 :: x22 :: y :: ρ := rfl
theorem ba_23 {x0 x1 x2 x3 x4 x5 x6 x7 x8 x9 x10 x11 x12 x13 x14 x15 x16 x17 x18 x19 x20 x21 x22 : Sl} {z : Sl} {l : List Nat} {ρ2 : List Sl} : back ((23 : Nat) :: l) (x0 :: x1 :: x2 :: x3 :: x4 :: x5 :: x6 :: x7 :: x8 :: x9 :: x10 :: x11 :: x12 :: x13 :: x14 :: x15 :: x16 :: x17 :: x18 :: x19 :: x20 :: x21 :: x22 :: z :: ρ) ρ2 = (back l (x0 :: x1 :: x2 :: x3 :: x4 :: x5 :: x6 :: x7 :: x8 :: x9 :: x10 :: x11 :: x12 :: x13 :: x14 :: x15 :: x16 :: x17 :: x18 :: x19 :: x20 :: x21 :: x22 :: z :: ρ) ρ2).set (23 : Nat) z := rfl
theorem lo_s24 {x0 x1 x2 x3 x4 x5 x6 x7 x8 x9 x10 x11 x12 x13 x14 x15 x16 x17 x18 x19 x20 x21 x22 x23 : Sl} : loAt (24 : Nat) (x0 :: x1 :: x2 :: x3 :: x4 :: x5 :: x6 :: x7 :: x8 :: x9 :: x10 :: x11 :: x12 :: x13 :: x14 :: x15 :: x16 :: x17 :: x18 :: x19 :: x20 :: x21 :: x22 :: x23 :: .sh d :: ρ) = some (d, none) := rfl
theorem lo_o24 {x0 x1 x2 x3 x4 x5 x6 x7 x8 x9 x10 x11 x12 x13 x14 x15 x16 x17 x18 x19 x20 x21 x22 x23 : Sl} : loAt (24 : Nat) (x0 :: x1 :: x2 :: x3 :: x4 :: x5 :: x6 :: x7 :: x8 :: x9 :: x10 :: x11 :: x12 :: x13 :: x14 :: x15 :: x16 :: x17 :: x18 :: x19 :: x20 :: x21 :: x22 :: x23 :: .ow d :: ρ) = some (d, some 24) := rfl
theorem cu_s24 {x0 x1 x2 x3 x4 x5 x6 x7 x8 x9 x10 x11 x12 x13 x14 x15 x16 x17 x18 x19 x20 x21 x22 x23 : Sl} {e : D} : cur (some (24 : Nat)) e (x0 :: x1 :: x2 :: x3 :: x4 :: x5 :: x6 :: x7 :: x8 :: x9 :: x10 :: x11 :: x12 :: x13 :: x14 :: x15 :: x16 :: x17 :: x18 :: x19 :: x20 :: x21 :: x22 :: x23 :: .sh d :: ρ) = some d := rfl
theorem cu_o24 {x0 x1 x2 x3 x4 x5 x6 x7 x8 x9 x10 x11 x12 x13 x14 x15 x16 x17 x18 x19 x20 x21 x22 x23 : Sl} {e : D} : cur (some (24 : Nat)) e (x0 :: x1 :: x2 :: x3 :: x4 :: x5 :: x6 :: x7 :: x8 :: x9 :: x10 :: x11 :: x12 :: x13 :: x14 :: x15 :: x16 :: x17 :: x18 :: x19 :: x20 :: x21 :: x22 :: x23 :: .ow d :: ρ) = some d := rfl
theorem fr_s24 {x0 x1 x2 x3 x4 x5 x6 x7 x8 x9 x10 x11 x12 x13 x14 x15 x16 x17 x18 x19 x20 x21 x22 x23 : Sl} : frz (some (24 : Nat)) (x0 :: x1 :: x2 :: x3 :: x4 :: x5 :: x6 :: x7 :: x8 :: x9 :: x10 :: x11 :: x12 :: x13 :: x14 :: x15 :: x16 :: x17 :: x18 :: x19 :: x20 :: x21 :: x22 :: x23 :: .sh d :: ρ) = x0 :: x1 :: x2 :: x3 :: x4 :: x5 :: x6 :: x7 :: x8 :: x9 :: x10 :: x11 :: x12 :: x13 :: x14 :: x15 :: x16 :: x17 :: x18 :: x19 :: x20 :: x21 :: x22 :: x23 :: .sh d :: ρ := rfl
theorem fr_o24 {x0 x1 x2 x3 x4 x5 x6 x7 x8 x9 x10 x11 x12 x13 x14 x15 x16 x17 x18 x19 x20 x21 x22 x23 : Sl} : frz (some (24 : Nat)) (x0 :: x1 :: x2 :: x3 :: x4 :: x5 :: x6 :: x7 :: x8 :: x9 :: x10 :: x11 :: x12 :: x13 :: x14 :: x15 :: x16 :: x17 :: x18 :: x19 :: x20 :: x21 :: x22 :: x23 :: .ow d :: ρ) = x0 :: x1 :: x2 :: x3 :: x4 :: x5 :: x6 :: x7 :: x8 :: x9 :: x10 :: x11 :: x12 :: x13 :: x14 :: x15 :: x16 :: x17 :: x18 :: x19 :: x20 :: x21 :: x22 :: x23 :: .sh d :: ρ := rfl
theorem ow_o24 {x0 x1 x2 x3 x4 x5 x6 x7 x8 x9 x10 x11 x12 x13 x14 x15 x16 x17 x18 x19 x20 x21 x22 x23 : Sl} : owAt (24 : Nat) (x0 :: x1 :: x2 :: x3 :: x4 :: x5 :: x6 :: x7 :: x8 :: x9 :: x10 :: x11 :: x12 :: x13 :: x14 :: x15 :: x16 :: x17 :: x18 :: x19 :: x20 :: x21 :: x22 :: x23 :: .ow d :: ρ) = some d := rfl
theorem sh_s24 {x0 x1 x2 x3 x4 x5 x6 x7 x8 x9 x10 x11 x12 x13 x14 x15 x16 x17 x18 x19 x20 x21 x22 x23 : Sl} : shAt (24 : Nat) (x0 :: x1 :: x2 :: x3 :: x4 :: x5 :: x6 :: x7 :: x8 :: x9 :: x10 :: x11 :: x12 :: x13 :: x14 :: x15 :: x16 :: x17 :: x18 :: x19 :: x20 :: x21 :: x22 :: x23 :: .sh d :: ρ) = some d := rfl
theorem un_s24 {x0 x1 x2 x3 x4 x5 x6 x7 x8 x9 x10 x11 x12 x13 x14 x15 x16 x17 x18 x19 x20 x21 x22 x23 : Sl} : unAt (24 : Nat) (x0 :: x1 :: x2 :: x3 :: x4 :: x5 :: x6 :: x7 :: x8 :: x9 :: x10 :: x11 :: x12 :: x13 :: x14 :: x15 :: x16 :: x17 :: x18 :: x19 :: x20 :: x21 :: x22 :: x23 :: .sh d :: ρ) = some (.sh d, x0 :: x1 :: x2 :: x3 :: x4 :: x5 :: x6 :: x7 :: x8 :: x9 :: x10 :: x11 :: x12 :: x13 :: x14 :: x15 :: x16 :: x17 :: x18 :: x19 :: x20 :: x21 :: x22 :: x23 :: .sh d :: ρ) := rfl
theorem un_o24 {x0 x1 x2 x3 x4 x5 x6 x7 x8 x9 x10 x11 x12 x13 x14 x15 x16 x17 x18 x19 x20 x21 x22 x23 : Sl} : unAt (24 : Nat) (x0 :: x1 :: x2 :: x3 :: x4 :: x5 :: x6 :: x7 :: x8 :: x9 :: x10 :: x11 :: x12 :: x13 :: x14 :: x15 :: x16 :: x17 :: x18 :: x19 :: x20 :: x21 :: x22 :: x23 :: .ow d :: ρ) = some (.ow d, x0 :: x1 :: x2 :: x3 :: x4 :: x5 :: x6 :: x7 :: x8 :: x9 :: x10 :: x11 :: x12 :: x13 :: x14 :: x15 :: x16 :: x17 :: x18 :: x19 :: x20 :: x21 :: x22 :: x23 :: .un :: ρ) := rfl
theorem st_s24 {x0 x1 x2 x3 x4 x5 x6 x7 x8 x9 x10 x11 x12 x13 x14 x15 x16 x17 x18 x19 x20 x21 x22 x23 : Sl} {y0 y1 y2 y3 y4 y5 y6 y7 y8 y9 y10 y11 y12 y13 y14 y15 y16 y17 y18 y19 y20 y21 y22 y23 : Sl} {ρ2 : List Sl} : stillB (some (24 : Nat)) (x0 :: x1 :: x2 :: x3 :: x4 :: x5 :: x6 :: x7 :: x8 :: x9 :: x10 :: x11 :: x12 :: x13 :: x14 :: x15 :: x16 :: x17 :: x18 :: x19 :: x20 :: x21 :: x22 :: x23 :: .sh d :: ρ) (y0 :: y1 :: y2 :: y3 :: y4 :: y5 :: y6 :: y7 :: y8 :: y9 :: y10 :: y11 :: y12 :: y13 :: y14 :: y15 :: y16 :: y17 :: y18 :: y19 :: y20 :: y21 :: y22 :: y23 :: .sh d :: ρ2) = true := dEq_refl d
theorem st_o24 {x0 x1 x2 x3 x4 x5 x6 x7 x8 x9 x10 x11 x12 x13 x14 x15 x16 x17 x18 x19 x20 x21 x22 x23 : Sl} {y0 y1 y2 y3 y4 y5 y6 y7 y8 y9 y10 y11 y12 y13 y14 y15 y16 y17 y18 y19 y20 y21 y22 y23 : Sl} {ρ2 : List Sl} : stillB (some (24 : Nat)) (x0 :: x1 :: x2 :: x3 :: x4 :: x5 :: x6 :: x7 :: x8 :: x9 :: x10 :: x11 :: x12 :: x13 :: x14 :: x15 :: x16 :: x17 :: x18 :: x19 :: x20 :: x21 :: x22 :: x23 :: .ow d :: ρ) (y0 :: y1 :: y2 :: y3 :: y4 :: y5 :: y6 :: y7 :: y8 :: y9 :: y10 :: y11 :: y12 :: y13 :: y14 :: y15 :: y16 :: y17 :: y18 :: y19 :: y20 :: y21 :: y22 :: y23 :: .ow d :: ρ2) = true := dEq_refl d
theorem se_24 {x0 x1 x2 x3 x4 x5 x6 x7 x8 x9 x10 x11 x12 x13 x14 x15 x16 x17 x18 x19 x20 x21 x22 x23 : Sl} {z y : Sl} : (x0 :: x1 :: x2 :: x3 :: x4 :: x5 :: x6 :: x7 :: x8 :: x9 :: x10 :: x11 :: x12 :: x13 :: x14 :: x15 :: x16 :: x17 :: x18 :: x19 :: x20 :: x21 :: x22 :: x23 :: z :: ρ).set (24 : Nat) y = x0 :: x1 :: x2 :: x3 :: x4 :: x5 :: x6 :: x7 :: x8 :: x9 :: x10 :: x11 :: x12 :: x13 :: x14 :: x15 :: x16 :: x17 :: x18 :: x19 :: x20 :: x21 :: x22 :: x23 :: y :: ρ := rfl
theorem ba_24 {x0 x1 x2 x3 x4 x5 x6 x7 x8 x9 x10 x11 x12 x13 x14 x15 x16 x17 x18 x19 x20 x21 x22 x23 : Sl} {z : Sl} {l : List Nat} {ρ2 : List Sl} : back ((24 : Nat) :: l) (x0 :: x1 :: x2 :: x3 :: x4 :: x5 :: x6 :: x7 :: x8 :: x9 :: x10 :: x11 :: x12 :: x13 :: x14 :: x15 :: x16 :: x17 :: x18 :: x19 :: x20 :: x21 :: x22 :: x23 :: z :: ρ) ρ2 = (back l (x0 :: x1 :: x2 :: x3 :: x4 :: x5 :: x6 :: x7 :: x8 :: x9 :: x10 :: x11 :: x12 :: x13 :: x14 :: x15 :: x16 :: x17 :: x18 :: x19 :: x20 :: x21 :: x22 :: x23 :: z :: ρ) ρ2).set (24 : Nat) z := rfl
theorem lo_s25 {x0 x1 x2 x3 x4 x5 x6 x7 x8 x9 x10 x11 x12 x13 x14 x15 x16 x17 x18 x19 x20 x21 x22 x23 x24 : Sl} : loAt (25 : Nat) (x0 :: x1 :: x2 :: x3 :: x4 :: x5 :: x6 :: x7 :: x8 :: x9 :: x10 :: x11 :: x12 :: x13 :: x14 :: x15 :: x16 :: x17 :: x18 :: x19 :: x20 :: x21 :: x22 :: x23 :: x24 :: .sh d :: ρ) = some (d, none) := rfl
theorem lo_o25 {x0 x1 x2 x3 x4 x5 x6 x7 x8 x9 x10 x11 x12 x13 x14 x15 x16 x17 x18 x19 x20 x21 x22 x23 x24 : Sl} : loAt (25 : Nat) (x0 :: x1 :: x2 :: x3 :: x4 :: x5 :: x6 :: x7 :: x8 :: x9 :: x10 :: x11 :: x12 :: x13 :: x14 :: x15 :: x16 :: x17 :: x18 :: x19 :: x20 :: x21 :: x22 :: x23 :: x24 :: .ow d :: ρ) = some (d, some 25) := rfl
theorem cu_s25 {x0 x1 x2 x3 x4 x5 x6 x7 x8 x9 x10 x11 x12 x13 x14 x15 x16 x17 x18 x19 x20 x21 x22 x23 x24 : Sl} {e : D} : cur (some (25 : Nat)) e (x0 :: x1 :: x2 :: x3 :: x4 :: x5 :: x6 :: x7 :: x8 :: x9 :: x10 :: x11 :: x12 :: x13 :: x14 :: x15 :: x16 :: x17 :: x18 :: x19 :: x20 :: x21 :: x22 :: x23 :: x24 :: .sh d :: ρ) = some d := rfl
theorem cu_o25 {x0 x1 x2 x3 x4 x5 x6 x7 x8 x9 x10 x11 x12 x13 x14 x15 x16 x17 x18 x19 x20 x21 x22 x23 x24 : Sl} {e : D} : cur (some (25 : Nat)) e (x0 :: x1 :: x2 :: x3 :: x4 :: x5 :: x6 :: x7 :: x8 :: x9 :: x10 :: x11 :: x12 :: x13 :: x14 :: x15 :: x16 :: x17 :: x18 :: x19 :: x20 :: x21 :: x22 :: x23 :: x24 :: .ow d :: ρ) = some d := rfl
theorem fr_s25 {x0 x1 x2 x3 x4 x5 x6 x7 x8 x9 x10 x11 x12 x13 x14 x15 x16 x17 x18 x19 x20 x21 x22 x23 x24 : Sl} : frz (some (25 : Nat)) (x0 :: x1 :: x2 :: x3 :: x4 :: x5 :: x6 :: x7 :: x8 :: x9 :: x10 :: x11 :: x12 :: x13 :: x14 :: x15 :: x16 :: x17 :: x18 :: x19 :: x20 :: x21 :: x22 :: x23 :: x24 :: .sh d :: ρ) = x0 :: x1 :: x2 :: x3 :: x4 :: x5 :: x6 :: x7 :: x8 :: x9 :: x10 :: x11 :: x12 :: x13 :: x14 :: x15 :: x16 :: x17 :: x18 :: x19 :: x20 :: x21 :: x22 :: x23 :: x24 :: .sh d :: ρ := rfl
theorem fr_o25 {x0 x1 x2 x3 x4 x5 x6 x7 x8 x9 x10 x11 x12 x13 x14 x15 x16 x17 x18 x19 x20 x21 x22 x23 x24 : Sl} : frz (some (25 : Nat)) (x0 :: x1 :: x2 :: x3 :: x4 :: x5 :: x6 :: x7 :: x8 :: x9 :: x10 :: x11 :: x12 :: x13 :: x14 :: x15 :: x16 :: x17 :: x18 :: x19 :: x20 :: x21 :: x22 :: x23 :: x24 :: .ow d :: ρ) = x0 :: x1 :: x2 :: x3 :: x4 :: x5 :: x6 :: x7 :: x8 :: x9 :: x10 :: x11 :: x12 :: x13 :: x14 :: x15 :: x16 :: x17 :: x18 :: x19 :: x20 :: x21 :: x22 :: x23 :: x24 :: .sh d :: ρ := rfl
theorem ow_o25 {x0 x1 x2 x3 x4 x5 x6 x7 x8 x9 x10 x11 x12 x13 x14 x15 x16 x17 x18 x19 x20 x21 x22 x23 x24 : Sl} : owAt (25 : Nat) (x0 :: x1 :: x2 :: x3 :: x4 :: x5 :: x6 :: x7 :: x8 :: x9 :: x10 :: x11 :: x12 :: x13 :: x14 :: x15 :: x16 :: x17 :: x18 :: x19 :: x20 :: x21 :: x22 :: x23 :: x24 :: .ow d :: ρ) = some d := rfl
theorem sh_s25 {x0 x1 x2 x3 x4 x5 x6 x7 x8 x9 x10 x11 x12 x13 x14 x15 x16 x17 x18 x19 x20 x21 x22 x23 x24 : Sl} : shAt (25 : Nat) (x0 :: x1 :: x2 :: x3 :: x4 :: x5 :: x6 :: x7 :: x8 :: x9 :: x10 :: x11 :: x12 :: x13 :: x14 :: x15 :: x16 :: x17 :: x18 :: x19 :: x20 :: x21 :: x22 :: x23 :: x24 :: .sh d :: ρ) = some d := rfl
theorem un_s25 {x0 x1 x2 x3 x4 x5 x6 x7 x8 x9 x10 x11 x12 x13 x14 x15 x16 x17 x18 x19 x20 x21 x22 x23 x24 : Sl} : unAt (25 : Nat) (x0 :: x1 :: x2 :: x3 :: x4 :: x5 :: x6 :: x7 :: x8 :: x9 :: x10 :: x11 :: x12 :: x13 :: x14 :: x15 :: x16 :: x17 :: x18 :: x19 :: x20 :: x21 :: x22 :: x23 :: x24 :: .sh d :: ρ) = some (.sh d, x0 :: x1 :: x2 :: x3 :: x4 :: x5 :: x6 :: x7 :: x8 :: x9 :: x10 :: x11 :: x12 :: x13 :: x14 :: x15 :: x16 :: x17 :: x18 :: x19 :: x20 :: x21 :: x22 :: x23 :: x24 :: .sh d :: ρ) := rfl
theorem un_o25 {x0 x1 x2 x3 x4 x5 x6 x7 x8 x9 x10 x11 x12 x13 x14 x15 x16 x17 x18 x19 x20 x21 x22 x23 x24 : Sl} : unAt (25 : Nat) (x0 :: x1 :: x2 :: x3 :: x4 :: x5 :: x6 :: x7 :: x8 :: x9 :: x10 :: x11 :: x12 :: x13 :: x14 :: x15 :: x16 :: x17 :: x18 :: x19 :: x20 :: x21 :: x22 :: x23 :: x24 :: .ow d :: ρ) = some (.ow d, x0 :: x1 :: x2 :: x3 :: x4 :: x5 :: x6 :: x7 :: x8 :: x9 :: x10 :: x11 :: x12 :: x13 :: x14 :: x15 :: x16 :: x17 :: x18 :: x19 :: x20 :: x21 :: x22 :: x23 :: x24 :: .un :: ρ) := rfl
theorem st_s25 {x0 x1 x2 x3 x4 x5 x6 x7 x8 x9 x10 x11 x12 x13 x14 x15 x16 x17 x18 x19 x20 x21 x22 x23 x24 : Sl} {y0 y1 y2 y3 y4 y5 y6 y7 y8 y9 y10 y11 y12 y13 y14 y15 y16 y17 y18 y19 y20 y21 y22 y23 y24 : Sl} {ρ2 : List Sl} : stillB (some (25 : Nat)) (x0 :: x1 :: x2 :: x3 :: x4 :: x5 :: x6 :: x7 :: x8 :: x9 :: x10 :: x11 :: x12 :: x13 :: x14 :: x15 :: x16 :: x17 :: x18 :: x19 :: x20 :: x21 :: x22 :: x23 :: x24 :: .sh d :: ρ) (y0 :: y1 :: y2 :: y3 :: y4 :: y5 :: y6 :: y7 :: y8 :: y9 :: y10 :: y11 :: y12 :: y13 :: y14 :: y15 :: y16 :: y17 :: y18 :: y19 :: y20 :: y21 :: y22 :: y23 :: y24 :: .sh d :: ρ2) = true := dEq_refl d
theorem st_o25 {x0 x1 x2 x3 x4 x5 x6 x7 x8 x9 x10 x11 x12 x13 x14 x15 x16 x17 x18 x19 x20 x21 x22 x23 x24 : Sl} {y0 y1 y2 y3 y4 y5 y6 y7 y8 y9 y10 y11 y12 y13 y14 y15 y16 y17 y18 y19 y20 y21 y22 y23 y24 : Sl} {ρ2 : List Sl} : stillB (some (25 : Nat)) (x0 :: x1 :: x2 :: x3 :: x4 :: x5 :: x6 :: x7 :: x8 :: x9 :: x10 :: x11 :: x12 :: x13 :: x14 :: x15 :: x16 :: x17 :: x18 :: x19 :: x20 :: x21 :: x22 :: x23 :: x24 :: .ow d :: ρ) (y0 :: y1 :: y2 :: y3 :: y4 :: y5 :: y6 :: y7 :: y8 :: y9 :: y10 :: y11 :: y12 :: y13 :: y14 :: y15 :: y16 :: y17 :: y18 :: y19 :: y20 :: y21 :: y22 :: y23 :: y24 :: .ow d :: ρ2) = true := dEq_refl d
theorem se_25 {x0 x1 x2 x3 x4 x5 x6 x7 x8 x9 x10 x11 x12 x13 x14 x15 x16 x17 x18 x19 x20 x21 x22 x23 x24 : Sl} {z y : Sl} : (x0 :: x1 :: x2 :: x3 :: x4 :: x5 :: x6 :: x7 :: x8 :: x9 :: x10 :: x11 :: x12 :: x13 :: x14 :: x15 :: x16 :: x17 :: x18 :: x19 :: x20 :: x21 :: x22 :: x23 :: x24 :: z :: ρ).set (25 : Nat) y = x0 :: x1 :: x2 :: x3 :: x4 :: x5 :: x6 :: x7 :: x8 :: x9 :: x10 :: x11 :: x12 :: x13 :: x14 :: x15 :: x16 :: x17 :: x18 :: x19 :: x20 :: x21 :: x22 :: x23 :: x24 :: y :: ρ := rfl
theorem ba_25 {x0 x1 x2 x3 x4 x5 x6 x7 x8 x9 x10 x11 x12 x13 x14 x15 x16 x17 x18 x19 x20 x21 x22 x23 x24 : Sl} {z : Sl} {l : List Nat} {ρ2 : List Sl} : back ((25 : Nat) :: l) (x0 :: x1 :: x2 :: x3 :: x4 :: x5 :: x6 :: x7 :: x8 :: x9 :: x10 :: x11 :: x12 :: x13 :: x14 :: x15 :: x16 :: x17 :: x18 :: x19 :: x20 :: x21 :: x22 :: x23 :: x24 :: z :: ρ) ρ2 = (back l (x0 :: x1 :: x2 :: x3 :: x4 :: x5 :: x6 :: x7 :: x8 :: x9 :: x10 :: x11 :: x12 :: x13 :: x14 :: x15 :: x16 :: x17 :: x18 :: x19 :: x20 :: x21 :: x22 :: x23 :: x24 :: z :: ρ) ρ2).set (25 : Nat) z := rfl
theorem cu_n {e : D} : cur none e ρ = some e := rfl
theorem fr_n : frz none ρ = ρ := rfl
theorem ba_n {ρ2 : List Sl} : back [] ρ ρ2 = ρ2 := rfl
theorem wi_n : wipeS ρ [] = ρ := rfl
theorem wi_c {v : Nat} {l : List Nat} : wipeS ρ (v :: l) = (wipeS ρ l).set v .un := rfl
theorem sl_n {l : List D} : setL ρ [] l = ρ := by cases l <;> rfl
theorem sl_c {v : Nat} {l : List Nat} {x : D} {ds : List D} : setL ρ (v :: l) (x :: ds) = setL (ρ.set v (.sh x)) l ds := rfl
theorem cs_n : curs [] ρ = some [] := rfl
theorem cs_c {x : D} {s : Option Nat} {r : List Raw} {β : Type} {K : Kt (List D) β} : @bnI _ _ (curs ((x, s) :: r) ρ) K = @bnI _ _ (cur s x ρ) ⟨fun d => @bnI _ _ (curs r ρ) ⟨fun ds => K.f (d :: ds)⟩⟩ := by
  unfold bnI
  rw [curs]
  cases cur s x ρ with
  | none => rfl
  | some d => exact Option.bind_map ..
theorem fs_n : frzs [] ρ = ρ := rfl
theorem fs_c {x : D} {s : Option Nat} {r : List Raw} : frzs ((x, s) :: r) ρ = frzs r (frz s ρ) := rfl
theorem st_n {ρ2 : List Sl} : stillB none ρ ρ2 = true := rfl
end
theorem xCon_f (p : PF) (hio : p.io = false) (rs : List Raw) (ρ : List Sl) {β : Type} {K : Kt (Sl × List Sl) β} : @bnI _ _ (xCon p rs ρ) K = @bnI _ _ (curs rs ρ) ⟨fun ds => @bnI _ _ (p.f ds) ⟨fun xo => match p.ret with
    | .flt => K.f (.sh xo.1, ρ)
    | r => K.f (r.sl xo.1, frzs rs ρ)⟩⟩ := by
  unfold xCon
  rw [hio]
  dsimp only
  rw [bn_bind]
  unfold bnI
  refine bcg fun ds => ?_
  dsimp only
  rw [Option.bind_map]
  refine bcg fun xo => ?_
  cases p.ret <;> rfl
theorem xCon_t (p : PF) (hio : p.io = true) (x : D) (i : Nat) (r : List Raw) (ρ : List Sl) {β : Type} {K : Kt (Sl × List Sl) β} : @bnI _ _ (xCon p ((x, some i) :: r) ρ) K = @bnI _ _ (owAt i (frzs r ρ)) ⟨fun d => @bnI _ _ (curs r ρ) ⟨fun ds => @bnI _ _ (p.f (d :: ds)) ⟨fun xo => K.f (p.ret.sl xo.1, (frzs r ρ).set i (.ow xo.2))⟩⟩⟩ := by
  unfold xCon
  rw [hio]
  dsimp only
  unfold owAt
  cases (frzs r ρ)[i]? with
  | none => rfl
  | some y =>
    cases y with
    | ow d =>
      dsimp only
      rw [bn_bind]
      show (curs r ρ).bind _ = (curs r ρ).bind _
      refine bcg fun ds => ?_
      dsimp only
      rw [bn_map]
    | _ => rfl
theorem fl_nor (d : D) : RK.nor.sl d = .sh d := rfl
theorem fl_flt (d : D) : RK.flt.sl d = .sh d := rfl
theorem fl_lst (l : List D) : RK.fre.sl (.lst l) = .ow (.lst l) := rfl
theorem fl_dic (l : List (Key × D)) : RK.fre.sl (.dic l) = .ow (.dic l) := rfl
theorem fl_non : RK.fre.sl .non = .sh .non := rfl
theorem fl_bl (b : Bool) : RK.fre.sl (.bl b) = .sh (.bl b) := rfl
theorem fl_tup (l : List D) : RK.fre.sl (.tup l) = .ow (.tup l) := rfl
theorem sd_s (d : D) : Sl.d (.sh d) = d := rfl
theorem sd_o (d : D) : Sl.d (.ow d) = d := rfl
end FT

set_option Elab.async false
set_option linter.all false
set_option maxRecDepth 100000
set_option autoImplicit false
set_option maxHeartbeats 4000000
namespace FT
open PySem PySem.Spec PyProof.Rows L2
/-! ### texts and lists as data -/
/-- a whole number as data -/
abbrev dN (n : Nat) : D := .int (n : Int)
/-- a text of one sign -/
abbrev sC (c : Nat) : Str := ⟨#[c]⟩
/-- a text of these signs -/
def mS (l : List Nat) : Str := ⟨l.toArray⟩
theorem mS_signs (l : List Nat) : signs (mS l) = l.map fun c => .str (sC c) := by simp [mS, signs]
/-! ### places -/
theorem atI_natE {α : Type} (xs : List α) (n : Nat) : atI xs (n : Int) = xs[n]? := by
  unfold atI
  unfold ixN
  rw [if_pos (by omega)]
  by_cases h : n < xs.length
  · rw [if_pos (by omega)]; rfl
  · rw [if_neg (by omega)]
    simp [h]
theorem atI_0 {α : Type} (xs : List α) : atI xs 0 = xs[0]? := atI_natE xs 0
theorem atI_1 {α : Type} (xs : List α) : atI xs 1 = xs[1]? := atI_natE xs 1
theorem atI_2 {α : Type} (xs : List α) : atI xs 2 = xs[2]? := atI_natE xs 2
theorem atI_map {α β : Type} (f : α → β) (xs : List α) (i : Int) : atI (xs.map f) i = (atI xs i).map f := by
  unfold atI
  rw [List.length_map]
  cases ixN xs.length i with
  | none => rfl
  | some j => exact List.getElem?_map ..
theorem ixL {α : Type} (f : α → D) (l : List α) {n : Nat} {x : α} (h : l[n]? = some x) : ixD (.lst (l.map f)) (.int (n : Int)) = some (f x) := by
  show atI _ _ = _
  rw [atI_map, atI_natE, h]; rfl
theorem ixL0 (x : D) (l : List D) : ixD (.lst (x :: l)) (.int 0) = some x := by
  show atI _ _ = _
  rw [atI_0]; rfl
theorem ixL1 (x y : D) (l : List D) : ixD (.lst (x :: y :: l)) (.int 1) = some y := by
  show atI _ _ = _
  rw [atI_1]; rfl
theorem ixL2 (x y z : D) (l : List D) : ixD (.lst (x :: y :: z :: l)) (.int 2) = some z := by
  show atI _ _ = _
  rw [atI_2]; rfl
theorem iter_lst (l : List D) : iterD (.lst l) = some l := rfl
theorem iter_tup (l : List D) : iterD (.tup l) = some l := rfl
theorem iter_mS (l : List Nat) : iterD (.str (mS l)) = some (l.map fun c => .str (sC c)) := by
  show some (signs _) = _
  rw [mS_signs]
theorem iterS_lst (l : List D) : iterS (.lst l) = some l := rfl
theorem iterS_mS (l : List Nat) : iterS (.str (mS l)) = some (l.map fun c => .str (sC c)) := by
  show some (signs _) = _
  rw [mS_signs]
/-! ### equality -/
theorem eq_str (a b : Str) : eqB (.str a) (.str b) = decide (a = b) := by rw [eqB]
theorem eq_int (a b : Int) : eqB (.int a) (.int b) = decide (a = b) := by rw [eqB]
theorem cE_str (a b : Str) : cmpD .Eq (.str a) (.str b) = some (decide (a = b)) := by rw [cEq]; simp [eq_str, okN]
theorem cN_str (a b : Str) : cmpD .NotEq (.str a) (.str b) = some (!decide (a = b)) := by rw [cNe]; simp [eq_str, okN]
theorem cE_int (a b : Int) : cmpD .Eq (.int a) (.int b) = some (decide (a = b)) := by rw [cEq]; simp [eq_int, okN]
theorem cN_int (a b : Int) : cmpD .NotEq (.int a) (.int b) = some (!decide (a = b)) := by rw [cNe]; simp [eq_int, okN]
/-- an encoding that == and `in` know well -/
structure En {α : Type} (f : α → D) : Prop where
  ok : ∀ a, okN 6 (f a) = true
  eq : ∀ a b, eqB (f a) (f b) = true ↔ a = b
/-! ### loops -/
section
variable {Φ : Nat → Option PF}
end
end FT
namespace FT
open PySem PySem.Spec PyProof.Rows L2
theorem op_mk {Φ : Nat → Option PF} {io : Bool} {ret : RK} {n np : Nat} {tree : Ss} {ds : List D} {ρ : List Sl} (hl : ds.length = np) (hi : initS io ds n = ρ) : (mkF Φ io ret n tree np).f ds = @bnI _ _ (xB Φ tree ρ) ⟨endF io ret⟩ := by
  show guardO (decide (ds.length = np)) ((xB Φ tree (initS io ds n)).bind (endF io ret)) = _
  rw [decide_eq_true hl, hi]; rfl
theorem endf_rt {ret : RK} {s : Sl} {ρ : List Sl} : endF false ret (.rt s ρ) = guardO (ret.okB s) (some (s.d, .non)) := rfl
theorem endf_nx {ret : RK} {ρ : List Sl} : endF false ret (.nx ρ) = guardO (ret.okB (.sh .non)) (some (.non, .non)) := rfl
theorem endt_rt {ret : RK} {s : Sl} {d : D} {ρ : List Sl} : endF true ret (.rt s (.ow d :: ρ)) = guardO (ret.okB s) (some (s.d, d)) := rfl
theorem endt_nx {ret : RK} {d : D} {ρ : List Sl} : endF true ret (.nx (.ow d :: ρ)) = guardO (ret.okB (.sh .non)) (some (.non, d)) := rfl
theorem gu_t {α : Type} {x : Option α} : guardO true x = x := rfl
theorem ok_nor {s : Sl} : RK.nor.okB s = true := rfl
theorem ok_flt {s : Sl} : RK.flt.okB s = s.d.flat := rfl
theorem ok_fre_s {d : D} : RK.fre.okB (.sh d) = d.flat := rfl
theorem ok_fre_o {d : D} : RK.fre.okB (.ow d) = !d.flat := rfl
theorem fl_1 : D.flat .non = true := rfl
theorem fl_2 {b : Bool} : D.flat (.bl b) = true := rfl
theorem fl_3 {b : Int} : D.flat (.int b) = true := rfl
theorem fl_4 {b : Str} : D.flat (.str b) = true := rfl
theorem fl_5 {b : List D} : D.flat (.lst b) = false := rfl
theorem fl_6 {b : List D} : D.flat (.tup b) = false := rfl
theorem fl_7 {b : List (Key × D)} : D.flat (.dic b) = false := rfl
theorem nott : (!true) = false := rfl
theorem notf : (!false) = true := rfl
theorem fields_ins (f : Str) (c : Nat) (fs : List (Str × D)) : insF f (.ins c fs) = fs.lookup f := rfl
theorem isi_own (c d : Nat) (fs : List (Str × D)) : isiD (.ins c fs) (.own d) = some (decide (c = d)) := rfl
theorem isi_str (s : Str) : isiD (.str s) .str = some true := rfl
theorem isi_lst (s : List D) : isiD (.lst s) .list = some true := rfl
theorem isi_tup (s : List D) : isiD (.tup s) .tuple = some true := rfl
end FT

set_option Elab.async false
set_option linter.all false
set_option maxRecDepth 100000
set_option autoImplicit false
set_option maxHeartbeats 4000000
namespace FT
open PySem PySem.Spec PyProof.Rows L2
/-! ### name = {..} by the machine's short way -/
section
variable {X : Cx}
end

theorem RepK.flatF {g : G} {F F' : Hp} : ∀ {kds : List (Key × D)} {vs : List (Key × V)}, (kds.all fun e => e.2.flat) = true → RepK g F kds vs → RepK g F' kds vs
  | [], _, _, r => r
  | (k, d) :: ds, _, h, ⟨v, vr, e, q, r⟩ => by
    rw [List.all_cons, Bool.and_eq_true] at h
    exact ⟨v, vr, e, q.flat h.1, RepK.flatF h.2 r⟩
abbrev putN : List Str := ["table", "kind", "mark", "sign", "signs", "one"]
abbrev ρP (fs : List (Str × D)) (k m s : D) (s4 s5 : Sl) : List Sl := [.sh (.ins 0 fs), .sh k, .sh m, .sh s, s4, s5]
def pu0 : S := .ex (.call 0 (.cons (.loc 0) .nil))
def pu1 : S := .ex (.call 1 (.cons (.fld (.loc 0) "sorts") (.cons (.loc 1) .nil)))
def pu2 : S := .ex (.call 1 (.cons (.fld (.loc 0) "traits") (.cons (.loc 2) .nil)))
def pu3 : S := .ifs (.not (.call 2 (.cons (.loc 3) .nil))) (.cons .never .nil) .nil
def pvE : E := .bi .dict (.cons (.sub (.fld (.loc 0) "signs") (.loc 5)) .nil)
def pu6 : S := .ret (.call 3 (.cons (.fld (.loc 0) "sorts") (.cons (.fld (.loc 0) "traits") (.cons (.loc 4) .nil))))
def putChk (c : Cfg) (body : List Stmt) : Bool := match body with
  | [s0, s1, s2, s3, .Assign [.Name y py] (.DictComp kx vx [⟨tg, iter, [], 0⟩] sc q) _, .Assign [.Subscript (.Subscript (.Name z _) kk _) mm _] v _, s6] =>
    chkS c pu0 s0 && chkS c pu1 s1 && chkS c pu2 s2 && chkS c pu3 s3 &&
    (c.sto y 4 && (py.line == q.line) && decide (c.kind y = some .local) && !(sc.names.any fun (n, k) => n == y && (k == .local || k == .cell)) && c.block sc [5] && notSet iter && chkI c (.val (.fld (.loc 0) "sorts")) iter && itTg (.val (.fld (.loc 0) "sorts")) tg && chkTg (c.inner sc) (.nm 5) tg && chkE (c.inner sc) (.loc 5) kx && chkE (c.inner sc) pvE vx) &&
    (c.vis z 4 && chkE c (.loc 1) kk && notSlice kk && chkE c (.loc 2) mm && notSlice mm && chkE c (.loc 3) v) && chkS c pu6 s6
  | _ => false
/-- the new dict at D, with new dicts of rows at as -/
def keysV (l : List (Key × List (Key × D))) (as : List Addr) : List (Key × V) := (l.zip as).map fun p => (p.1.1, V.ref p.2)
structure PSt (g : G) (F5 H5 : Hp) (l : List (Key × List (Key × D))) (D : Addr) (as : List Addr) (H' : Hp) : Prop where
  hD : H' D = some (.dK (keysV l as))
  sub : Same F5 H'
  keep : ∀ a o, H5 a = some o → H' a = some o
  grow : ∀ a, H' a = none → H5 a = none
  nd : as.Nodup
  at_ : ∀ (j : Nat) (a : Addr), as[j]? = some a → H5 a = none ∧ a ≠ D ∧ ∃ kr vs, l[j]? = some kr ∧ H' a = some (.dK vs) ∧ RepK g F5 kr.2 vs
theorem PSt.go {g : G} {F5 H5 H' H'' : Hp} {l : List (Key × List (Key × D))} {D : Addr} {as : List Addr} (h : PSt g F5 H5 l D as H') (k : ∀ a o, H' a = some o → H'' a = some o) (gr : ∀ a, H'' a = none → H' a = none) : PSt g F5 H5 l D as H'' :=
  ⟨k _ _ h.hD, fun a o e => k _ _ (h.sub a o e), fun a o e => k _ _ (h.keep a o e), fun a e => h.grow a (gr a e), h.nd, fun j a e => by
    obtain ⟨h1, h2, kr, vs, h3, h4, h5⟩ := h.at_ j a e
    exact ⟨h1, h2, kr, vs, h3, k _ _ h4, h5⟩⟩
theorem SR.swap {g : G} {ρ : List Sl} {σ : L2.St} {F H H' : Hp} (S : SR g F ρ σ H) (sub : Same F H') (no : ∀ (i : Nat) (d : D), ρ[i]? ≠ some (.ow d)) : SR g F ρ σ H' :=
  ⟨sub, S.len, S.sh, fun i d e => absurd e (no i d), fun i j d d' a e => absurd e (no i d)⟩
section
variable {g : G} {b : BF} {c : Cfg} {X : Cx}
end
end FT

set_option Elab.async false
set_option linter.all false
set_option maxRecDepth 100000
set_option autoImplicit false
set_option maxHeartbeats 4000000
namespace PySem.W
open PySem PySem.Calls PyProof.Rows Builtin
section
variable {prog : Program} {w : World} {A : Around} {E : Value → Shared → Prop} {s : Shared} {K : Frag} {x C L f : Addr} {h₀ : Heap} {m : Str → Option Value} {ox : Obj} {od : Option Obj} {name : Str} {b tb : Value}
end
end PySem.W
namespace FT
open PySem PySem.Spec PyProof.Rows L2
section
variable {X : Cx}
end
/-- == of one class alone -/
def onlyC2 (n : Nat) (p : PF) : PF := ⟨p.io, p.ret, fun ds => match ds with
  | [.ins a fs, .ins b fs2] => guardO (decide (a = n) && decide (b = n)) (p.f [.ins a fs, .ins b fs2])
  | _ => none⟩
end FT

set_option Elab.async false
set_option linter.all false
set_option maxRecDepth 100000
set_option autoImplicit false
set_option maxHeartbeats 2000000
namespace FT
open PySem PySem.Spec PyProof.Rows L2
/-! ### a law called at the top: nothing is being shown there, so repr of lists and tuples is known -/
abbrev NoE : XK := fun _ _ _ => False
abbrev QT : VK := fun v _ => v = .bl true
abbrev cfgG (W : List (Nat × Str)) (N : List Str) (scope : Scope) (T : List Ent) (free : List Str) : Cfg := ⟨N, scope, none, fnOf T, pnOf T, fun n => W.lookup n, free, [], true, knOf T⟩
/-- what is wanted of a call of the law at the top -/
def TopC (P : Program) (w : World) (f : Addr) (u : Value) (s : Shared) (H : Hp) : Prop := codeAny (model P w) callerA (.call (.ref f) ⟨[u], []⟩) (CR CX0 [] P w H s QT NoE) s
/-- the law's call over the heap behind the top -/
theorem top_call {P : Program} {w : World} {K : PySem.W.Frag} {mg mb : Str → Option Value} {fa a : Addr} {s₁ : Shared} {vs : List Value} {ns : List Int}
    (KX : K.In s₁.heap) (hns : s₁.heap.Ns mainGlobals mg) (hb : s₁.heap.Ns builtinsNs mb) (hbb : ∀ x : Str, x ≠ "__name__" → mb x = bootBuiltins x) (hlim : s₁.heap.NoLimit) (hg : s₁.gens = #[])
    (ha : s₁.heap.get? a = some { cls := .type "list", data := .seq vs.toArray }) (hi : IntsAre vs ns) (hl : ns.length ≤ sizeLine)
    (F : ∀ (base : Heap) (H : Hp), Env0 P w K mg base callerA [] s₁ H → SqL K H a (ns.map V.int) → TopC P w fa (.ref a) s₁ H) :
    codeAny (model P w) callerA (.call (.ref fa) ⟨[.ref a], []⟩) (fun r s' => r = .ok (.ret (.bool true)) ∧ OldK s₁.heap s'.heap ∧ s'.os = s₁.os ∧ AllBare s'.gens) s₁ := by
  have rv := vals_ints hi
  have main : ∀ H : Hp, (∀ b u, H b = some u → b = a ∧ K.lookup a = none ∧ ∃ ob xs, u = .frz ob (.lst xs)) → SqL K H a (ns.map V.int) → HOk P w H s₁.heap →
      codeAny (model P w) callerA (.call (.ref fa) ⟨[.ref a], []⟩) (fun r s' => r = .ok (.ret (.bool true)) ∧ OldK s₁.heap s'.heap ∧ s'.os = s₁.os ∧ AllBare s'.gens) s₁ := by
    intro H hA hS hok
    have free : ∀ {b : Addr}, b ≠ a → H b = none := fun {b} ne => by
      cases q : H b with
      | none => rfl
      | some u => exact absurd (hA b u q).1 ne
    have dic : ∀ {b : Addr} {o : Obj} {es : Array DictEntry} {ep : Nat}, s₁.heap.get? b = some o → o.data = .dict es ep → H b = none := fun {b o es ep} e d => free fun z => by
      subst z
      rw [ha] at e
      injection e with e
      rw [← e] at d
      injection d
    have ns1 : ∀ {b : Addr} {m : Str → Option Value}, s₁.heap.Ns b m → (hidT s₁.heap H).Ns b m := fun ⟨o, es, ep, e, d, r⟩ => ⟨o, es, ep, hidT_get e (dic e d), d, r⟩
    have kin : K.In (hidT s₁.heap H) := fun b o e => hidT_get (KX b o e) (by
      cases q : H b with
      | none => rfl
      | some u =>
        obtain ⟨z, hn, _⟩ := hA b u q
        rw [z] at e
        rw [hn] at e
        cases e)
    have mod : Mod K mg (hidT s₁.heap H) := ⟨kin, ns1 hns, ⟨mb, ns1 hb, hbb⟩, (let ⟨mc, h1, h2⟩ := hlim; ⟨mc, ns1 h1, h2⟩)⟩
    have e0 : Env0 P w K mg (hidT s₁.heap H) callerA [] s₁ H := ⟨rfl, mod, fun b o e => of_hidT e, Nat.le_of_eq (hidT_size _ _), trivial, (fun b hb => nomatch hb), hok, .of_eq hg⟩
    refine codeAny_mono (F _ H e0 hS) fun r s' h => ?_
    cases r with
    | error e => exact h.elim
    | ok fl =>
      cases fl with
      | ret u =>
        obtain ⟨v, H', os, bare, un, hok', r', q⟩ := h
        have q' : v = .bl true := q
        cases q'
        cases (show u = Value.bool true from r')
        refine And.intro rfl (And.intro (OldK.of_keep fun b o e => ?_) (And.intro os bare))
        cases q : H b with
        | none => exact un.keep b o e q (fun z => nomatch z) (fun z => nomatch z)
        | some u =>
          obtain ⟨_, _, ob, xs, rfl⟩ := hA b u q
          obtain ⟨e1, _⟩ := hok b _ q
          obtain ⟨e2, _⟩ := hok' b _ (un.frzs b ob _ q)
          rw [e] at e1
          cases e1
          exact e2
      | _ => exact h.elim
  cases hk : K.lookup a with
  | some o =>
    have e := KX a o hk
    rw [ha] at e
    cases e
    exact main (fun _ => none) (fun b u z => nomatch z) (.inr ⟨_, vs.toArray, _, hk, rfl, rfl, rfl, by rw [List.size_toArray, hi.length]; exact hl, by simpa using rv⟩) (fun b u z => nomatch z)
  | none =>
    have only : ∀ b u, (if b = a then some (HO.frz { cls := .type "list", data := .seq vs.toArray } (.lst (ns.map V.int))) else none) = some u → b = a ∧ u = HO.frz { cls := .type "list", data := .seq vs.toArray } (.lst (ns.map V.int)) := fun b u z => by
      by_cases hb : b = a
      · rw [if_pos hb] at z; cases z; exact ⟨hb, rfl⟩
      · rw [if_neg hb] at z; cases z
    refine main (fun b => if b = a then some (.frz { cls := .type "list", data := .seq vs.toArray } (.lst (ns.map V.int))) else none) (fun b u z => ?_) (.inl (.inr ⟨_, if_pos rfl⟩)) fun b u z => ?_
    · obtain ⟨h1, h2⟩ := only b u z
      exact ⟨h1, hk, _, _, h2⟩
    · obtain ⟨rfl, rfl⟩ := only b u z
      exact ⟨ha, by rw [List.length_map]; exact hl, vs, _, rv, ha⟩
/-- a law's end over a head by facts, its promise at the top alone -/
theorem walkG {l : PySem.W.OpenLaw} {n : Nat} {q : Program} {loose : List Str} {XP : (Str → Option Value) → Heap → Prop} {YP : World → Heap → Prop} {d : DefRec}
    (hn : l.most = some n) (hn2 : n ≤ sizeLine) (hdf : d.params.defaults = [])
    (F : ∀ (w : World) (mg : Str → Option Value) (fa : Addr) (h : Heap), YP w h → h.Ns mainGlobals mg → mg d.name = some (.ref fa) → ∃ K : PySem.W.Frag, K.In h ∧
      ∀ (H : Hp) (a : Addr) (ns : List Int) (s : Shared) (base : Heap), ns.length ≤ n → SqL K H a (ns.map V.int) → Env0 l.prog w K mg base callerA [] s H → TopC l.prog w fa (.ref a) s H) :
    PySem.W.WalkO q loose XP YP l.row.toRowW d [] (fun f vs => PySem.call f vs) := by
  refine Att.attach_call hn hdf fun w s₀ s₁ mg mb fa o pm cd doc a vs ns G Y ho hd hcd hmg hobj hints hlen hg => ?_
  obtain ⟨K, KX, hF⟩ := F w mg fa _ Y G.T.g hmg
  exact top_call KX G.T.g G.T.b G.T.builtins G.T.nolimit hg hobj hints (Nat.le_trans hlen hn2) fun base H e0 hS => hF H a ns s₁ base hlen hS e0
end FT

set_option Elab.async false
set_option linter.all false
set_option maxRecDepth 100000
set_option autoImplicit false
set_option maxHeartbeats 2000000
namespace GQ
open PySem PySem.SeqAt
open AutoSeq1 (wpAny_loadPart')
open MeetsSeq MeetsSeq2 MeetsSeq3 SeqRoads2
section
variable {prog : Program} {w : World} {A : Around} {R : Result → Shared → Prop}
end
section
variable {prog : Program} {w : World} {A : Around} {E : Value → Shared → Prop} {s : Shared}
end
end GQ
namespace FT
open PySem PySem.Spec PyProof.Rows L2
section
variable {X : Cx} {n : Nat} {D : Eqv}
end
/-- == of ("text", instance): the class's own == of the two -/
def isTru : Option (D × D) → Bool
  | some (.bl true, _) => true
  | _ => false
def pf_tupT (n : Nat) (p : PF) : PF := ⟨false, .flt, fun ds => match ds with
  | [.tup [.str s, .ins a fs], .tup [.str t, .ins b gs]] => guardO (decide (a = n) && decide (b = n) && decide (s = t) && isTru (p.f [.ins n fs, .ins n gs])) (some (.bl true, .non))
  | [x, y] => guardO (okD x && okD y) ((cmpD .Eq x y).map fun b => (.bl b, .non))
  | _ => none⟩
/-- what the two instances are, seen by their data -/
def RIns (g : G) (n : Nat) (p : PF) : Addr → Addr → Hp → Prop := fun a b H => ∃ F fs gs o, Same F H ∧ Rep g F (.ins n fs) (.ref a) ∧ Rep g F (.ins n gs) (.ref b) ∧ p.f [.ins n fs, .ins n gs] = some (.bl true, o)
end FT

set_option Elab.async false
set_option linter.all false
set_option maxRecDepth 100000
set_option autoImplicit false
set_option maxHeartbeats 2000000
/-! an own exception class made with keywords: C(value = x) -/
namespace PySem
namespace HandSPX
open Builtin Builtin.ObjectAttr
section
variable {M : Model} {A : Around} {E : Value → Shared → Prop} {h : Heap} {g : Array GenState} {d : Drawn} {t : Nat} {os : OsState}
variable {nm q : Str} {C N : Addr} {bs bm bmB : List Value} {hdct : Bool} {sn : List Str} {sub : List Value} {ab : Bool} {col : Option Bool} {dd : Option Addr} {k0 k1 k2 k3 k5 : Option Value} {B newId initId : String}
theorem check_new_ownK (F : ExcBaseFacts B newId initId bmB) (hT : ∀ X : String, bm.contains (.type X) = bmB.contains (.type X)) {rest : List Value} {kw : List (Str × Value)} {Q : Unit → Shared → Prop}
    (hC : h.get? C = some (excClassObj nm q C N bs bm hdct sn sub ab col dd k0 k1 k2 k3 k5 newId)) (hq : Q () ⟨h, g, d, t, os⟩) : wpAny M A (checkBuiltinCall newId ⟨.ref C :: rest, kw⟩) Q E ⟨h, g, d, t, os⟩ := by
  have hcont : (Value.ref C :: bm).contains (.type B) = true := by rw [List.contains_cons, hT, F.hasB, Bool.or_true]
  have hstar := F.noStar
  simp only [checkBuiltinCall, F.newKind, F.newSplit, F.newRow]
  repeat (first | refine wpAny_loadPart_at hC ?_ | (refine wpAny_isSubtype_exc hC ?_; rw [hcont]) | refine wpAny_staticBase_exc hC ?_ | refine wpAny_madeBy_exc hC ?_ | simp only [bne_self_eq_false, Bool.false_eq_true, if_false] | wp_step)
  all_goals exact hq
end
section
variable {prog : Program} {w : World} {A : Around} {E : Value → Shared → Prop} {R : Result → Shared → Prop} {h : Heap} {g : Array GenState} {d : Drawn} {t : Nat} {os : OsState}
variable {nm q : Str} {C N : Addr} {bs bm bmB : List Value} {hdct : Bool} {sn : List Str} {sub : List Value} {ab : Bool} {col : Option Bool} {dd : Option Addr} {k0 k1 k2 k3 k5 : Option Value} {B newId initId : String}
theorem new_ownK (F : ExcBaseFacts B newId initId bmB) (hT : ∀ X : String, bm.contains (.type X) = bmB.contains (.type X)) {rest : List Value} {kw : List (Str × Value)}
    (hC : h.get? C = some (excClassObj nm q C N bs bm hdct sn sub ab col dd k0 k1 k2 k3 k5 newId))
    (hq : R (.ok (.ret (.ref (h.objs.size + 1)))) ⟨(h.push { cls := .type "tuple", data := .seq rest.toArray }).push
      { cls := .ref C, data := .fields #[.ref h.objs.size, .none, .none, .none, .bool false, .none] }, g, d, t, os⟩) (hrest : rest.length ≤ sizeLine) :
    codeAny (model prog w) A (.builtin newId ⟨.ref C :: rest, kw⟩) R ⟨h, g, d, t, os⟩ := by
  have hends := F.ends
  have hcB : (Value.ref C :: bm).contains (.type B) = true := by rw [List.contains_cons, hT, F.hasB, Bool.or_true]
  have hcA : (Value.ref C :: bm).contains (.type "AttributeError") = false := by rw [List.contains_cons, hT, F.noAttr]; rfl
  have hcN : (Value.ref C :: bm).contains (.type "NameError") = false := by rw [List.contains_cons, hT, F.noName]; rfl
  refine codeAny_builtinAt F.entry ?_
  unfold Builtin.«BaseException.__new__»
  refine wpAt_bind ?_
  show wpAt _ _ _ (stack >>= _) _ _ _
  refine wpAt_bind (wpAt_stack fun p below => wpAt_of_wpAny ?_)
  wp_walk
  refine wpAt_of_wpAny ?_
  rw [F.owner]
  repeat (first | with_reducible refine wpAny_madeHere_exc F.canon hC ?_ | with_reducible refine wpAny_loadPart_at hC ?_ | (with_reducible refine wpAny_isSubtype_exc hC ?_; first | rw [hcB] | rw [hcA] | rw [hcN]) | wp_step)
  show R _ _
  rw [Heap.size_push]
  exact hq
theorem type_call_ownK (F : ExcBaseFacts B newId initId bmB) (hT : ∀ X : String, bm.contains (.type X) = bmB.contains (.type X)) {rest : List Value} {kw : List (Str × Value)} {fI : Addr} {Q : Fin → Shared → Prop}
    (hC : h.get? C = some (excClassObj nm q C N bs bm hdct sn sub ab col dd k0 k1 k2 k3 k5 newId))
    (hi : W.Looks (model prog w) h (typeLookup (.ref C) "__init__") (some (.ref fI))) (hb : ∀ self, W.Looks (model prog w) h (bindSpecial (.ref fI) self) (.ref fI, [self])) (hrest : rest.length ≤ sizeLine)
    (hq : codeAny (model prog w) A (.call (.ref fI) ⟨.ref (h.objs.size + 1) :: rest, kw⟩)
      (fun r s' => match r with | .ok (.ret v) => v = .none ∧ Q (.done (.ret (.ref (h.objs.size + 1)))) s' | .ok _ => False | .error e => E e s')
      ⟨(h.push (W.kdv_tup rest)).push (excO C h.objs.size), g, d, t, os⟩) :
    wpAny (model prog w) A (Builtin.«type.__call__» ⟨.ref C :: rest, kw⟩) Q E ⟨h, g, d, t, os⟩ := by
  repeat (first | with_reducible refine wpAny_loadPart_at hC ?_ | with_reducible refine wpAny_madeBy_exc hC ?_ | wp_step)
  refine codeAny_call_builtin_code (Code.quiet_builtin _ F.quiet) (check_new_ownK F hT hC ?_)
  refine new_ownK F hT hC ?_ hrest
  show wpAny _ _ _ _ _ _
  have k : ∀ b o, h.get? b = some o → ((h.push (W.kdv_tup rest)).push (excO C h.objs.size)).get? b = some o := fun b o e => Heap.get?_push_of_some _ (Heap.get?_push_of_some _ e)
  have hC₁ := k _ _ hC
  have hget : ((h.push (W.kdv_tup rest)).push (excO C h.objs.size)).get? (h.objs.size + 1) = some (excO C h.objs.size) := by heap_get
  have hcC : (Value.ref C :: bm).contains (.ref C) = true := by simp
  have i1 := hi.keeps k
  have b1 := (hb (.ref (h.objs.size + 1))).keeps k
  unfold isInstance
  repeat (first | with_reducible refine wpAny_loadPart_at hget ?_ | (with_reducible refine wpAny_isSubtype_exc hC₁ ?_; rw [hcC]) | wp_step)
  show wpAny _ _ (typeLookup (.ref C) _) _ _ _
  refine i1.at ?_
  refine wpAny_holding (wpAny_bind (b1.at ?_))
  refine wpAny_bind (wpAny_call (codeAny_mono hq fun r s' z => ?_))
  rcases r with e | (v | _ | _ | _) <;> first | exact z | exact z.elim | skip
  obtain ⟨rfl, z⟩ := z
  first
    | exact wpAny_pure (wpAny_pure z)
    | (wp_walk; exact z)
theorem check_type_call_subK {M : Model} {rest : List Value} {kw : List (Str × Value)} {Q : Unit → Shared → Prop} (hC : h.get? C = some (excClassObj nm q C N bs bm hdct sn sub ab col dd k0 k1 k2 k3 k5 newId))
    (hq : Q () ⟨h, g, d, t, os⟩) : wpAny M A (checkBuiltinCall "type.__call__" ⟨.ref C :: rest, kw⟩) Q E ⟨h, g, d, t, os⟩ := by
  have f3 := tc_sub
  have hT : (⟨h, g, d, t, os⟩ : Shared).TypeIs (.ref C) "type" := ⟨_, hC, rfl⟩
  simp only [checkBuiltinCall, tc_kind, tc_split]
  repeat (any_goals (first | assumption | with_reducible refine wpAny_loadPart_at hC ?_ | with_reducible refine wpAny_onRaise ?_ | with_reducible refine wpAny_map ?_ | wp_step))
theorem call_ownK (F : ExcBaseFacts B newId initId bmB) (hT : ∀ X : String, bm.contains (.type X) = bmB.contains (.type X)) {rest : List Value} {kw : List (Str × Value)} {fI : Addr}
    (hC : h.get? C = some (excClassObj nm q C N bs bm hdct sn sub ab col dd k0 k1 k2 k3 k5 newId))
    (hi : W.Looks (model prog w) h (typeLookup (.ref C) "__init__") (some (.ref fI))) (hb : ∀ self, W.Looks (model prog w) h (bindSpecial (.ref fI) self) (.ref fI, [self])) (hrest : rest.length ≤ sizeLine)
    (hq : codeAny (model prog w) (A.under (.builtin "type.__call__" ⟨.ref C :: rest, kw⟩)) (.call (.ref fI) ⟨.ref (h.objs.size + 1) :: rest, kw⟩) (W.InitBack (h.objs.size + 1) R)
      ⟨(h.push (W.kdv_tup rest)).push (excO C h.objs.size), g, d, t, os⟩) :
    codeAny (model prog w) A (.call (.ref C) ⟨rest, kw⟩) R ⟨h, g, d, t, os⟩ := by
  have f1 := tc_lookup
  have f2 := tc_bind (.ref C)
  have hTy : (⟨h, g, d, t, os⟩ : Shared).TypeIs (.ref C) "type" := ⟨_, hC, rfl⟩
  refine codeAny_of_tree ?_
  show wpAny _ _ (callAny (.ref C) _) _ _ _
  repeat (any_goals (first | assumption | with_reducible refine wpAny_loadPart_at hC ?_ | wp_step))
  refine ⟨rfl, ?_⟩
  refine codeAny_call_builtin_at (Code.quiet_builtin _ (by decide +kernel)) entry_typeCall (check_type_call_subK hC (type_call_ownK F hT hC hi hb hrest ?_))
  refine codeAny_mono hq fun r s' z => ?_
  rcases r with e | (v | _ | _ | _) <;> exact z
end
end HandSPX
end PySem

set_option Elab.async false
set_option linter.all false
set_option maxRecDepth 100000
set_option autoImplicit false
set_option maxHeartbeats 2000000
namespace FT
open PySem PySem.Spec PyProof.Rows L2 NdefX
/-- what the written part says of an own exception class and its __init__ -/
structure ExcD (K : PySem.W.Frag) (C fI : Addr) (nm qual : Str) (params : Arguments) (body : List Stmt) (scope : Scope) (file : Str) (fd : FuncData) : Prop where
  T : OexC K C
  xf : XfC K C
  iC : PySem.W.findIn K (.ref C) "__init__" = some (some (.ref fI))
  tI : PySem.W.typeIn K (.ref fI) = some (.type "function")
  no : PySem.W.findIn K (.ref C) "value" = some none
  opq : PySem.W.nsIn K cStatics "thirdparty.any" = some none
  sup : PySem.W.ks_superIn K C C "__init__" = some (some (.builtin "ValueError.__init__"))
  subB : PySem.W.subIn K (.ref C) (.type "ValueError") = some true
  mroC : PySem.W.mroIn K C (.ref C) = some true
  fn : ∃ (oc : Value) (od : Option Addr) (dV kV doc pm : Value) (an : Option Addr) (ct : Value) (osl : Array (Option Value)) (cda cc : Addr) (ccl : Value) (cdd : Option Addr) (vs : Array Value) (ccs : Array (Option Value)) (tf : Tok) (cl : Value) (cld : Option Addr) (csl : Array (Option Value)),
    fd = PySem.W.ksFn nm qual params body scope dV kV doc pm an (.ref cda) ct cc ∧ K.lookup fI = some ⟨oc, od, .func fd, osl⟩ ∧ PySem.W.codeIn K (.ref cda) qual = true ∧ K.lookup cda = some ⟨ccl, cdd, .fields vs, ccs⟩ ∧ vs[2]? = some (.str file tf) ∧
      K.lookup cc = some ⟨cl, cld, .cell (some (.ref C)), csl⟩ ∧ DflV K dV [.non]
/-- what the __init__ promises -/
def spI (C : Addr) : Sp := fun vs H Q _ => ∃ a v, vs = [.ref a, v] ∧ H a = some (exo a C none) ∧ ∀ dx, H dx = none → dx ≠ a → Q .non (upd (upd H dx (exd dx [("value", v)])) a (exo a C (some dx)))
theorem one_cell {cc : Addr} {y : Str} {c : Addr} (h : ([("__class__", cc)] : List (Str × Addr)).lookup y = some c) : y = "__class__" ∧ c = cc := by
  rw [List.lookup_cons] at h
  split at h
  · rename_i e
    cases h
    exact ⟨eq_of_beq e, rfl⟩
  · cases h
theorem eval_m1 {o : Expr} {name : Str} {apos pos : Pos} {args : List Expr} {env : Env} (hel : (apos.endLine == pos.line) = true) (hf : methodCallForm (args.length + ([] : List Keyword).length) (backTo pos (starEach args env)) [] = true) :
    eval (.Call (.Attribute o name apos) args [] pos) env = (do
      let ov ← attributeBase o name env (eval o env)
      standAt apos.atName
      let (f, first) ← holding [ov] (getMethod ov name (do return (← importBound o env).getD true))
      callWith pos f first (backTo pos (starEach args env)) []) := by
  have e : ∀ ov, methodCall o name apos pos env ov (args.length + ([] : List Keyword).length) (backTo pos (starEach args env)) (backToKw pos (keywordEach [] env)) = (do
      let (f, first) ← holding [ov] (getMethod ov name (do return (← importBound o env).getD true))
      callWith pos f first (backTo pos (starEach args env)) []) := by
    intro ov
    unfold methodCall
    rw [show backToKw pos (keywordEach [] env) = [] from rfl, hf]
    unfold calleeOf methodCallPos
    simp only [hel, if_true, Bool.not_true, Bool.false_or, pure_bind]
  rw [arm_eval_Call]
  simp only [e]
theorem exi_ok {P : Program} {w : World} {K : PySem.W.Frag} {mg : Str → Option Value} {base : Heap} {C fI : Addr} {nm qual : Str} {params : Arguments} {body : List Stmt} {scope : Scope} {file : Str} {fd : FuncData} {k : Nat}
    {p0 p1 p2 p3 p4 p5 q1 q2 q3 q4 : Pos} {ar : Arg}
    (D : ExcD K C fI nm qual params body scope file fd) (hmg : mg "super" = none) (hfile : ((P.main.file : Str) == file) = true) (htop : (P.main.scope.names.lookup ("super" : Str)).isSome = false)
    (hel : (p2.endLine == p4.line) = true) (hbody : body = [.Expr (.Call (.Attribute (.Call (.Name "super" p0) [] [] p1) "__init__" p2) [.Name "value" p3] [] p4) p5, .Assign [.Attribute (.Name "self" q1) "value" q2] (.Name "value" q3) q4])
    (hp : (params.posonlyargs ++ params.args).head? = some ar) (har : ar.arg = "self")
    (S : NScope ["self", "value", "__class__"] ["self", "value"] ["__class__"] scope) (hks : scope.names.lookup ("super" : Str) = some .globalImplicit) :
    FnOk P w K mg base CX0 (k + 1) fI fd ["self", "value"] (spI C) := by
  refine ⟨fun vs H Q E h => ?_, fun A outer s H args us vs Q E hr e0 hbind rv hsp => ?_⟩
  · obtain ⟨a, v, rfl, _⟩ := h
    rfl
  subst hbody
  obtain ⟨a, v, rfl, ea, hq⟩ := hsp
  obtain ⟨oc, od, dV, kV, doc, pm, an, ct, osl, cda, cc, ccl, cdd, cvs, ccs, tf, cl, cld, csl, rfl, lk, hcd, hcode, hfv, hcell, _⟩ := D.fn
  cases rv with
  | @cons _ ua _ ur ra rv =>
  cases rv with
  | @cons _ uv _ ur2 rb rv2 =>
  cases rv2
  obtain rfl : ua = Value.ref a := ra
  have hk0 : ∀ b o, base.get? b = some o → s.heap.get? b = some o := fun b o e => (e0.bs b o e).1
  have KX : K.In s.heap := e0.mod.kin.keeps hk0
  obtain ⟨nmC, qC, NC, bs, bm, sn, sub, ab, col, dd, k0, k1, k2, k3, k5, hC, hbm⟩ := D.T.cls
  have hcl : PySem.W.clsIn K C = some { name := nmC, bases := bs, mro := .ref C :: bm, ns := NC, qualname := qC, hasDict := true, slotNames := sn, subclasses := sub, abstract := ab, collection := col, hasDel := false } := by unfold PySem.W.clsIn; rw [hC] <;> rfl
  refine PySem.ks_codeAny_call_defAt hr.depth (KX _ _ lk) rfl (e0.mod.nolimit.keeps hk0) (PySem.W.codeRec_of KX hcd) rfl hbind (fun x hx => S.nocell x hx) (fun y hy => S.par y.1 (List.of_mem_zip hy).1) (fun h₁ hns kp => ?_) S.co S.gen S.kind
  have CA : CellsAt [("__class__", cc)] ["__class__"] [some (V.ref C)] s.heap H := ⟨rfl, fun y c e => by
      obtain ⟨_, rfl⟩ := one_cell e
      exact ⟨(e0.bs _ _ (e0.mod.kin _ _ hcell)).2, _, ⟨_, KX _ _ hcell, rfl⟩⟩, fun x y c e1 e2 => (one_cell e1).1.trans (one_cell e2).1.symm, fun i y e => by
      cases i with
      | zero =>
        cases e
        refine ⟨cc, by simp, fun v hv => ?_⟩
        cases hv
        exact ⟨_, rfl, ⟨_, KX _ _ hcell, rfl⟩⟩
      | succ i => cases e⟩
  have I0 : Inv (ncx CX0 P w K mg base ["self", "value", "__class__"] ⟨nm, qual, params, [], scope, [("__class__", cc)], cda⟩ fI A outer s H E) [] (startF ["self", "value", "__class__"] [.ref a, v] [some (.ref C)]) H { s with heap := h₁, toks := s.toks + 2 } :=
    inv_startN S hr.hd e0 rfl (.cons rfl (.cons rb .nil)) CA hns kp
  obtain ⟨t1, ho⟩ := exo_at I0.hok ea
  have KX1 : K.In h₁ := KX.keeps kp
  have kb : ∀ b o, base.get? b = some o → h₁.get? b = some o := fun b o e => kp _ _ (hk0 _ _ e)
  have hkc : scope.names.lookup ("__class__" : Str) = some .free := S.frk _ (by simp)
  have hkS : scope.names.lookup ("self" : Str) = some .local := S.par _ (by simp)
  have hkV : scope.names.lookup ("value" : Str) = some .local := S.par _ (by simp)
  have ndP : (["self", "value"] : List Str).Nodup := by decide
  have mS : ((["self", "value"] : List Str).zip [Value.ref a, uv]).reverse.lookup ("self" : Str) = some (.ref a) := zip_look (i := 0) ndP rfl rfl
  have mV : ((["self", "value"] : List Str).zip [Value.ref a, uv]).reverse.lookup ("value" : Str) = some uv := zip_look (i := 1) ndP rfl rfl
  have hsup : PySem.W.alongIn K "__init__" (((Value.ref C :: bm).dropWhile (· != .ref C)).drop 1) = some (some (.builtin "ValueError.__init__")) := by
    have := D.sup
    unfold PySem.W.ks_superIn at this
    rw [hcl] at this
    exact this
  obtain ⟨mb, hb1, hb2⟩ := e0.mod.blt
  refine PySem.ks_wpAt_execs_cons (PySem.ks_wpAt_Expr_any (PySem.ks_wpAt_MethodCall ?_ (eval_m1 hel rfl)) (hi := by
    show (scope.kind == ScopeKind.module && _) = false
    rw [S.kind]
    rfl))
  refine PySem.ks_wpAt_super_base hks hkc rfl rfl (KX1 _ _ lk) rfl hp rfl (KX1 _ _ hcode) rfl hfv hfile htop ?_
  refine PySem.W.ks_loadName_global S.kind hks (PySem.Calls.loadGlobal_builtin (e0.mod.glob.keeps kb) hmg (hb1.keeps kb) ((hb2 _ (by decide)).trans (by first | rfl | kernel_rfl : bootBuiltins "super" = some (.type "super"))) ⟨rfl, ?_⟩)
  refine wpAny_loadName_free S.kind hkc rfl ⟨_, KX1 _ _ hcell, rfl⟩ ?_
  rw [har]
  refine wpAny_loadName_local S.kind hkS hns mS ?_
  refine PySem.ks_wpAny_isType_cls (KX1 _ _ hC) rfl ⟨rfl, ?_⟩
  refine PySem.ks_wpAny_call_super (KX1 _ _ hC) rfl ho rfl (fun c e => nomatch e) (PySem.W.looks_mroIn KX1 D.mroC) (fun h2 eo kp2 => ?_)
  have KX2 : K.In h2 := KX1.keeps kp2
  have ho2 := kp2 _ _ ho
  have IA : PySem.W.InstAt h2 a _ C none := ⟨ho2, rfl, rfl, trivial⟩
  refine PySem.W.kxs_getMethod PySem.W.kxs_ValueError eo (PySem.W.looks_opaque KX2 D.opq) (fun A Q E s k q => wpAny_bind ((PySem.W.looks_clsIn KX2 hcl) A _ E s k (wpAny_pure q))) rfl KX2 hsup (IA.type.andThen (PySem.W.looks_subIn KX2 D.subB)) (PySem.W.ks_ne KX2 IA hcl) (by decide) ?_
  have hp2 : ∀ b o, h2.get? b = some o → (h2.push (PySem.W.kxs_mw "ValueError.__init__" a)).get? b = some o := fun b o e => Heap.get?_push_of_some _ e
  have hu : (h2.push (PySem.W.kxs_mw "ValueError.__init__" a)).get? h2.objs.size = some (PySem.W.kxs_mw "ValueError.__init__" a) := Heap.get?_push_at rfl rfl
  have k12 : ∀ b o, h₁.get? b = some o → (h2.push (PySem.W.kxs_mw "ValueError.__init__" a)).get? b = some o := fun b o e => hp2 _ _ (kp2 _ _ e)
  have I2 := I0.kept (t' := s.toks + 2 + 1) k12
  have FB := PySem.F.excBase_ValueError
  have ho3 := k12 _ _ ho
  refine PySem.W.kxs_callWith (i := "ValueError.__init__") (x := a) rfl ?_
  refine PySem.Calls.evalArgs_plain (PySem.Calls.spliced_cons (wpAny_Name (wpAny_loadName_local S.kind hkV (hns.keeps k12) mV (PySem.Calls.spliced_nil ⟨hu, ?_⟩)) (by decide)))
  refine wpAny_call (codeAny_of_tree ?_)
  show wpAny _ _ (callAny (.ref h2.objs.size) ⟨[uv], []⟩) _ _ _
  simp only [callAny]
  refine wpAny_bind (wpAny_load hu ?_)
  simp only [PySem.W.kxs_mw, show (Value.type "method-wrapper" == Value.type "method" || Value.type "method-wrapper" == Value.type "builtin_function_or_method" || Value.type "method-wrapper" == Value.type "method-wrapper") = true by decide, if_true]
  refine PySem.W.KFB.if_so (by decide) ?_
  refine wpAny_bind (PySem.W.check_bound_init FB.toExcCallFacts (k12 _ _ (KX1 _ _ hC)) ho3 rfl ?_)
  refine wpAny_bind (wpAny_pure (wpAny_pure ?_))
  refine ⟨plainId_quiet FB.init.plain _, codeAny_builtin FB.initEntry ?_⟩
  refine PySem.W.exc_init_tree (cls := .ref C) (t0 := t1) (dv := none) (c2 := .none) (c3 := .none) (b4 := .bool false) ho3 (by rw [sizeLine_eq]; exact Nat.le_of_lt (by decide : 1 < _)) (fun h' k' e' t' => ?_)
  have J := I2.write (t' := s.toks + 2 + 1) (x := a) (e := a) (o := exo a C none) (by rw [ea]; exact True.intro) (.inl rfl) k' ⟨_, e'⟩ (exo_ok e')
  have eu : upd H a (exo a C none) = H := by
    funext b
    by_cases hb : b = a
    · rw [hb, upd_same, ea]
    · rw [upd_ne hb]
  rw [eu] at J
  have bd : PSs (ncx CX0 P w K mg base ["self", "value", "__class__"] ⟨nm, qual, params, [], scope, [("__class__", cc)], cda⟩ fI A outer s H E) [.Assign [.Attribute (.Name "self" q1) "value" q2] (.Name "value" q3) q4] (tSeq (tOst K "value" (tVar 0) (tVar 1)) tNext) :=
    pss_cons (ps_ost (pe_var (i := 0) rfl (.inl hkS)) (pe_var (i := 1) rfl (.inl hkV)) (hs := sws_attr)) pss_nil
  show PySem.wpAt _ _ _ (execs [.Assign [.Attribute (.Name "self" q1) "value" q2] (.Name "value" q3) q4] _) _ _ _
  refine wpAt_of_wpAny (wpAny_mono (bd.run [] _ _ H { nx := fun _ H' => Q .non H', rt := Q } J ⟨v, rfl, .ref a, rfl, a, C, rfl, D.T, D.no, .inl ⟨ea, hq⟩⟩) (fun fl s' hs => ?_) fun _ _ hs => hs)
  have fin : ∀ {σ' : L2.St} {H' : Hp} {v' : V} {u : Value}, Inv (ncx CX0 P w K mg base ["self", "value", "__class__"] ⟨nm, qual, params, [], scope, [("__class__", cc)], cda⟩ fI A outer s H E) [] σ' H' s' → L2.RelV v' u → Q v' H' → CE outer P w H s Q u s' :=
    fun {σ' H' v' u} J rv q => ⟨v', H', J.os, J.bare, J.base, J.hok, rv, q⟩
  cases fl with
  | ret u =>
    obtain ⟨v', σ', H', J, rv, q⟩ := hs
    exact fin J rv q
  | next =>
    obtain ⟨σ', H', J, q⟩ := hs
    exact fin (v' := V.non) (u := Value.none) J rfl q
  | brk =>
    obtain ⟨_, _, _, q⟩ := hs
    exact False.elim q
  | cont =>
    obtain ⟨_, _, _, q⟩ := hs
    exact False.elim q
end FT

set_option Elab.async false
set_option linter.all false
set_option maxRecDepth 100000
set_option autoImplicit false
set_option maxHeartbeats 2000000
namespace FT
open PySem PySem.Spec PyProof.Rows L2
/-! ### the head with own exception classes -/
structure EcD where
  cls : Str
  qual : Str
  params : Arguments
  body : List Stmt
  scope : Scope
def eI (K : PySem.W.Frag) (x : Str) : Addr := He.ma K (He.ga K x) "__init__"
def ecW (K : PySem.W.Frag) (x : Str) : He.FnW := match K.lookup (eI K x) with
  | some ⟨_, _, .func fd, _⟩ => some (fd.name, fd.qualname, fd.params, fd.body, fd.scope, fd.globals, [], fd.builtins)
  | _ => none
def EcD.val (d : EcD) : He.FnW := some ("__init__", d.qual, d.params, .stmts d.body, d.scope, mainGlobals, [], builtinsNs)
def clsX (K : PySem.W.Frag) (C : Addr) : Bool := match K.lookup C with
  | some ⟨.type "type", _, .cls cd, sl⟩ => (match cd.mro, sl.toList with
    | .ref C' :: bm, [_, _, _, _, some (.builtin n), _] => C' == C && n == "ValueError.__new__" && !cd.hasDel && cd.hasDict && PySem.HandSPX.refsVE bm
    | _, _ => false)
  | _ => false
theorem clsX_ok {K : PySem.W.Frag} {C : Addr} (q : clsX K C = true) : ∃ nm qn N bs bm sn sub ab col dd k0 k1 k2 k3 k5, K.lookup C = some (excClassObj nm qn C N bs bm true sn sub ab col dd k0 k1 k2 k3 k5 "ValueError.__new__") ∧ PySem.HandSPX.refsVE bm = true := by
  unfold clsX at q
  split at q
  · rename_i dd cd sl ho
    split at q
    · rename_i C' bm k0 k1 k2 k3 n k5 hm hs
      simp only [Bool.and_eq_true, beq_iff_eq, Bool.not_eq_true'] at q
      obtain ⟨⟨⟨⟨rfl, rfl⟩, hdel⟩, hdi⟩, ht⟩ := q
      obtain ⟨nm, bs, mro, ns, qn, hd, sn, sub, ab, col, del⟩ := cd
      dsimp only at hm hdel hdi
      subst hm hdel hdi
      have hsl : sl = #[k0, k1, k2, k3, some (.builtin "ValueError.__new__"), k5] := by
        obtain ⟨l⟩ := sl
        simp only at hs
        rw [hs]
      subst hsl
      exact ⟨nm, qn, ns, bs, bm, sn, sub, ab, col, dd, k0, k1, k2, k3, k5, ho, ht⟩
    · cases q
  · cases q
def ecFn (K : PySem.W.Frag) (C : Addr) (qual file : Str) (fd : FuncData) : Bool := PySem.W.codeIn K fd.code qual && (He.dflB K fd.defaults [.non] &&
  ((match fd.code with
    | .ref cda => (match K.lookup cda with
      | some ⟨_, _, .fields vs, _⟩ => (match (vs[2]? : Option Value) with
        | some (Value.str f _) => f == file
        | _ => false)
      | _ => false)
    | _ => false) && (match fd.closure with
    | [(n, cc)] => decide (n = "__class__") && (match K.lookup cc with
      | some ⟨_, _, .cell (some (.ref D)), _⟩ => D == C
      | _ => false)
    | _ => false)))
def ecOk (K : PySem.W.Frag) (file : Str) (d : EcD) : Bool := clsX K (He.ga K d.cls) && (He.eqO (PySem.W.findIn K (.ref (He.ga K d.cls)) "__setattr__") (some (some (.builtin "object.__setattr__"))) &&
  (decide (PySem.W.subIn K (.ref (He.ga K d.cls)) (.type "BaseException") = some true) && (decide (PySem.W.typeIn K (.ref (He.ga K d.cls)) = some (.type "type")) && (PySem.W.keepIn K (.ref (He.ga K d.cls)) && (xfB K (He.ga K d.cls) &&
  (He.eqO (PySem.W.findIn K (.ref (He.ga K d.cls)) "__init__") (some (some (.ref (eI K d.cls)))) && (decide (PySem.W.typeIn K (.ref (eI K d.cls)) = some (.type "function")) && (He.eqO (PySem.W.findIn K (.ref (He.ga K d.cls)) "value") (some none) &&
  (He.eqO (PySem.W.nsIn K cStatics "thirdparty.any") (some none) && (He.eqO (PySem.W.ks_superIn K (He.ga K d.cls) (He.ga K d.cls) "__init__") (some (some (.builtin "ValueError.__init__"))) && (decide (PySem.W.subIn K (.ref (He.ga K d.cls)) (.type "ValueError") = some true) &&
  (decide (PySem.W.mroIn K (He.ga K d.cls) (.ref (He.ga K d.cls)) = some true) && (match K.lookup (eI K d.cls) with
    | some ⟨_, _, .func fd, _⟩ => ecFn K (He.ga K d.cls) d.qual file fd
    | _ => false)))))))))))))
theorem ecFn_ok {K : PySem.W.Frag} {C : Addr} {qual file : Str} {fd : FuncData} (h : ecFn K C qual file fd = true) : PySem.W.codeIn K fd.code qual = true ∧ DflV K fd.defaults [.non] ∧
    (∃ (cda : Addr) (ccl : Value) (cdd : Option Addr) (vs : Array Value) (ccs : Array (Option Value)) (tf : Tok), fd.code = .ref cda ∧ K.lookup cda = some ⟨ccl, cdd, .fields vs, ccs⟩ ∧ vs[2]? = some (.str file tf)) ∧
    ∃ (cc : Addr) (cl : Value) (cld : Option Addr) (csl : Array (Option Value)), fd.closure = [(("__class__" : Str), cc)] ∧ K.lookup cc = some ⟨cl, cld, .cell (some (.ref C)), csl⟩ := by
  obtain ⟨h1, h⟩ := He.ba h
  obtain ⟨h2, h⟩ := He.ba h
  obtain ⟨h3, h4⟩ := He.ba h
  refine ⟨h1, He.dflB_ok h2, ?_, ?_⟩
  · split at h3
    · rename_i cda e1
      split at h3
      · rename_i ccl cdd vs ccs e2
        split at h3
        · rename_i f tf e3
          rw [eq_of_beq h3] at e3
          exact ⟨cda, ccl, cdd, vs, ccs, tf, e1, e2, e3⟩
        · cases h3
      · cases h3
    · cases h3
  · split at h4
    · rename_i n cc e1
      obtain ⟨h5, h6⟩ := He.ba h4
      rw [of_decide_eq_true h5] at e1
      split at h6
      · rename_i cl cld D csl e2
        rw [eq_of_beq h6] at e2
        exact ⟨cc, cl, cld, csl, e1, e2⟩
      · cases h6
    · cases h4
theorem ec_ok {K : PySem.W.Frag} {file : Str} {d : EcD} (e : ecW K d.cls = d.val) (c : ecOk K file d = true) : ∃ fd, ExcD K (He.ga K d.cls) (eI K d.cls) "__init__" d.qual d.params d.body d.scope file fd := by
  obtain ⟨c1, c⟩ := He.ba c
  obtain ⟨c2, c⟩ := He.ba c
  obtain ⟨c3, c⟩ := He.ba c
  obtain ⟨c4, c⟩ := He.ba c
  obtain ⟨c5, c⟩ := He.ba c
  obtain ⟨c6, c⟩ := He.ba c
  obtain ⟨c7, c⟩ := He.ba c
  obtain ⟨c8, c⟩ := He.ba c
  obtain ⟨c9, c⟩ := He.ba c
  obtain ⟨c10, c⟩ := He.ba c
  obtain ⟨c11, c⟩ := He.ba c
  obtain ⟨c12, c⟩ := He.ba c
  obtain ⟨c13, c⟩ := He.ba c
  unfold ecW at e
  cases q : K.lookup (eI K d.cls) with
  | none => rw [q] at c; cases c
  | some o =>
    obtain ⟨oc, od, dt, osl⟩ := o
    rw [q] at c e
    cases dt with
    | func fd =>
      obtain ⟨k1, k2, ⟨cda, ccl, cdd, vs, ccs, tf, e1, e2, e3⟩, cc, cl, cld, csl, e4, e5⟩ := ecFn_ok c
      obtain ⟨n1, n2, n3, n4, n5, n6, n7, n8, n9, n10, n11, n12, n13, n14, n15⟩ := fd
      have e2' : (some (n1, n2, n3, n4, n5, n6, ([] : List (Str × Addr)), n15) : He.FnW) = some (("__init__" : Str), d.qual, d.params, FuncBody.stmts d.body, d.scope, mainGlobals, [], builtinsNs) := e
      simp only [Option.some.injEq, Prod.mk.injEq] at e2'
      obtain ⟨h1, h2, h3, h4, h5, h6, _, h8⟩ := e2'
      dsimp only at e1 e4 k1 k2
      subst h1 h2 h3 h4 h5 h6 h8 e4
      subst e1
      exact ⟨_, ⟨⟨clsX_ok c1, He.eqO_ok c2, of_decide_eq_true c3, of_decide_eq_true c4, c5⟩, xfB_ok c6, He.eqO_ok c7, of_decide_eq_true c8, He.eqO_ok c9, He.eqO_ok c10, He.eqO_ok c11, of_decide_eq_true c12, of_decide_eq_true c13, ⟨oc, od, _, _, _, _, _, _, osl, cda, cc, ccl, cdd, vs, ccs, tf, cl, cld, csl, rfl, q, k1, e2, e3, e5, k2⟩⟩⟩
    | _ => cases c
abbrev AlX : Type := AlP × Bool × List He.FnW
def obsX (fa : List He.Fa) (fn : List He.DefD) (cs : List (Nat × Str)) (ps : List PrD) (es : List EcD) (file : Str) (K : PySem.W.Frag) : AlX := (obsP fa fn cs ps K, es.all fun d => ecOk K file d, es.map fun d => ecW K d.cls)
def valX (fn : List He.DefD) (ps : List PrD) (es : List EcD) : AlX := (valP fn ps, true, es.map EcD.val)
structure SaysX (fa : List He.Fa) (fn : List He.DefD) (cs : List (Nat × Str)) (ps : List PrD) (es : List EcD) (file : Str) (K : PySem.W.Frag) : Prop where
  s : SaysP fa fn cs ps K
  e : ∀ (i : Nat) (d : EcD), es[i]? = some d → ∃ fd, ExcD K (He.ga K d.cls) (eI K d.cls) "__init__" d.qual d.params d.body d.scope file fd
theorem saysX_of {fa : List He.Fa} {fn : List He.DefD} {cs : List (Nat × Str)} {ps : List PrD} {es : List EcD} {file : Str} {K : PySem.W.Frag} (e : obsX fa fn cs ps es file K = valX fn ps es) : SaysX fa fn cs ps es file K := by
  have e1 : obsP fa fn cs ps K = valP fn ps := congrArg (fun z : AlX => z.1) e
  have e2 : (es.all fun d => ecOk K file d) = true := congrArg (fun z : AlX => z.2.1) e
  have e3 : (es.map fun d => ecW K d.cls) = es.map EcD.val := congrArg (fun z : AlX => z.2.2) e
  refine ⟨saysP_of e1, fun i d hd => ?_⟩
  have e4 : (es.map fun d => ecW K d.cls)[i]? = (es.map EcD.val)[i]? := by rw [e3]
  rw [List.getElem?_map, List.getElem?_map, hd] at e4
  exact ec_ok (Option.some.inj e4) (List.all_eq_true.mp e2 d (List.mem_of_getElem? hd))
def obsXG (n : Nat) (fa : List He.Fa) (fn : List He.DefD) (cs : List (Nat × Str)) (ps : List PrD) (es : List EcD) (file : Str) (g : Addr → Option Obj) : AlX := obsX fa fn cs ps es file (He.frG g (sysModules :: cStatics :: He.asD g n))
def hookX (n : Nat) (fa : List He.Fa) (fn : List He.DefD) (cs : List (Nat × Str)) (ps : List PrD) (es : List EcD) (file : Str) : PySem.W.Hook where
  α := AlX
  obs := fun s => obsXG n fa fn cs ps es file s.heap.get?
  val := fun _ => valX fn ps es
  says := fun _ h => ∃ K : PySem.W.Frag, K.In h ∧ SaysX fa fn cs ps es file K
  of := fun _ _ e => ⟨_, He.frG_in, saysX_of e⟩
  keeps := fun _ _ _ ⟨K, hK, c⟩ k => ⟨K, PySem.W.Frag.In.keeps hK k, c⟩
end FT

set_option Elab.async false
set_option linter.all false
set_option maxRecDepth 100000
set_option autoImplicit false
set_option maxHeartbeats 2000000
namespace FT
open PySem PySem.Spec PyProof.Rows L2 NdefX
def pf_ev : PF := ⟨false, .nor, fun ds => match ds with
  | [d] => guardO d.flat (some (d, .non))
  | _ => none⟩
end FT

set_option Elab.async false
set_option linter.all false
set_option maxRecDepth 100000
set_option autoImplicit false
set_option maxHeartbeats 2000000
namespace FT
open PySem PySem.Spec PyProof.Rows L2
/-! ### a def called where nothing is being shown: repr of lists is known within -/
structure FnGd (P : Program) (w : World) (K : PySem.W.Frag) (mg : Str → Option Value) (base : Heap) (k : Nat) (f : Addr) (fd : FuncData) (ps : List Str) (sp : Sp) : Prop where
  len : ∀ vs H Q E, sp vs H Q E → vs.length = ps.length
  run : ∀ (A : Around) (outer : List Env) (s : Shared) (H : Hp) (args : Args) (us : List Value) (vs : List V) (Q : VK) (E : XK), Room k A → A.guards = some [] → Env0 P w K mg base A outer s H → BindsTo s fd args (ps.zip us) → Vals vs us → sp vs H Q E →
    codeAny (model P w) A (.call (.ref f) args) (CR CX0 outer P w H s Q E) s
section
variable {g : G} {Γ : Nat → Option Con} {P : Program} {w : World} {K : PySem.W.Frag} {mg : Str → Option Value} {base : Heap} {x qual : Str} {params : Arguments} {body : List Stmt} {scope : Scope} {f : Addr} {fd : FuncData}
theorem gd_of {N ps : List Str} {k : Nat} {sp : Sp} (F : FunD K x qual params body scope [] [] f fd) (S : FnScope N ps scope) (len : ∀ vs H Q E, sp vs H Q E → vs.length = ps.length)
    (hbody : ∀ (cdv : Value) (A : Around) (outer : List Env) (s : Shared) (H : Hp) (vs : List V) (Q : VK) (E : XK), Room k (A.deeper (envOfC qual scope s.heap.objs.size f cdv)) → A.guards = some [] → sp vs H Q E →
      ∃ t, PSs (cxOf CX0 P w K mg base N qual scope f cdv A outer s H E) body t ∧ t { nx := fun _ H' => Q .non H', rt := Q } (start N vs) H) : FnGd P w K mg base (k + 1) f fd ps sp := by
  obtain ⟨oc, od, dV, kV, doc, pm, an, cdv, ct, osl, rfl, lk, hcd, _, _⟩ := F.ex
  refine ⟨len, fun A outer s H args us vs Q E hr hg e0 hb r hsp => ?_⟩
  have hl := len _ _ _ _ hsp
  have KX : K.In s.heap := e0.mod.kin.keeps fun b o e => (e0.bs b o e).1
  have lim : s.heap.NoLimit := e0.mod.nolimit.keeps fun b o e => (e0.bs b o e).1
  have hkind : ∀ y ∈ ps.zip us, scope.names.lookup y.1 = some .local ∨ (scope.names.lookup y.1 = some .cell ∧ ((cellsFrom (s.heap.objs.size + 1) scope.names []).lookup y.1).isSome = true) := fun ⟨n, v⟩ hy => by
    rcases S.par n (List.of_mem_zip hy).1 with q | q
    · exact .inl q
    · exact .inr ⟨q, PySem.W.cellsFrom_some _ _ _ (.inl q)⟩
  refine codeAny_call_function hr.depth (KX _ _ lk) rfl S.co S.gen rfl (PySem.W.codeRec_of KX hcd) (hb _ _ _ _ ?_)
  refine wpAny_newFunctionEnv_cells S.kind hkind fun env he s1 x => ?_
  subst he
  refine ⟨lim.keeps x.toInCall.keep, codeAny_func ?_⟩
  obtain ⟨t, ht, hq⟩ := hbody cdv A outer s H vs Q E (hr.deeper _) hg hsp
  have I : Inv (cxOf CX0 P w K mg base N qual scope f cdv A outer s H E) [] (start N vs) H s1 := inv_start S hr.hd e0 hl r x
  refine wpAny_mono (ht.run [] s1 (start N vs) H _ I hq) (fun fl s' hs => ?_) fun e s' hs => hs
  have fin : ∀ {σ' : L2.St} {H' : Hp} {v : V} {u : Value}, Inv (cxOf CX0 P w K mg base N qual scope f cdv A outer s H E) [] σ' H' s' → RelV v u → Q v H' → CE outer P w H s Q u s' :=
    fun {σ' H' v u} J rv q => ⟨v, H', J.os, J.bare, J.base, J.hok, rv, q⟩
  cases fl with
  | ret u =>
    obtain ⟨v, σ', H', J, rv, q⟩ := hs
    exact fin J rv q
  | next =>
    obtain ⟨σ', H', J, q⟩ := hs
    exact fin (v := V.non) (u := Value.none) J rfl q
  | brk =>
    obtain ⟨_, _, _, q⟩ := hs
    exact False.elim q
  | cont =>
    obtain ⟨_, _, _, q⟩ := hs
    exact False.elim q
theorem fn_gd {con : Con} {tree : Ss} {N ps : List Str} {c : Cfg} {k : Nat} (F : FunD K x qual params body scope [] [] f fd) (S : FnScope N ps scope) (hN : c.N = N) (hsc : c.sc = scope) (hblk : c.blk = none) (hio : con.io = false)
    (hchk : chkB c tree body = true) (hps : ∀ i, (con.args i).length = ps.length) (hpn : ps.length ≤ N.length) (hE : ∀ A, Room (k + 1) A → Env1 g ⟨P, w, K, mg, base, A⟩ Γ c.fn c.pn c.cn c.kn c.free)
    (hw : ∀ i, con.pre i → wB Γ tree (initS con.io (con.args i) N.length) (con.fin i)) : FnGd P w K mg base (k + 2) f fd ps (spC g con) := by
  refine gd_of F S (fun vs H Q E h => spC_len hps h) fun cdv A outer s H vs Q E hr hg h => ?_
  refine ⟨OkB (cxOf CX0 P w K mg base N qual scope f cdv A outer s H E).nox body, PSs.nox (pbK body), ?_⟩
  have C : CfgOk g ⟨P, w, K, mg, base, A.deeper (envOfC qual scope s.heap.objs.size f cdv)⟩ Γ (cxOf CX0 P w K mg base N qual scope f cdv A outer s H E).nox c := by
    refine ⟨⟨rfl, rfl, rfl, rfl, rfl, rfl, rfl, rfl⟩, hN.symm, S.nd, hsc.symm, S.kind, hE _ hr, fun _ => (by show (A.deeper _).guards = some []; exact hg), ?_⟩
    rw [hblk]
    exact fun _ => rfl
  unfold spC Con.sp at h
  rw [hio] at h
  dsimp only at h
  obtain ⟨F0, ds, sub, r, i, ei, pre, h⟩ := h
  have hl : ds.length ≤ N.length := by rw [← ei, hps]; exact hpn
  obtain ⟨S0, no⟩ := init_sr (H := H) sub r hl
  have w0 := hw i pre
  rw [ei, hio] at w0
  have fin : ∀ s' ρ' σ' F' v H', con.rtOk i s' ρ' → Stp (initS false ds N.length) (L2.start N vs) F0 H ρ' σ' F' H' → SR g F' ρ' σ' H' → SlR g (initS false ds N.length) (L2.start N vs) H F' H' ρ' σ' s' v → Q v H' := fun s' ρ' σ' F' v H' q T S' rr => by
    obtain ⟨q1, q2⟩ := q
    rw [hio] at q2
    obtain ⟨F'', sb, cs, _, rt⟩ := ret_con (k := con) (A := fun _ => False) T S' (fun z hz => no z hz) (fun z hz => hz.elim) rr (fun a hz _ => absurd hz (no a)) q1
    exact h s'.d .non q2 F'' H' v cs rt
  exact all_B tree c body hchk _ C _ _ w0 F0 _ H _ S0 ⟨fun ρ' σ' F' H' q T S' _ => fin (.sh .non) ρ' σ' F' .non H' q T S' rfl, fun s' ρ' σ' F' v H' q T S' _ rr => fin s' ρ' σ' F' v H' q T S' rr⟩
/-- its call at such a place -/
theorem call_gd {con : Con} {ps : List Str} {k : Nat} {A : Around} (F : FnGd P w K mg base k f fd ps (spC g con)) (hr : Room k A) (hgd : A.guards = some []) (hm : mg x = some (.ref f)) (hk : PySem.W.keepIn K (.ref f) = true) (hb : Binds K fd ps []) (hd : (x == ("__debug__" : Str)) = false) :
    ∀ X, Lk ⟨P, w, K, mg, base, A⟩ X → Gl X x → CallOk g X x con := by
  intro X lk hg e es p pos σ H Q hs hh
  obtain ⟨t, pa, h⟩ := hh
  have hs' : (notStar e && notStars es) = true := hs
  rw [Bool.and_eq_true] at hs'
  have F' : FnGd X.prog X.w X.K X.mg X.base k f fd ps (spC g con) := by rw [lk.prog, lk.w, lk.K, lk.mg, lk.base]; exact F
  have hrX : Room k X.A := by rw [lk.A]; exact hr
  have hgX : X.A.guards = some [] := by rw [lk.A]; exact hgd
  have hkX : PySem.W.keepIn X.K (.ref f) = true := by rw [lk.K]; exact hk
  have hbX : Binds X.K fd ps [] := by rw [lk.K]; exact hb
  refine ⟨fun σ' H' Q' => t σ' H' fun vs H1 => con.sp g vs H1 Q', ⟨fun pins s σ' H' Q' I hq => ?_⟩, h⟩
  refine wpAny_Call_Name_kw (ld_glob I hg (by rw [lk.mg]; exact hm) ?_ hd)
  refine PySem.W.callWith_K (h₀ := X.base) I.ok.mod.kin hkX (thn (pa.run pos pins s σ' H' _ I hq) fun us s1 hz => ?_) (star1 hs'.1) (stars_any hs'.2)
  obtain ⟨vs, H1, I1, r, q⟩ := hz
  refine ⟨I1.kIn, ?_⟩
  have hl : (us ++ []).length = ps.length := by rw [List.append_nil, ← r.length]; exact F'.len _ _ _ (fun _ _ _ => False) q
  refine wpAny_call (codeAny_mono (F'.run X.A X.stack s1 H1 ⟨us, []⟩ us vs Q' (fun _ _ _ => False) hrX hgX I1.env0 (by have := hbX s1 us I1.kIn hl; simpa using this) r q) fun r s' hq => ?_)
  cases r with
  | error e => exact (pass0 : Passes CX0 X (fun _ _ _ => False)) pins σ' H1 s1 e s' I1 hq
  | ok fl =>
    cases fl with
    | ret u => exact I1.after hq
    | next => exact False.elim hq
    | brk => exact False.elim hq
    | cont => exact False.elim hq
end
end FT

set_option Elab.async false
set_option linter.all false
set_option maxRecDepth 100000
set_option autoImplicit false
set_option maxHeartbeats 2000000
namespace FT
open PySem PySem.Spec PyProof.Rows L2 NdefX
/-! ### exceptions made, as values -/
theorem exc_bd {K : PySem.W.Frag} {C fI : Addr} {nm qual : Str} {params : Arguments} {body : List Stmt} {scope : Scope} {file : Str} {fd : FuncData} (D : ExcD K C fI nm qual params body scope file fd) {pos : List Value} {kw : List (Str × Value)} {u : Value}
    (h : ∀ (T : Addr) (kV doc pm : Value) (an : Option Addr) (cdv ct : Value) (cc : Addr) (self : Value),
      ∃ k, bindArgs (PySem.W.ksFn nm qual params body scope (.ref T) kV doc pm an cdv ct cc) ⟨self :: pos, kw⟩ = seqItems? (.ref T) >>= k ∧ k (some #[.none]) = pure ((["self", "value"] : List Str).zip [self, u])) :
    ∀ (s : Shared) (self : Value), K.In s.heap → BindsTo s fd ⟨self :: pos, kw⟩ ((["self", "value"] : List Str).zip [self, u]) := by
  obtain ⟨oc, od, dV, kV, doc, pm, an, ct, osl, cda, cc, ccl, cdd, cvs, ccs, tf, cl, cld, csl, rfl, lk, hcd, hcode, hfv, hcell, hD⟩ := D.fn
  intro s self X
  rcases hD with ⟨e, _⟩ | ⟨_, T, o, its, m, rfl, lT, oT, rT⟩
  · cases e
  · cases rT with
    | @cons _ i0 _ ir r0 r1 =>
      cases r1
      cases (show i0 = Value.none from r0)
      obtain ⟨k, e1, e2⟩ := h T kV doc pm an _ ct cc self
      refine BindsTo.of_looks fun M => ?_
      rw [e1]
      exact looks_items X lT oT (.of_pure e2)
/-- an exception of the class at C that keeps v has been made at a -/
structure MadeX (C : Addr) (v : V) (H : Hp) (a dx : Addr) (H' : Hp) : Prop where
  na : H a = none
  nd : H dx = none
  ne : dx ≠ a
  at_ : H' a = some (exo a C (some dx))
  dat : H' dx = some (exd dx [("value", v)])
  keep : Ext H H'
  grow : ∀ b, H' b = none → H b = none
def MkQ (C : Addr) (v : V) (H : Hp) (Q : VK) : Prop := ∀ a dx H', MadeX C v H a dx H' → Q (.ref a) H'
section
variable {X : Cx} {C fI : Addr} {nm qual : Str} {params : Arguments} {body : List Stmt} {scope : Scope} {file : Str} {fd : FuncData} {k : Nat} {pins : List (Addr × Obj)} {σ : L2.St} {H : Hp} {s : Shared} {Q : VK} {v : V} {u : Value}
theorem mk_val (D : ExcD X.K C fI nm qual params body scope file fd) (F : FnOk X.prog X.w X.K X.mg X.base CX0 k fI fd ["self", "value"] (spI C)) (hr : Room (k + 1) X.A) (I : Inv X pins σ H s) {pos : List Value} {kw : List (Str × Value)} (hl : pos.length ≤ sizeLine) (rv : RelV v u)
    (hb : ∀ (s : Shared) (self : Value), X.K.In s.heap → BindsTo s fd ⟨self :: pos, kw⟩ ((["self", "value"] : List Str).zip [self, u])) (h : MkQ C v H Q) : wpAny (model X.prog X.w) X.A (call (.ref C) pos kw) (EP X pins σ Q) X.xe s := by
  obtain ⟨nmC, qC, NC, bs, bm, sn, sub, ab, col, dd, k0, k1, k2, k3, k5, hC, hbm⟩ := D.T.cls
  obtain ⟨hp, g, dr, tk, os⟩ := s
  have hsz : hp.objs.size ≤ hp.objs.size + 1 := Nat.le_succ _
  have hn : H (hp.objs.size + 1) = none := I.hok.fresh hsz
  have kk : ∀ b o, hp.get? b = some o → ((hp.push (PySem.W.kdv_tup pos)).push (PySem.HandSPX.excO C hp.objs.size)).get? b = some o := fun b o e => Heap.get?_push_of_some _ (Heap.get?_push_of_some _ e)
  have hget : ((hp.push (PySem.W.kdv_tup pos)).push (PySem.HandSPX.excO C hp.objs.size)).get? (hp.objs.size + 1) = some (PySem.HandSPX.excO C hp.objs.size) := by heap_get
  have I3 : Inv X pins σ (upd H (hp.objs.size + 1) (exo (hp.objs.size + 1) C none)) ⟨(hp.push (PySem.W.kdv_tup pos)).push (PySem.HandSPX.excO C hp.objs.size), g, dr, tk, os⟩ :=
    I.laid (t' := tk) (a := hp.objs.size + 1) (o := exo (hp.objs.size + 1) C none) (h' := (hp.push (PySem.W.kdv_tup pos)).push (PySem.HandSPX.excO C hp.objs.size)) kk hsz (exo_ok hget)
  have r2 : Vals [V.ref (hp.objs.size + 1), v] [Value.ref (hp.objs.size + 1), u] := .cons rfl (.cons rv .nil)
  have hq : spI C [V.ref (hp.objs.size + 1), v] (upd H (hp.objs.size + 1) (exo (hp.objs.size + 1) C none)) (fun w H4 => w = .non ∧ ∃ dx, H dx = none ∧ dx ≠ hp.objs.size + 1 ∧
      H4 = upd (upd (upd H (hp.objs.size + 1) (exo (hp.objs.size + 1) C none)) dx (exd dx [("value", v)])) (hp.objs.size + 1) (exo (hp.objs.size + 1) C (some dx))) (fun _ _ _ => False) :=
    ⟨_, v, rfl, upd_same, fun dx h1 ne => ⟨rfl, dx, by rw [upd_ne ne] at h1; exact h1, ne, rfl⟩⟩
  refine wpAny_call (PySem.HandSPX.call_ownK (rest := pos) (kw := kw) PySem.F.excBase_ValueError (fun Y => PySem.HandSPX.refsVE_contains Y bm hbm) (I.kIn _ _ hC) (PySem.W.looks_findIn I.kIn D.iC) (fun self => PySem.W.bind_fn I.kIn self D.tI) hl
    (codeAny_mono (F.run _ X.stack _ _ ⟨Value.ref (hp.objs.size + 1) :: pos, kw⟩ [Value.ref (hp.objs.size + 1), u] _ _ (fun _ _ _ => False) (hr.make C pos kw) (I3.env0.make C pos kw) (hb _ _ I3.kIn) r2 hq) fun r s' hq' => ?_))
  cases r with
  | error er => exact (pass0 : Passes CX0 X (fun _ _ _ => False)) pins σ _ _ er s' I3 hq'
  | ok fl =>
    cases fl with
    | ret w =>
      obtain ⟨v', H4, I4, rw', ev, dx, hdx, ne, eH⟩ := I3.after hq'
      subst ev
      refine ⟨rw', ?_⟩
      refine ⟨.ref (hp.objs.size + 1), H4, I4, rfl, h _ dx H4 ⟨hn, hdx, ne, by rw [eH]; exact upd_same, by rw [eH, upd_ne ne]; exact upd_same, fun b o e => ?_, fun b e => ?_⟩⟩
      · have n1 : b ≠ hp.objs.size + 1 := fun z => by rw [z, hn] at e; cases e
        have n2 : b ≠ dx := fun z => by rw [z, hdx] at e; cases e
        rw [eH, upd_ne n1, upd_ne n2, upd_ne n1]
        exact e
      · rw [eH] at e
        by_cases n1 : b = hp.objs.size + 1
        · rw [n1]; exact hn
        · rw [upd_ne n1] at e
          by_cases n2 : b = dx
          · rw [n2]; exact hdx
          · rw [upd_ne n2, upd_ne n1] at e
            exact e
    | next => exact False.elim hq'
    | brk => exact False.elim hq'
    | cont => exact False.elim hq'
variable {x : Str} {e : Expr} {te : TE} {p p2 kp : Pos}
/-- C(e) -/
theorem pe_mk1 (D : ExcD X.K C fI nm qual params body scope file fd) (F : FnOk X.prog X.w X.K X.mg X.base CX0 k fI fd ["self", "value"] (spI C)) (hr : Room (k + 1) X.A) (hg : Gl X x) (hm : X.mg x = some (.ref C)) (hd : (x == ("__debug__" : Str)) = false)
    (hb : ∀ (u : Value) (s : Shared) (self : Value), X.K.In s.heap → BindsTo s fd ⟨[self, u], []⟩ ((["self", "value"] : List Str).zip [self, u])) (he : PE X e te) (hs : notStar e = true) :
    PE X (.Call (.Name x p) [e] [] p2) (fun σ H Q => te σ H fun v H1 => MkQ C v H1 Q) := by
  refine ⟨fun pins s σ H Q I h => ?_⟩
  refine wpAny_Call_Name_kw (ld_glob I hg hm ?_ hd)
  refine PySem.W.callWith_K (h₀ := X.base) I.ok.mod.kin D.T.kC (thn ((pa_cons he pa_nil (star1 hs)).run p2 pins s σ H (fun vs H1 => match vs with
    | [v] => MkQ C v H1 Q
    | _ => False) I h) fun us s1 hz => ?_) (star1 hs) rfl
  obtain ⟨vs, H1, I1, r, q⟩ := hz
  refine ⟨I1.kIn, ?_⟩
  cases vs with
  | nil => exact q.elim
  | cons v vr =>
  cases vr with
  | cons _ _ => exact q.elim
  | nil =>
  cases r with
  | @cons _ u _ ur r1 r2 =>
  cases r2
  exact mk_val D F hr I1 (pos := [u]) (kw := []) (by rw [sizeLine_eq]; exact Nat.le_of_lt (by decide : 1 < _)) r1 (hb u) q
/-- C(value = e) -/
theorem pe_mkk (D : ExcD X.K C fI nm qual params body scope file fd) (F : FnOk X.prog X.w X.K X.mg X.base CX0 k fI fd ["self", "value"] (spI C)) (hr : Room (k + 1) X.A) (hg : Gl X x) (hm : X.mg x = some (.ref C)) (hd : (x == ("__debug__" : Str)) = false)
    (hb : ∀ (u : Value) (s : Shared) (self : Value), X.K.In s.heap → BindsTo s fd ⟨[self], [("value", u)]⟩ ((["self", "value"] : List Str).zip [self, u])) (he : PE X e te) :
    PE X (.Call (.Name x p) [] [⟨some "value", e, kp⟩] p2) (fun σ H Q => te σ H fun v H1 => MkQ C v H1 Q) := by
  refine ⟨fun pins s σ H Q I h => ?_⟩
  refine wpAny_Call_Name_kw (ld_glob I hg hm ?_ hd)
  refine PySem.W.callWith_KW0 (h₀ := X.base) I.ok.mod.kin D.T.kC rfl (thn ((pk_cons he pk_nil).run p2 pins s σ H (fun vs H1 => match vs with
    | [v] => MkQ C v H1 Q
    | _ => False) I h) fun us s1 hz => ?_) rfl
  obtain ⟨vs, H1, I1, r, q⟩ := hz
  refine ⟨I1.kIn, ?_⟩
  cases vs with
  | nil => exact q.elim
  | cons v vr =>
  cases vr with
  | cons _ _ => exact q.elim
  | nil =>
  cases r with
  | @cons _ u _ ur r1 r2 =>
  cases r2
  show wpAny _ _ (call (.ref C) [] [("value", u)]) _ _ _
  exact mk_val D F hr I1 (pos := []) (kw := [("value", u)]) (Nat.zero_le _) r1 (hb u) q
/-- C() -/
theorem pe_mk0 (D : ExcD X.K C fI nm qual params body scope file fd) (F : FnOk X.prog X.w X.K X.mg X.base CX0 k fI fd ["self", "value"] (spI C)) (hr : Room (k + 1) X.A) (hg : Gl X x) (hm : X.mg x = some (.ref C)) (hd : (x == ("__debug__" : Str)) = false)
    (hb : ∀ (s : Shared) (self : Value), X.K.In s.heap → BindsTo s fd ⟨[self], []⟩ ((["self", "value"] : List Str).zip [self, .none])) :
    PE X (.Call (.Name x p) [] [] p2) (fun σ H Q => MkQ C .non H Q) := by
  refine ⟨fun pins s σ H Q I h => ?_⟩
  refine wpAny_Call_Name_kw (ld_glob I hg hm ?_ hd)
  exact PySem.W.callWith_K0 I.kIn D.T.kC (mk_val D F hr I (pos := []) (kw := []) (v := .non) (u := .none) (Nat.zero_le _) rfl hb h)
end
end FT

set_option Elab.async false
set_option linter.all false
set_option maxRecDepth 100000
set_option autoImplicit false
set_option maxHeartbeats 2000000
namespace FT
open PySem PySem.Spec PyProof.Rows L2
/-! ### lists of exceptions that keep one value -/
/-- what stood stays, what is nothing was nothing -/
structure Grw (H H' : Hp) : Prop where
  ext : Ext H H'
  non : ∀ b, H' b = none → H b = none
theorem Grw.refl {H : Hp} : Grw H H := ⟨fun _ _ h => h, fun _ h => h⟩
theorem Grw.trans {H H1 H2 : Hp} (a : Grw H H1) (b : Grw H1 H2) : Grw H H2 := ⟨fun c o h => b.ext c o (a.ext c o h), fun c h => a.non c (b.non c h)⟩
theorem Grw.upd {H : Hp} {p : Addr} {o : HO} (h : H p = none) : Grw H (upd H p o) := ⟨fun b u e => by rw [upd_ne (ne_of_none e h)]; exact e, fun b e => by
  by_cases z : b = p
  · rw [z]; exact h
  · rw [upd_ne z] at e; exact e⟩
theorem MadeX.grw {C : Addr} {v : V} {H H' : Hp} {a dx : Addr} (M : MadeX C v H a dx H') : Grw H H' := ⟨M.keep, M.grow⟩
/-- exceptions of the classes Cs that keep v, made since H0 -/
def Exs (H0 H : Hp) (v : V) : List Addr → List V → Prop
  | [], vs => vs = []
  | C :: Cs, vs => ∃ a dx vr, vs = .ref a :: vr ∧ H0 a = none ∧ H0 dx = none ∧ H a = some (exo a C (some dx)) ∧ H dx = some (exd dx [("value", v)]) ∧ Exs H0 H v Cs vr
theorem Exs.mono {H0 H H' : Hp} {v : V} (g : Ext H H') : ∀ {Cs : List Addr} {vs : List V}, Exs H0 H v Cs vs → Exs H0 H' v Cs vs
  | [], _, h => h
  | _ :: _, _, ⟨a, dx, vr, e, n1, n2, h1, h2, r⟩ => ⟨a, dx, vr, e, n1, n2, g _ _ h1, g _ _ h2, Exs.mono g r⟩
theorem Exs.len {H0 H : Hp} {v : V} : ∀ {Cs : List Addr} {vs : List V}, Exs H0 H v Cs vs → vs.length = Cs.length
  | [], _, h => by cases (show _ = [] from h); rfl
  | _ :: _, _, ⟨a, dx, vr, e, n1, n2, h1, h2, r⟩ => by subst e; rw [List.length_cons, List.length_cons, Exs.len r]
theorem Exs.app {H0 H : Hp} {v : V} : ∀ {Cs Ds : List Addr} {vs ws : List V}, Exs H0 H v Cs vs → Exs H0 H v Ds ws → Exs H0 H v (Cs ++ Ds) (vs ++ ws)
  | [], _, _, _, h, k => by cases (show _ = [] from h); exact k
  | _ :: _, _, _, _, ⟨a, dx, vr, e, n1, n2, h1, h2, r⟩, k => by subst e; exact ⟨a, dx, _, rfl, n1, n2, h1, h2, Exs.app r k⟩
/-- an expression that makes such an exception -/
structure MkE (X : Cx) (σ : L2.St) (v : V) (e : Expr) (C : Addr) : Prop where
  ex : ∃ t, PE X e t ∧ ∀ H Q, MkQ C v H Q → t σ H Q
def MkEs (X : Cx) (σ : L2.St) (v : V) : List Expr → List Addr → Prop
  | [], [] => True
  | e :: es, C :: Cs => MkE X σ v e C ∧ MkEs X σ v es Cs
  | _, _ => False
section
variable {X : Cx} {σ : L2.St} {v : V} {H0 : Hp}
theorem okA_mks : ∀ {xs : List Expr} {Cs : List Addr}, MkEs X σ v xs Cs → notStars xs = true → ∀ {H : Hp} {K : List V → Hp → Prop}, Grw H0 H → (∀ vs H', Grw H H' → Exs H0 H' v Cs vs → K vs H') → OkA X xs σ H K
  | [], [], _, _, H, K, _, k => ⟨_, pa_nil, k [] H .refl rfl⟩
  | e :: es, C :: Cs, ⟨⟨t, pe, ht⟩, m⟩, hs, H, K, g0, k => by
    have hs' : (notStar e && notStars es) = true := hs
    rw [Bool.and_eq_true] at hs'
    refine ⟨_, pa_cons pe (paK es) (star1 hs'.1), ht H _ fun a dx H1 M => ?_⟩
    show OkA X es σ H1 fun xs H2 => K (.ref a :: xs) H2
    exact okA_mks m hs'.2 (g0.trans M.grw) fun vs H2 g2 ex => k _ H2 (M.grw.trans g2) ⟨a, dx, vs, rfl, g0.non _ M.na, g0.non _ M.nd, g2.ext _ _ M.at_, g2.ext _ _ M.dat, ex⟩
  | [], _ :: _, h, _, _, _, _, _ => h.elim
  | _ :: _, [], h, _, _, _, _, _ => h.elim
variable {g : G} {b : BF} {Γ : Nat → Option Con} {c : Cfg}
/-- a name takes a value -/
theorem okB_set (C : CfgOk g b Γ X c) {i : Nat} {y : Str} {py p : Pos} {e : Expr} {rest : List Stmt} {D : Ends} {H : Hp} (hy : c.sto y i = true) (hc : notComp e = true) (h : OkE X e σ H fun v H1 => OkB X rest D (σ.set i (some v)) H1) : OkB X (.Assign [.Name y py] e p :: rest) D σ H := by
  obtain ⟨h1, h2, h3, h4⟩ := C.sto hy
  exact ⟨_, pss_cons (ps_set C.nd h1 h2 (peK e) (comp_ok hc) h3) (pbK rest), h⟩
/-- the list of them at P -/
structure ExL (H0 H : Hp) (v : V) (Cs : List Addr) (P : Addr) : Prop where
  np : H0 P = none
  ls : ∃ vs, H P = some (.lst vs) ∧ Exs H0 H v Cs vs
theorem ExL.mono {H H' : Hp} {Cs : List Addr} {P : Addr} (h : ExL H0 H v Cs P) (g : Ext H H') : ExL H0 H' v Cs P := ⟨h.np, let ⟨vs, e, x⟩ := h.ls; ⟨vs, g _ _ e, x.mono g⟩⟩
theorem okE_exl {xs : List Expr} {Cs : List Addr} {pos : Pos} {H : Hp} {K : VK} (m : MkEs X σ v xs Cs) (hs : notStars xs = true) (hl : Cs.length ≤ sizeLine) (g0 : Grw H0 H) (k : ∀ P H', Grw H H' → ExL H0 H' v Cs P → K (.ref P) H') : OkE X (.List xs pos) σ H K := by
  refine ⟨_, pe_lst (paK xs), okA_mks m hs g0 fun vs H1 g1 ex => ⟨by rw [ex.len]; exact hl, fun P hP => ?_⟩⟩
  have g2 : Grw H1 (upd H1 P (.lst vs)) := .upd hP
  exact k P _ (g1.trans g2) ⟨(g0.trans g1).non _ hP, vs, upd_same, ex.mono g2.ext⟩
theorem okE_exl2 (C : CfgOk g b Γ X c) {xs : List Expr} {Cs Ds : List Addr} {pos p2 py : Pos} {i : Nat} {y : Str} {P0 : Addr} {H : Hp} {K : VK} (hv : c.vis y i = true) (hi : σ[i]? = some (some (.ref P0))) (h0 : ExL H0 H v Cs P0) (m : MkEs X σ v xs Ds) (hs : notStars xs = true) (hl : Cs.length + Ds.length ≤ sizeLine)
    (g0 : Grw H0 H) (k : ∀ P H', Grw H H' → ExL H0 H' v (Cs ++ Ds) P → K (.ref P) H') : OkE X (.BinOp (.Name y py) .Add (.List xs pos) p2) σ H K := by
  obtain ⟨v1, v2, v3, v4⟩ := C.vis hv
  refine ⟨_, pe_op op_cat (pe_var v1 v2 v3 v4) (pe_lst (paK xs)), .ref P0, hi, okA_mks m hs g0 fun ws H1 g1 ex => ⟨by rw [ex.len]; exact Nat.le_trans (Nat.le_add_left _ _) hl, fun P1 hP => ?_⟩⟩
  obtain ⟨vs, e1, x1⟩ := h0.ls
  have g2 : Grw H1 (upd H1 P1 (.lst ws)) := .upd hP
  refine ⟨P0, P1, vs, ws, rfl, rfl, g2.ext _ _ (g1.ext _ _ e1), upd_same, by rw [x1.len, ex.len]; exact hl, fun P hP2 => ?_⟩
  have g3 : Grw (upd H1 P1 (.lst ws)) (upd (upd H1 P1 (.lst ws)) P (.lst (vs ++ ws))) := .upd hP2
  have gg := g2.trans g3
  exact k P _ (g1.trans gg) ⟨((g0.trans g1).trans g2).non _ hP2, _, upd_same, ((x1.mono g1.ext).mono gg.ext).app (ex.mono gg.ext)⟩
end
/-! ### the new objects join what is shared -/
def joinF (F H H1 : Hp) : Hp := fun a => match F a with
  | some o => some o
  | none => match H a with
    | some _ => none
    | none => H1 a
theorem joinF_old {F H H1 : Hp} : Same F (joinF F H H1) := fun a o e => by unfold joinF; rw [e]
theorem joinF_new {F H H1 : Hp} (sub : Same F H) {a : Addr} {o : HO} (h : H a = none) (h1 : H1 a = some o) : joinF F H H1 a = some o := by
  unfold joinF
  cases e : F a with
  | some u => rw [sub _ _ e] at h; cases h
  | none => rw [h]; exact h1
theorem joinF_sub {F H H1 : Hp} (sub : Same F H) (g : Ext H H1) : Same (joinF F H H1) H1 := fun a o e => by
  unfold joinF at e
  cases f : F a with
  | some u => rw [f] at e; cases e; exact g _ _ (sub _ _ f)
  | none =>
    rw [f] at e
    cases h : H a with
    | some u => rw [h] at e; cases e
    | none => rw [h] at e; exact e
theorem joinF_none {F H H1 : Hp} {a : Addr} {o : HO} (f : F a = none) (h : H a = some o) : joinF F H H1 a = none := by
  unfold joinF
  rw [f, h]
section
variable {g : G} {F H H1 : Hp} {ρ : List Sl} {σ : L2.St}
theorem SR.join (S : SR g F ρ σ H) (gr : Grw H H1) : SR g (joinF F H H1) ρ σ H1 := by
  refine ⟨joinF_sub S.sub gr.ext, S.len, fun i d h => ?_, fun i d h => ?_, S.inj⟩
  · obtain ⟨v, e, r⟩ := S.sh i d h
    exact ⟨v, e, r.mono joinF_old⟩
  · obtain ⟨a, o, e1, e2, e3, r⟩ := S.ow i d h
    exact ⟨a, o, e1, joinF_none e2 e3, gr.ext _ _ e3, r.mono joinF_old⟩
end
end FT

set_option Elab.async false
set_option linter.all false
set_option maxRecDepth 100000
set_option autoImplicit false
set_option maxHeartbeats 2000000
namespace FT
open PySem PySem.Spec PyProof.Rows L2
/-! ### the base class of the own errors: made, and seen to be a ValueError -/
structure FteC (K : PySem.W.Frag) (C : Addr) : Prop where
  ex : PySem.W.excIn K C He.veBase "ValueError.__new__" = true
  kp : PySem.W.keepIn K (.ref C) = true
  xf : XfC K C
  cls : (PySem.W.clsIn K C).isSome = true
  ca : PySem.W.findIn K (.ref C) "__class__" = some (some (.builtin "object.__class__"))
  mo : PySem.W.mroIn K C (.type "object") = some true
  kitV : PySem.W.kitOne K (.ref C) (.type "ValueError") = some true
section
variable {X : Cx} {σ : L2.St} {x : Str} {C : Addr} {p p2 pos : Pos} {e : Expr} {te : TE}
theorem pe_fte (T : FteC X.K C) (hg : Gl X x) (hm : X.mg x = some (.ref C)) (hd : (x == ("__debug__" : Str)) = false) (he : PE X e te) (hs : notStar e = true) :
    PE X (.Call (.Name x p) [e] [] p2) (fun σ H Q => te σ H fun v H1 => ∀ a, H1 a = none → Q (.ref a) (upd H1 a (exo a C none))) := by
  refine ⟨fun pins s σ H Q I h => ?_⟩
  refine wpAny_Call_Name_kw (ld_glob I hg hm ?_ hd)
  refine PySem.W.callWith_K (h₀ := X.base) I.ok.mod.kin T.kp (thn ((pa_cons he pa_nil (star1 hs)).run p2 pins s σ H (fun vs H1 => match vs with
    | [v] => ∀ a, H1 a = none → Q (.ref a) (upd H1 a (exo a C none))
    | _ => False) I h) fun us s1 hz => ?_) (star1 hs) rfl
  obtain ⟨vs, H1, I1, r, q⟩ := hz
  refine ⟨I1.kIn, ?_⟩
  cases vs with
  | nil => exact q.elim
  | cons v vr =>
  cases vr with
  | cons _ _ => exact q.elim
  | nil =>
  cases r with
  | @cons _ u _ ur r1 r2 =>
  cases r2
  show wpAny _ _ (call (.ref C) [u]) _ _ _
  obtain ⟨bm, N, nm, qn, bs, hdct, sn, sub, ab, col, dd, k0, k1, k2, k3, k5, mN, hC, hN, hni, OT⟩ := exc_obj I1.kIn T.ex
  obtain ⟨hp, g, d, t, os⟩ := s1
  refine wpAny_call_exc_subT PySem.F.excBase_ValueError OT hC hN hni (fun h' a M => ?_) (by show 1 ≤ sizeLine; rw [sizeLine_eq]; omega)
  have na : H1 a = none := I1.hok.gone M.new
  obtain ⟨t1, ho, _, _⟩ := M.there
  exact ⟨.ref a, _, I1.laidN (t' := t) M.keeps M.new na (exo_ok ho), rfl, q a na⟩
theorem pe_isV (T : FteC X.K C) {co1 : PySem.W.specialIn X.K (.builtin "object.__class__") "__get__" = some (some (.builtin "getset_descriptor.__get__"))} {co2 : PySem.W.takesIn X.K (.builtin "object.__class__") = some true} :
    CallR X (.builtin "isinstance") fun xs H Q => ∃ a, xs = [V.ref a, V.ty "ValueError"] ∧ H a = some (exo a C none) ∧ Q (.bl true) H := by
  intro pins s σ H xs us Q I r h
  obtain ⟨a, rfl, ea, q⟩ := h
  obtain ⟨u1, u2, rfl, r1, r2⟩ := vals2 r
  obtain rfl : u1 = Value.ref a := r1
  obtain rfl : u2 = Value.type "ValueError" := r2
  obtain ⟨t1, ho⟩ := exo_at I.hok ea
  have IA : PySem.W.InstAt s.heap a _ C none := ⟨ho, rfl, rfl, trivial⟩
  exact PySem.W.kia_one (PySem.W.kitx_exc T.cls T.xf.ga T.xf.gg T.xf.exC T.ca co1 co2 T.mo) I.kIn IA T.kitV (fun z => nomatch z) fun tk => ⟨.bl true, H, I.tok tk, rfl, q⟩
variable {g : G} {b : BF} {Γ : Nat → Option Con} {c : Cfg}
/-- if not isinstance(FitTreesError(x), ValueError): .. is passed by -/
theorem okB_fte (Cf : CfgOk g b Γ X c) (T : FteC X.K C) {H : Hp} {D : Ends} {i : Nat} {v : V} {y z f : Str} {bd rest : List Stmt} {q1 q2 q3 q4 q5 q6 q7 q8 : Pos} (hv : c.vis y i = true) (hi : σ[i]? = some (some v)) (hf : c.gl f = true) (hm : X.mg f = some (.ref C))
    (hz : z = "isinstance") (hz2 : c.bt z = true) (hV : c.bt "ValueError" = true) (k : ∀ H', Grw H H' → OkB X rest D σ H') :
    OkB X (.If (.UnaryOp .Not (.Call (.Name z q1) [.Call (.Name f q2) [.Name y q3] [] q4, .Name "ValueError" q5] [] q6) q7) bd [] q8 :: rest) D σ H := by
  subst hz
  obtain ⟨v1, v2, v3, v4⟩ := Cf.vis hv
  obtain ⟨f1, f2, f3⟩ := Cf.gl hf
  obtain ⟨g1, g2, g3, g4⟩ := Cf.bt hz2
  obtain ⟨w1, w2, w3, w4⟩ := Cf.bt hV
  have hT := Cf.e.ty
  rw [← Cf.lk.K] at hT
  have pv : PE X (.Name "ValueError" q5) (tC (.ty "ValueError")) := pe_bltn w1 w2 (by first | exact PyProof.Rows.Boot.«ValueError» | rfl) rfl w4 w3
  have pi := pe_callB (pos := q6) (p := q1) (pe_isV (co1 := hT.co1) (co2 := hT.co2) T) g1 g2 boot_isinstance (pa_cons (pe_fte (p := q2) (p2 := q4) T f1 hm f2 (pe_var (pos := q3) v1 v2 v3 v4) rfl) (pa_cons pv pa_nil rfl) rfl) g4 g3 rfl rfl
  refine ⟨_, pss_cons (ps_if (pt_not (pt_val pi)) (pbK bd) pss_nil) (pbK rest), ?_⟩
  refine ⟨v, hi, fun a ha => ?_⟩
  exact ⟨a, rfl, upd_same, true, rfl, k _ (Grw.upd ha)⟩
end
end FT

set_option Elab.async false
set_option linter.all false
set_option maxRecDepth 100000
set_option autoImplicit false
set_option maxHeartbeats 2000000
namespace FT
open PySem PySem.Spec PyProof.Rows L2
/-! ### the law's end by hand: the value that all errors keep is changed -/
def exD (d : D) : D := .lst ([0, 1, 2, 3, 4, 5].map fun c => .exc c d)
def sl7 (a b c d e f h : Sl) : List Sl := [a, b, c, d, e, f, h]
section
variable {g : G} {H0 H H' : Hp} {v : V}
theorem Exs.keep (k : ∀ b o, H0 b = none → H b = some o → H' b = some o) : ∀ {Cs : List Addr} {vs : List V}, Exs H0 H v Cs vs → Exs H0 H' v Cs vs
  | [], _, h => h
  | _ :: _, _, ⟨a, dx, vr, e, n1, n2, h1, h2, r⟩ => ⟨a, dx, vr, e, n1, n2, k _ _ n1 h1, k _ _ n2 h2, Exs.keep k r⟩
theorem ExL.keep {Cs : List Addr} {P : Addr} (k : ∀ b o, H0 b = none → H b = some o → H' b = some o) (h : ExL H0 H v Cs P) : ExL H0 H' v Cs P := ⟨h.np, let ⟨vs, e, x⟩ := h.ls; ⟨vs, k _ _ h.np e, x.keep k⟩⟩
theorem exs_rep' {F : Hp} {d : D} (hF : ∀ a o, H0 a = none → H a = some o → F a = some o) (r : Rep g F d v) : ∀ {cs : List Nat} {vs : List V}, (∀ c ∈ cs, (g.xc c).isSome = true) → Exs H0 H v (cs.map (exA g)) vs → RepL g F (cs.map fun c => .exc c d) vs
  | [], _, _, h => h
  | c :: cs, _, hx, ⟨a, dx, vr, e, n1, n2, h1, h2, x⟩ => ⟨_, vr, e, ⟨a, dx, v, rfl, hF _ _ n1 h1, hF _ _ n2 h2, hx c List.mem_cons_self, r⟩, exs_rep' hF r (fun c h => hx c (List.mem_cons_of_mem _ h)) x⟩
theorem exl_rep' {F : Hp} {d : D} {P : Addr} (hF : ∀ a o, H0 a = none → H a = some o → F a = some o) (r : Rep g F d v) (hx : ∀ c, c < 6 → (g.xc c).isSome = true) (h : ExL H0 H v (([0, 1, 2, 3, 4, 5] : List Nat).map (exA g)) P) : Rep g F (exD d) (.ref P) := by
  obtain ⟨vs, e, x⟩ := h.ls
  refine ⟨P, vs, rfl, hF _ _ h.np e, by rw [List.length_map, sizeLine_eq]; exact Nat.le_of_lt (by decide : 6 < _), exs_rep' hF r (fun c hc => hx c ?_) x⟩
  simp at hc
  omega
/-- a value whose top object can stand apart from what it holds -/
def OwnD (g : G) (d : D) : Prop := ∀ F v, Rep g F d v → ∃ G o, v = .ref G ∧ F G = some o ∧ RepO g (del F G) d o
theorem own_int {n : Int} : OwnD g (.lst [.int n]) := fun F v ⟨a, vs, e, q, l, r⟩ => ⟨a, _, e, q, vs, rfl, l, RepL.flatF2 rfl r⟩
theorem own_dic0 : OwnD g (.dic []) := fun F v ⟨a, kvs, e, q, l, r⟩ => ⟨a, _, e, q, kvs, rfl, l, r⟩
theorem own_two {x : Str} : OwnD g (.lst [.lst [], .lst [.str x]]) := by
  rintro F v ⟨a, vs, e, q, l, v1, w1, rfl, ⟨g1, u1, rfl, q1, l1, r1⟩, v2, w2, rfl, ⟨g2, u2, rfl, q2, l2, v3, w3, rfl, r3, rn⟩, rn2⟩
  cases (show u1 = [] from r1)
  cases (show w3 = [] from rn)
  cases (show w2 = [] from rn2)
  have n1 : g1 ≠ a := fun z => by rw [z, q] at q1; cases q1
  have n2 : g2 ≠ a := fun z => by rw [z, q] at q2; cases q2
  exact ⟨a, _, e, q, _, rfl, l, _, _, rfl, ⟨g1, [], rfl, (del_ne n1).trans q1, l1, rfl⟩, _, _, rfl, ⟨g2, _, rfl, (del_ne n2).trans q2, l2, _, _, rfl, r3, rfl⟩, rfl⟩
end
end FT

set_option Elab.async false
set_option linter.all false
set_option maxRecDepth 100000
set_option autoImplicit false
set_option maxHeartbeats 2000000
namespace FT
open PySem PySem.Spec PyProof.Rows L2
section
variable {g : G} {H0 H8 F8 : Hp} {σ : L2.St} {v : V} {P P2 : Addr} {d : D}
theorem join_sub2 (sub : Same F8 H8) : Same (joinF F8 H0 H8) H8 := fun a o e => by
  unfold joinF at e
  cases f : F8 a with
  | some u => rw [f] at e; cases e; exact sub _ _ f
  | none =>
    rw [f] at e
    cases h : H0 a with
    | some u => rw [h] at e; cases e
    | none => rw [h] at e; exact e
theorem join_new2 (sub : Same F8 H8) {a : Addr} {o : HO} (h : H0 a = none) (h1 : H8 a = some o) : joinF F8 H0 H8 a = some o := by
  unfold joinF
  cases f : F8 a with
  | some u => rw [sub _ _ f] at h1; exact h1
  | none => rw [h]; exact h1
theorem sl7_sh {F H : Hp} (sub : Same F H) (hl : σ.length = 7) {a b c : D} {x y z : V} (h3 : σ[3]? = some (some x)) (h4 : σ[4]? = some (some y)) (h5 : σ[5]? = some (some z)) (r3 : Rep g F a x) (r4 : Rep g F b y) (r5 : Rep g F c z) : SR g F (sl7 .un .un .un (.sh a) (.sh b) (.sh c) .un) σ H := by
  refine ⟨sub, by rw [hl]; rfl, fun i d h => ?_, fun i d h => ?_, fun i j d d' q h => ?_⟩
  · match i, h with
    | 0, h => cases h
    | 1, h => cases h
    | 2, h => cases h
    | 3, h => cases h; exact ⟨_, h3, r3⟩
    | 4, h => cases h; exact ⟨_, h4, r4⟩
    | 5, h => cases h; exact ⟨_, h5, r5⟩
    | 6, h => cases h
    | n + 7, h => cases h
  · match i, h with
    | 0, h => cases h
    | 1, h => cases h
    | 2, h => cases h
    | 3, h => cases h
    | 4, h => cases h
    | 5, h => cases h
    | 6, h => cases h
    | n + 7, h => cases h
  · match i, h with
    | 0, h => cases h
    | 1, h => cases h
    | 2, h => cases h
    | 3, h => cases h
    | 4, h => cases h
    | 5, h => cases h
    | 6, h => cases h
    | n + 7, h => cases h
theorem sl7_one {F H : Hp} (sub : Same F H) (hl : σ.length = 7) {a : D} {x : V} (h3 : σ[3]? = some (some x)) (r3 : Rep g F a x) : SR g F (sl7 .un .un .un (.sh a) .un .un .un) σ H := by
  refine ⟨sub, by rw [hl]; rfl, fun i d h => ?_, fun i d h => ?_, fun i j d d' q h => ?_⟩
  · match i, h with
    | 0, h => cases h
    | 1, h => cases h
    | 2, h => cases h
    | 3, h => cases h; exact ⟨_, h3, r3⟩
    | 4, h => cases h
    | 5, h => cases h
    | 6, h => cases h
    | n + 7, h => cases h
  · match i, h with
    | 0, h => cases h
    | 1, h => cases h
    | 2, h => cases h
    | 3, h => cases h
    | 4, h => cases h
    | 5, h => cases h
    | 6, h => cases h
    | n + 7, h => cases h
  · match i, h with
    | 0, h => cases h
    | 1, h => cases h
    | 2, h => cases h
    | 3, h => cases h
    | 4, h => cases h
    | 5, h => cases h
    | 6, h => cases h
    | n + 7, h => cases h
theorem sl7_own {F H : Hp} (sub : Same F H) (hl : σ.length = 7) {a : D} {G : Addr} {o : HO} (h3 : σ[3]? = some (some (.ref G))) (f : F G = none) (h : H G = some o) (r : RepO g F a o) : SR g F (sl7 .un .un .un (.ow a) .un .un .un) σ H := by
  refine ⟨sub, by rw [hl]; rfl, fun i d h => ?_, fun i d h => ?_, fun i j d d' q h h' => ?_⟩
  · match i, h with
    | 0, h => cases h
    | 1, h => cases h
    | 2, h => cases h
    | 3, h => cases h
    | 4, h => cases h
    | 5, h => cases h
    | 6, h => cases h
    | n + 7, h => cases h
  · match i, h with
    | 0, h => cases h
    | 1, h => cases h
    | 2, h => cases h
    | 3, h => cases h; exact ⟨G, o, h3, f, by assumption, r⟩
    | 4, h => cases h
    | 5, h => cases h
    | 6, h => cases h
    | n + 7, h => cases h
  · have one : ∀ {i : Nat} {d : D}, (sl7 .un .un .un (.ow a) .un .un .un)[i]? = some (.ow d) → i = 3 := fun {i d} h => by
      match i, h with
      | 0, h => cases h
      | 1, h => cases h
      | 2, h => cases h
      | 3, h => rfl
      | 4, h => cases h
      | 5, h => cases h
      | 6, h => cases h
      | n + 7, h => cases h
    intro _ _
    rw [one h, one h']
/-- behind the change all is shared again -/
theorem end_sr {s3 : Sl} (hs : s3 = .ow d ∨ s3 = .sh d) (S : SR g F8 (sl7 .un .un .un s3 .un .un .un) σ H8) (h3 : σ[3]? = some (some v)) (h4 : σ[4]? = some (some (.ref P))) (h5 : σ[5]? = some (some (.ref P2)))
    (e4 : ExL H0 H8 v (([0, 1, 2, 3, 4, 5] : List Nat).map (exA g)) P) (e5 : ExL H0 H8 v (([0, 1, 2, 3, 4, 5] : List Nat).map (exA g)) P2) (hv : ∀ G, s3 = .ow d → v = .ref G → H0 G ≠ none) (hx : ∀ c, c < 6 → (g.xc c).isSome = true) :
    ∃ F, SR g F (sl7 .un .un .un (.sh d) (.sh (exD d)) (.sh (exD d)) .un) σ H8 := by
  have hl : σ.length = 7 := S.len.symm
  rcases hs with rfl | rfl
  · obtain ⟨a, o, e1, f1, h1, r⟩ := S.ow 3 d rfl
    rw [h3] at e1
    cases e1
    have n0 := hv a rfl rfl
    have hF : ∀ b u, H0 b = none → H8 b = some u → upd (joinF F8 H0 H8) a o b = some u := fun b u n h => by
      have nb : b ≠ a := fun z => by rw [z] at n; exact n0 n
      rw [upd_ne nb]
      exact join_new2 S.sub n h
    have sm : Same F8 (upd (joinF F8 H0 H8) a o) := fun b u e => by
      have nb : b ≠ a := fun z => by rw [z, f1] at e; cases e
      rw [upd_ne nb]
      exact joinF_old _ _ e
    have rd : Rep g (upd (joinF F8 H0 H8) a o) d (.ref a) := RepO.rep upd_same (r.mono sm)
    refine ⟨upd (joinF F8 H0 H8) a o, sl7_sh (fun b u e => ?_) hl h3 h4 h5 rd (exl_rep' hF rd hx e4) (exl_rep' hF rd hx e5)⟩
    by_cases nb : b = a
    · rw [nb, upd_same] at e; cases e; rw [nb]; exact h1
    · rw [upd_ne nb] at e; exact join_sub2 S.sub _ _ e
  · obtain ⟨v', e1, r⟩ := S.sh 3 d rfl
    rw [h3] at e1
    cases e1
    have hF : ∀ b u, H0 b = none → H8 b = some u → joinF F8 H0 H8 b = some u := fun b u n h => join_new2 S.sub n h
    have rd : Rep g (joinF F8 H0 H8) d v := r.mono joinF_old
    exact ⟨joinF F8 H0 H8, sl7_sh (join_sub2 S.sub) hl h3 h4 h5 rd (exl_rep' hF rd hx e4) (exl_rep' hF rd hx e5)⟩
end
end FT

set_option Elab.async false
set_option linter.all false
set_option maxRecDepth 100000
set_option autoImplicit false
set_option maxHeartbeats 2000000
namespace FT
open PySem PySem.Spec PyProof.Rows L2
abbrev fixC (c : Cfg) : Cfg := { c with fix := [3, 4, 5] }
def aft (ρ : List Sl) (d : D) : List Sl := ((ρ.set 4 (.sh (exD d))).set 5 (.sh (exD d))).set 6 (.sh (exD .non))
section
variable {g : G} {b : BF} {Γ : Nat → Option Con} {X : Cx} {c : Cfg}
theorem fixC_ok (C : CfgOk g b Γ X c) : CfgOk g b Γ X (fixC c) := ⟨C.lk, C.N, C.nd, C.sc, C.kind, C.e, C.gd, C.blk⟩
/-- the return at the end -/
theorem ret_true (C : CfgOk g b Γ X c) {t10 : Ss} {s10 : Stmt} (k10 : chkB c t10 [s10] = true) {ρ : List Sl} {F H : Hp} {σ : L2.St} (w : wB Γ t10 ρ ⟨fun _ => False, fun s _ => s = .sh (.bl true)⟩) (S : SR g F ρ σ H) : OkB X [s10] { nx := fun _ H' => QT .non H', rt := QT } σ H := by
  refine all_B t10 c [s10] k10 X C ρ _ w F σ H _ S ⟨fun ρ' σ' F' H' q _ _ _ => q.elim, fun s ρ' σ' F' v H' q _ _ _ r => ?_⟩
  cases (show s = _ from q)
  cases (show v = _ from r)
  rfl
/-- the change and the end -/
theorem mut_ok (C : CfgOk g b Γ X c) {tM t10 : Ss} {s8 s9 s10 : Stmt} (pM : tM.plain = true) (kM : chkB (fixC c) tM [s8, s9] = true) (k10 : chkB c t10 [s10] = true) {ρ7 : List Sl} {H0 F7 H7 F0 : Hp} {σ : L2.St} {d : D} {v : V} {P P2 : Addr}
    (S : SR g F7 ρ7 σ H7) (hl : ρ7.length = 7) (hd : ρ7[3]? = some (.sh d)) (h3 : σ[3]? = some (some v)) (h4 : σ[4]? = some (some (.ref P))) (h5 : σ[5]? = some (some (.ref P2)))
    (e4 : ExL H0 H7 v (([0, 1, 2, 3, 4, 5] : List Nat).map (exA g)) P) (e5 : ExL H0 H7 v (([0, 1, 2, 3, 4, 5] : List Nat).map (exA g)) P2) (s0 : Same F0 H0) (r0 : Rep g F0 d v) (hx : ∀ c, c < 6 → (g.xc c).isSome = true)
    (hM : (OwnD g d ∧ ∃ d', wB Γ tM (sl7 .un .un .un (.ow d) .un .un .un) ⟨fun ρ' => ρ' = sl7 .un .un .un (.ow d') .un .un .un, fun _ _ => False⟩ ∧ wB Γ t10 (sl7 .un .un .un (.sh d') (.sh (exD d')) (.sh (exD d')) .un) ⟨fun _ => False, fun s _ => s = .sh (.bl true)⟩) ∨
      (wB Γ tM (sl7 .un .un .un (.sh d) .un .un .un) ⟨fun ρ' => ρ' = sl7 .un .un .un (.sh d) .un .un .un, fun _ _ => False⟩ ∧ wB Γ t10 (sl7 .un .un .un (.sh d) (.sh (exD d)) (.sh (exD d)) .un) ⟨fun _ => False, fun s _ => s = .sh (.bl true)⟩)) :
    OkB X [s8, s9, s10] { nx := fun _ H' => QT .non H', rt := QT } σ H7 := by
  have hs : σ.length = 7 := by rw [← S.len, hl]
  obtain ⟨v', e', r7⟩ := S.sh 3 d hd
  rw [h3] at e'
  cases e'
  rcases hM with ⟨od, d', wM, w10⟩ | ⟨wM, w10⟩
  · obtain ⟨G, o, rfl, fG, rO⟩ := od F7 v r7
    obtain ⟨G', o0, eG, f0, _⟩ := od F0 _ r0
    cases eG
    have n0 : H0 G ≠ none := by rw [s0 _ _ f0]; exact fun z => nomatch z
    have SM := sl7_own (g := g) (F := del F7 G) (H := H7) (fun a u e => S.sub _ _ (del_some e).2) hs h3 del_self (S.sub _ _ fG) rO
    refine all_app tM (fixC c) [s8, s9] pM kM [s10] X (fixC_ok C) _ _ wM _ σ H7 _ SM ⟨fun ρ' σ8 F8 H8 q T8 S8 fx => ?_, fun s ρ' σ' F' v H' q _ _ _ _ => q.elim⟩
    cases (show ρ' = _ from q)
    have kp : ∀ a u, H0 a = none → H7 a = some u → H8 a = some u := fun a u n h => T8.keep a u h fun ⟨i, x, q1, q2⟩ => by
      have i3 : i = 3 := by
        match i, q1 with
        | 0, h => cases h
        | 1, h => cases h
        | 2, h => cases h
        | 3, h => rfl
        | 4, h => cases h
        | 5, h => cases h
        | 6, h => cases h
        | n + 7, h => cases h
      rw [i3, h3] at q2
      cases q2
      exact n0 n
    obtain ⟨F10, S10⟩ := end_sr (d := d') (P := P) (P2 := P2) (H0 := H0) (.inl rfl) S8 ((fx 3 (by simp)).trans h3) ((fx 4 (by simp)).trans h4) ((fx 5 (by simp)).trans h5) (e4.keep kp) (e5.keep kp) (fun G1 _ e => by cases e; exact n0) hx
    exact ret_true C k10 w10 S10
  · have SM := sl7_one (g := g) S.sub hs h3 r7
    refine all_app tM (fixC c) [s8, s9] pM kM [s10] X (fixC_ok C) _ _ wM _ σ H7 _ SM ⟨fun ρ' σ8 F8 H8 q T8 S8 fx => ?_, fun s ρ' σ' F' v H' q _ _ _ _ => q.elim⟩
    cases (show ρ' = _ from q)
    have kp : ∀ a u, H0 a = none → H7 a = some u → H8 a = some u := fun a u n h => T8.keep a u h fun ⟨i, x, q1, q2⟩ => by
      match i, q1 with
      | 0, h => cases h
      | 1, h => cases h
      | 2, h => cases h
      | 3, h => cases h
      | 4, h => cases h
      | 5, h => cases h
      | 6, h => cases h
      | n + 7, h => cases h
    obtain ⟨F10, S10⟩ := end_sr (d := d) (P := P) (P2 := P2) (H0 := H0) (.inr rfl) S8 ((fx 3 (by simp)).trans h3) ((fx 4 (by simp)).trans h4) ((fx 5 (by simp)).trans h5) (e4.keep kp) (e5.keep kp) (fun G1 e _ => by cases e) hx
    exact ret_true C k10 w10 S10
end
end FT

set_option Elab.async false
set_option linter.all false
set_option maxRecDepth 100000
set_option autoImplicit false
set_option maxHeartbeats 2000000
namespace FT
open PySem PySem.Spec PyProof.Rows L2
section
variable {g : G} {b : BF} {Γ : Nat → Option Con} {X : Cx} {c : Cfg}
/-- the law behind its first three statements -/
theorem tail_ok (C : CfgOk g b Γ X c) {CF : Addr} (Tf : FteC X.K CF) {ρ : List Sl} {σ : L2.St} {F H : Hp} {d : D} {v : V} (S : SR g F ρ σ H) (hl : ρ.length = 7) (h3 : ρ[3]? = some (.sh d)) (hv : σ[3]? = some (some v)) (hx : ∀ c, c < 6 → (g.xc c).isSome = true)
    {y3 y4 y5 y6 fF z : Str} {xs1 xs2 xs3 xs4 xs5 : List Expr} {bd : List Stmt} {s7 s8 s9 s10 : Stmt} {t7 tM t10 : Ss} {q1 q2 q3 q4 q5 q6 q7 q8 a1 a2 a3 a4 a5 a6 a7 a8 a9 a10 a11 a12 a13 a14 a15 a16 a17 a18 a19 : Pos}
    (c4 : c.sto y4 4 = true) (c5 : c.sto y5 5 = true) (c6 : c.sto y6 6 = true) (v3 : c.vis y3 3 = true) (v4 : c.vis y4 4 = true) (v5 : c.vis y5 5 = true)
    (m1 : ∀ σ' : L2.St, σ'[3]? = some (some v) → MkEs X σ' v xs1 (([0, 1, 2] : List Nat).map (exA g))) (m2 : ∀ σ' : L2.St, σ'[3]? = some (some v) → MkEs X σ' v xs2 (([3, 4, 5] : List Nat).map (exA g)))
    (m3 : ∀ σ' : L2.St, σ'[3]? = some (some v) → MkEs X σ' v xs3 (([0, 1, 2] : List Nat).map (exA g))) (m4 : ∀ σ' : L2.St, σ'[3]? = some (some v) → MkEs X σ' v xs4 (([3, 4, 5] : List Nat).map (exA g)))
    (m5 : ∀ σ' : L2.St, MkEs X σ' .non xs5 (([0, 1, 2, 3, 4, 5] : List Nat).map (exA g))) (n1 : notStars xs1 = true) (n2 : notStars xs2 = true) (n3 : notStars xs3 = true) (n4 : notStars xs4 = true) (n5 : notStars xs5 = true)
    (hf : c.gl fF = true) (hm : X.mg fF = some (.ref CF)) (hz : z = "isinstance") (hz2 : c.bt z = true) (hV : c.bt "ValueError" = true)
    (p7 : t7.plain = true) (k7 : chkB (fixC c) t7 [s7] = true) (w7 : wB Γ t7 (aft ρ d) ⟨fun ρ' => ρ' = aft ρ d, fun _ _ => False⟩)
    (pM : tM.plain = true) (kM : chkB (fixC c) tM [s8, s9] = true) (k10 : chkB c t10 [s10] = true)
    (hM : (OwnD g d ∧ ∃ d', wB Γ tM (sl7 .un .un .un (.ow d) .un .un .un) ⟨fun ρ' => ρ' = sl7 .un .un .un (.ow d') .un .un .un, fun _ _ => False⟩ ∧ wB Γ t10 (sl7 .un .un .un (.sh d') (.sh (exD d')) (.sh (exD d')) .un) ⟨fun _ => False, fun s _ => s = .sh (.bl true)⟩) ∨
      (wB Γ tM (sl7 .un .un .un (.sh d) .un .un .un) ⟨fun ρ' => ρ' = sl7 .un .un .un (.sh d) .un .un .un, fun _ _ => False⟩ ∧ wB Γ t10 (sl7 .un .un .un (.sh d) (.sh (exD d)) (.sh (exD d)) .un) ⟨fun _ => False, fun s _ => s = .sh (.bl true)⟩)) :
    OkB X [.Assign [.Name y4 a1] (.List xs1 a2) a3, .Assign [.Name y4 a4] (.BinOp (.Name y4 a5) .Add (.List xs2 a6) a7) a8, .Assign [.Name y5 a9] (.List xs3 a10) a11, .Assign [.Name y5 a12] (.BinOp (.Name y5 a13) .Add (.List xs4 a14) a15) a16, .Assign [.Name y6 a17] (.List xs5 q1) q2,
      .If (.UnaryOp .Not (.Call (.Name z q3) [.Call (.Name fF q4) [.Name y3 q5] [] q6, .Name "ValueError" q7] [] q8) a18) bd [] a19, s7, s8, s9, s10] { nx := fun _ H' => QT .non H', rt := QT } σ H := by
  have hs : σ.length = 7 := by rw [← S.len, hl]
  have six : 6 ≤ sizeLine := by rw [sizeLine_eq]; exact Nat.le_of_lt (by decide : 6 < _)
  have rv : Rep g F d v := by
    obtain ⟨v', e, r⟩ := S.sh 3 d h3
    rw [hv] at e
    cases e
    exact r
  refine okB_set C c4 rfl (okE_exl (H0 := H) (m1 σ hv) n1 (by rw [List.length_map]; exact Nat.le_trans (by decide) six) .refl fun P1 H1 g1 e1 => ?_)
  refine okB_set C c4 rfl (okE_exl2 (H0 := H) C v4 (by rw [List.getElem?_set_self (by omega)]) e1 (m2 _ (by rw [List.getElem?_set_ne (by decide)]; exact hv)) n2 (by rw [List.length_map, List.length_map]; exact six) g1 fun P H2 g2 e2 => ?_)
  rw [List.set_set]
  have e2 : ExL H H2 v (([0, 1, 2, 3, 4, 5] : List Nat).map (exA g)) P := e2
  have gg2 := g1.trans g2
  refine okB_set C c5 rfl (okE_exl (H0 := H) (m3 _ (by rw [List.getElem?_set_ne (by decide)]; exact hv)) n3 (by rw [List.length_map]; exact Nat.le_trans (by decide) six) gg2 fun P3 H3 g3 e3 => ?_)
  have gg3 := gg2.trans g3
  refine okB_set C c5 rfl (okE_exl2 (H0 := H) C v5 (by rw [List.getElem?_set_self (by rw [List.length_set]; omega)]) e3 (m4 _ (by rw [List.getElem?_set_ne (by decide), List.getElem?_set_ne (by decide)]; exact hv)) n4 (by rw [List.length_map, List.length_map]; exact six) gg3 fun P2 H4 g4 e4 => ?_)
  rw [List.set_set]
  have e4 : ExL H H4 v (([0, 1, 2, 3, 4, 5] : List Nat).map (exA g)) P2 := e4
  have gg4 := gg3.trans g4
  refine okB_set C c6 rfl (okE_exl (H0 := H) (m5 _) n5 (by rw [List.length_map]; exact six) gg4 fun B H5 g5 e5 => ?_)
  have gg5 := gg4.trans g5
  refine okB_fte C Tf v3 (v := v) (by rw [List.getElem?_set_ne (by decide), List.getElem?_set_ne (by decide), List.getElem?_set_ne (by decide)]; exact hv) hf hm hz hz2 hV fun H6 g6 => ?_
  have gg6 := gg5.trans g6
  have E4 : ExL H H6 v (([0, 1, 2, 3, 4, 5] : List Nat).map (exA g)) P := e2.mono (g3.trans (g4.trans (g5.trans g6))).ext
  have E5 : ExL H H6 v (([0, 1, 2, 3, 4, 5] : List Nat).map (exA g)) P2 := e4.mono (g5.trans g6).ext
  have E6 : ExL H H6 .non (([0, 1, 2, 3, 4, 5] : List Nat).map (exA g)) B := e5.mono g6.ext
  have hF : ∀ a o, H a = none → H6 a = some o → joinF F H H6 a = some o := fun a o n h => joinF_new S.sub n h
  have J := S.join gg6
  have R4 := exl_rep' hF (rv.mono joinF_old) hx E4
  have R5 := exl_rep' hF (rv.mono joinF_old) hx E5
  have R6 := exl_rep' (g := g) (d := .non) hF rfl hx E6
  have J3 := (((J.setSh (i := 4) R4).1.setSh (i := 5) R5).1.setSh (i := 6) R6).1
  have s3 : (((σ.set 4 (some (V.ref P))).set 5 (some (V.ref P2))).set 6 (some (V.ref B)))[3]? = some (some v) := by rw [List.getElem?_set_ne (by decide), List.getElem?_set_ne (by decide), List.getElem?_set_ne (by decide)]; exact hv
  have s4 : (((σ.set 4 (some (V.ref P))).set 5 (some (V.ref P2))).set 6 (some (V.ref B)))[4]? = some (some (V.ref P)) := by rw [List.getElem?_set_ne (by decide), List.getElem?_set_ne (by decide), List.getElem?_set_self (by omega)]
  have s5 : (((σ.set 4 (some (V.ref P))).set 5 (some (V.ref P2))).set 6 (some (V.ref B)))[5]? = some (some (V.ref P2)) := by rw [List.getElem?_set_ne (by decide), List.getElem?_set_self (by rw [List.length_set]; omega)]
  refine all_app t7 (fixC c) [s7] p7 k7 [s8, s9, s10] X (fixC_ok C) _ _ w7 _ _ H6 _ J3 ⟨fun ρ' σ7 F7 H7 q T7 S7 fx => ?_, fun s ρ' σ' F' v H' q _ _ _ _ => q.elim⟩
  cases (show ρ' = _ from q)
  have kp : ∀ a u, H a = none → H6 a = some u → H7 a = some u := fun a u n h => T7.keep a u h fun ⟨i, x, z1, z2⟩ => by
    have z1 : (aft ρ d)[i]? = some (.ow x) := z1
    unfold aft at z1
    have n6 : i ≠ 6 := fun e => by
      subst e
      rw [List.getElem?_set_self (by rw [List.length_set, List.length_set, hl]; decide)] at z1
      cases z1
    rw [List.getElem?_set_ne (Ne.symm n6)] at z1
    have n5 : i ≠ 5 := fun e => by
      subst e
      rw [List.getElem?_set_self (by rw [List.length_set, hl]; decide)] at z1
      cases z1
    rw [List.getElem?_set_ne (Ne.symm n5)] at z1
    have n4 : i ≠ 4 := fun e => by
      subst e
      rw [List.getElem?_set_self (by rw [hl]; decide)] at z1
      cases z1
    rw [List.getElem?_set_ne (Ne.symm n4)] at z1
    rw [List.getElem?_set_ne (Ne.symm n6), List.getElem?_set_ne (Ne.symm n5), List.getElem?_set_ne (Ne.symm n4)] at z2
    obtain ⟨a', o', w1, w2, w3, w4⟩ := S.ow i x z1
    rw [z2] at w1
    cases w1
    rw [n] at w3
    cases w3
  exact mut_ok C pM kM k10 (ρ7 := aft ρ d) (P := P) (P2 := P2) (F0 := F) S7 (by unfold aft; rw [List.length_set, List.length_set, List.length_set, hl]) (by unfold aft; rw [List.getElem?_set_ne (by decide), List.getElem?_set_ne (by decide), List.getElem?_set_ne (by decide)]; exact h3)
    ((fx 3 (by simp)).trans s3) ((fx 4 (by simp)).trans s4) ((fx 5 (by simp)).trans s5) (E4.keep kp) (E5.keep kp) S.sub rv hx hM
end
end FT

set_option Elab.async false
set_option linter.all false
set_option maxRecDepth 100000
set_option autoImplicit false
set_option maxHeartbeats 2000000
namespace FT
open PySem PySem.Spec PyProof.Rows L2
/-! ### the head of the law about errors -/
def xnL : List Str := ["InvalidTable", "InvalidTree", "InvalidName", "InvalidNames", "InvalidSign", "InvalidRow"]
theorem xN_lt {c : Nat} {x : Str} (h : xN c = some x) : c < 6 := by
  have h : xnL[c]? = some x := h
  obtain ⟨z, _⟩ := List.getElem?_eq_some_iff.mp h
  exact z
theorem xN_mem {c : Nat} {x : Str} (h : xN c = some x) : x ∈ xnL := List.mem_of_getElem? (show xnL[c]? = some x from h)
theorem xN_inj {c c' : Nat} {x y : Str} (h : xN c = some x) (h' : xN c' = some y) : decide (x = y) = decide (c = c') := by
  have k : ∀ c, c < 6 → ∀ c', c' < 6 → decide (xnL[c]? = xnL[c']?) = decide (c = c') := by decide
  have := k c (xN_lt h) c' (xN_lt h')
  rw [← this]
  have h : xnL[c]? = some x := h
  have h' : xnL[c']? = some y := h'
  rw [h, h']
  exact decide_eq_decide.mpr ⟨fun e => by rw [e], fun e => Option.some.inj e⟩
def exOne (K : PySem.W.Frag) (x : Str) : Bool := xfB K (He.ga K x) && (He.eqO (PySem.W.findIn K (.ref (He.ga K x)) "value") (some none) && ((PySem.W.clsIn K (He.ga K x)).isSome && (He.eqO (PySem.W.findIn K (.ref (He.ga K x)) "__class__") (some (some (.builtin "object.__class__"))) &&
  (decide (PySem.W.mroIn K (He.ga K x) (.type "object") = some true) && ((xnL.all fun y => decide (PySem.W.kitOne K (.ref (He.ga K x)) (.ref (He.ga K y)) = some (decide (x = y)))) &&
  (decide (PySem.W.kitOne K (.ref (He.ga K x)) (.ref (He.ga K "FitTreesError")) = some true) && decide (PySem.W.kitOne K (.ref (He.ga K x)) (.type "ValueError") = some true)))))))
def fteB (K : PySem.W.Frag) (C : Addr) : Bool := PySem.W.excIn K C He.veBase "ValueError.__new__" && (PySem.W.keepIn K (.ref C) && (xfB K C && ((PySem.W.clsIn K C).isSome && (He.eqO (PySem.W.findIn K (.ref C) "__class__") (some (some (.builtin "object.__class__"))) &&
  (decide (PySem.W.mroIn K C (.type "object") = some true) && decide (PySem.W.kitOne K (.ref C) (.type "ValueError") = some true))))))
theorem fteB_ok {K : PySem.W.Frag} {C : Addr} (h : fteB K C = true) : FteC K C := by
  obtain ⟨h1, h⟩ := He.ba h
  obtain ⟨h2, h⟩ := He.ba h
  obtain ⟨h3, h⟩ := He.ba h
  obtain ⟨h4, h⟩ := He.ba h
  obtain ⟨h5, h⟩ := He.ba h
  obtain ⟨h6, h7⟩ := He.ba h
  exact ⟨h1, h2, xfB_ok h3, h4, He.eqO_ok h5, of_decide_eq_true h6, of_decide_eq_true h7⟩
def exB (K : PySem.W.Frag) : Bool := (xnL.all fun x => exOne K x) && fteB K (He.ga K "FitTreesError")
theorem ty_ofX {K : PySem.W.Frag} {h : Heap} {mg : Str → Option Value} (X : K.In h) (N : h.Ns mainGlobals mg) (c : clsB [] K = true) (e : exB K = true) (hg : ∀ x ∈ xnL, mg x = some (.ref (He.ga K x))) (hF : mg "FitTreesError" = some (.ref (He.ga K "FitTreesError"))) : Ty (gOf K []) K mg := by
  obtain ⟨c0, c⟩ := He.ba c
  obtain ⟨c1, c⟩ := He.ba c
  obtain ⟨c2, _⟩ := He.ba c
  obtain ⟨e1, _⟩ := He.ba e
  have none : ∀ n x, (gOf K []).cn n = some x → False := fun n x z => nomatch (show (none : Option Str) = some x from z)
  have at_ : ∀ c x, (gOf K []).xc c = some x → xN c = some x ∧ exA (gOf K []) c = He.ga K x := fun c x z => by
    have z' : xN c = some x := z
    refine ⟨z', ?_⟩
    show He.ga K ((xN c).getD Str.empty) = _
    rw [z']; rfl
  have one : ∀ c x, (gOf K []).xc c = some x → exOne K x = true := fun c x z => List.all_eq_true.mp e1 x (xN_mem (at_ c x z).1)
  refine ⟨rfl, fun n x z => (none n x z).elim, He.eqO_ok c1, of_decide_eq_true c2, .inr ?_, c0, fun n x z => (none n x z).elim, fun n x z => (none n x z).elim, fun n m x y z => (none n x z).elim, fun n x z => (none n x z).elim, fun n x z => (none n x z).elim⟩
  refine ⟨fun c x z => z, fun c x z => ?_, fun c x z => ?_, fun c x z => ?_, fun c x z => ?_, fun c x z => ?_, fun c x z => ?_, fun c c' x y z z' => ?_, fun c x z => ?_, fun c x z => ?_, hF⟩
  · obtain ⟨a, b⟩ := at_ c x z
    rw [b]; exact hg x (xN_mem a)
  all_goals
    obtain ⟨a, b⟩ := at_ c x z
    obtain ⟨o1, o⟩ := He.ba (one c x z)
    obtain ⟨o2, o⟩ := He.ba o
    obtain ⟨o3, o⟩ := He.ba o
    obtain ⟨o4, o⟩ := He.ba o
    obtain ⟨o5, o⟩ := He.ba o
    obtain ⟨o6, o⟩ := He.ba o
    obtain ⟨o7, o8⟩ := He.ba o
    rw [b]
  · exact xfB_ok o1
  · exact He.eqO_ok o2
  · exact o3
  · exact He.eqO_ok o4
  · exact of_decide_eq_true o5
  · obtain ⟨a', b'⟩ := at_ c' y z'
    rw [b', of_decide_eq_true (List.all_eq_true.mp o6 y (xN_mem a')), xN_inj a a']
  · exact of_decide_eq_true o7
  · exact of_decide_eq_true o8
abbrev AlZ : Type := AlX × Bool
def obsZ (fa : List He.Fa) (fn : List He.DefD) (es : List EcD) (file : Str) (K : PySem.W.Frag) : AlZ := (obsX fa fn [] [] es file K, exB K)
def valZ (fn : List He.DefD) (es : List EcD) : AlZ := (valX fn [] es, true)
structure SaysZ (fa : List He.Fa) (fn : List He.DefD) (es : List EcD) (file : Str) (K : PySem.W.Frag) : Prop where
  x : SaysX fa fn [] [] es file K
  z : exB K = true
theorem saysZ_of {fa : List He.Fa} {fn : List He.DefD} {es : List EcD} {file : Str} {K : PySem.W.Frag} (e : obsZ fa fn es file K = valZ fn es) : SaysZ fa fn es file K := ⟨saysX_of (congrArg (fun z : AlZ => z.1) e), congrArg (fun z : AlZ => z.2) e⟩
def obsZG (n : Nat) (fa : List He.Fa) (fn : List He.DefD) (es : List EcD) (file : Str) (g : Addr → Option Obj) : AlZ := obsZ fa fn es file (He.frG g (sysModules :: cStatics :: He.asD g n))
def hookZ (n : Nat) (fa : List He.Fa) (fn : List He.DefD) (es : List EcD) (file : Str) : PySem.W.Hook where
  α := AlZ
  obs := fun s => obsZG n fa fn es file s.heap.get?
  val := fun _ => valZ fn es
  says := fun _ h => ∃ K : PySem.W.Frag, K.In h ∧ SaysZ fa fn es file K
  of := fun _ _ e => ⟨_, He.frG_in, saysZ_of e⟩
  keeps := fun _ _ _ ⟨K, hK, c⟩ k => ⟨K, PySem.W.Frag.In.keeps hK k, c⟩
theorem obsZG_eq {n : Nat} {fa : List He.Fa} {fn : List He.DefD} {es : List EcD} {file : Str} {g : Addr → Option Obj} {s : Shared} (h : ∀ a, g a = s.heap.get? a) : obsZG n fa fn es file g = (hookZ n fa fn es file).obs s := by
  have e : g = s.heap.get? := funext h
  rw [e] <;> rfl
/-! ### what the top may call -/
def FnsA (W : Wd) (A : Around) : List Ent → Prop
  | [] => True
  | t :: T => (t.kd = .fn ∧ ∀ X, Lk (W.bf A) X → Gl X t.x → CallOk W.g X t.x t.p.con ∧ CallOk0 W.g X t.x t.p.con) ∧ FnsA W A T
theorem fns_find {W : Wd} {A : Around} {n : Nat} : ∀ {T : List Ent}, FnsA W A T → ∀ {t : Ent}, T.find? (fun t => t.id == n) = some t → t.kd = .fn ∧ ∀ X, Lk (W.bf A) X → Gl X t.x → CallOk W.g X t.x t.p.con ∧ CallOk0 W.g X t.x t.p.con
  | [], _, t, h => by cases h
  | t0 :: T, ⟨h1, h2⟩, t, h => by
    rw [List.find?_cons] at h
    cases q : t0.id == n with
    | true => rw [q] at h; cases h; exact h1
    | false => rw [q] at h; exact fns_find h2 h
theorem find_of {n : Nat} {p : PF} : ∀ {T : List Ent}, (entL T).lookup n = some p → ∃ t, T.find? (fun t => t.id == n) = some t ∧ t.p = p
  | [], h => by cases h
  | t :: T, h => by
    unfold entL at h
    rw [List.map_cons, List.lookup_cons] at h
    rw [List.find?_cons]
    have e : (n == t.id) = (t.id == n) := by rw [Bool.eq_iff_iff, beq_iff_eq, beq_iff_eq]; exact eq_comm
    rw [e] at h
    cases q : t.id == n with
    | true => rw [q] at h; cases h; exact ⟨t, rfl, rfl⟩
    | false => rw [q] at h; exact find_of h
theorem env_fns {W : Wd} {T : List Ent} {free : List Str} {A : Around} (ty : Ty W.g W.K W.mg) (hf : ∀ x ∈ free, W.mg x = none) (hT : FnsA W A T) (r : Room 1 A) : Env1 W.g (W.bf A) (GΦ (tab (entL T))) (fnOf T) (pnOf T) (fun n => W.cs.lookup n) (knOf T) free := by
  have all : ∀ f c, GΦ (tab (entL T)) f = some c → ∃ t, T.find? (fun t => t.id == f) = some t ∧ c = t.p.con ∧ t.kd = .fn ∧ ∀ X, Lk (W.bf A) X → Gl X t.x → CallOk W.g X t.x t.p.con ∧ CallOk0 W.g X t.x t.p.con := fun f c h => by
    obtain ⟨p, e1, rfl⟩ := gphi h
    obtain ⟨t, e2, rfl⟩ := find_of e1
    obtain ⟨a, b⟩ := fns_find hT e2
    exact ⟨t, e2, rfl, a, b⟩
  have nm : ∀ {f t x}, T.find? (fun t => t.id == f) = some t → t.kd = .fn → fnOf T f = some x → t.x = x := fun {f t x} e k h => by
    unfold fnOf at h
    rw [e] at h
    have h : (match t.kd with | .fn => some t.x | _ => none) = some x := h
    rw [k] at h
    cases h
    rfl
  have np : ∀ {f t x}, T.find? (fun t => t.id == f) = some t → t.kd = .fn → pnOf T f = some x → False := fun {f t x} e k h => by
    unfold pnOf at h
    rw [e] at h
    have h : (match t.kd with
      | .fn => none
      | .pr => bif decide (t.x = ("__eq__" : Str)) then none else some t.x
      | .eq => some ("__eq__" : Str)
      | .kw _ => none
      | .ev => none) = some x := h
    rw [k] at h
    cases h
  have nk : ∀ {f t x}, T.find? (fun t => t.id == f) = some t → t.kd = .fn → knOf T f = some x → False := fun {f t x} e k h => by
    unfold knOf at h
    rw [e] at h
    have h : (match t.kd with
      | .kw ns => some (t.x, some ns)
      | .ev => some (t.x, none)
      | _ => none) = some x := h
    rw [k] at h
    cases h
  refine ⟨ty, rfl, hf, r, fun f c x h1 h2 X lk gl => ?_, fun f c x h1 h2 X lk gl => ?_, fun f c x ns h1 h2 X lk gl => ?_, fun f c x h1 h2 X lk gl => ?_, fun f c x h1 h2 hx X lk => ?_, fun f c h1 h2 X lk => ?_⟩
  · obtain ⟨t, e, rfl, k, q⟩ := all f c h1
    have := nm e k h2
    subst this
    exact (q X lk gl).1
  · obtain ⟨t, e, rfl, k, q⟩ := all f c h1
    have := nm e k h2
    subst this
    exact (q X lk gl).2
  · obtain ⟨t, e, rfl, k, q⟩ := all f c h1
    exact (nk e k h2).elim
  · obtain ⟨t, e, rfl, k, q⟩ := all f c h1
    exact (nk e k h2).elim
  · obtain ⟨t, e, rfl, k, q⟩ := all f c h1
    exact (np e k h2).elim
  · obtain ⟨t, e, rfl, k, q⟩ := all f c h1
    exact (np e k h2).elim
end FT

set_option Elab.async false
set_option linter.all false
set_option maxRecDepth 100000
set_option autoImplicit false
set_option maxHeartbeats 2000000
namespace FT
open PySem PySem.Spec PyProof.Rows L2
theorem FnGd.imp {P : Program} {w : World} {K : PySem.W.Frag} {mg : Str → Option Value} {base : Heap} {k : Nat} {f : Addr} {fd : FuncData} {ps : List Str} {sp sp' : Sp} (F : FnGd P w K mg base k f fd ps sp) (h : ∀ vs H Q E, sp' vs H Q E → sp vs H Q E) : FnGd P w K mg base k f fd ps sp' :=
  ⟨fun vs H Q E q => F.len vs H Q E (h _ _ _ _ q), fun A outer s H args us vs Q E hr hg he hb hv hs => F.run A outer s H args us vs Q E hr hg he hb hv (h _ _ _ _ hs)⟩
theorem gd_good {W : Wd} {k : Nat} {T : List Ent} {free : List Str} {ret : RK} {N ps : List Str} {tree : Ss} {x qual : Str} {params : Arguments} {body : List Stmt} {scope : Scope} {f : Addr} {fd : FuncData}
    (ty : Ty W.g W.K W.mg) (hf : ∀ x ∈ free, W.mg x = none) (F : FunD W.K x qual params body scope [] [] f fd) (S : FnScope N ps scope) (hchk : chkB (cfgG W.cs N scope T free) tree body = true) (hl : ps.length ≤ N.length) (hT : HasL W (k + 1) T) :
    FnGd W.P W.w W.K W.mg W.base (k + 2) f fd ps (spC W.g (mkF (tab (entL T)) false ret N.length tree ps.length).con) := by
  have h := fn_gd (g := W.g) (P := W.P) (w := W.w) (mg := W.mg) (base := W.base) (Γ := GΦ (tab (entL T))) (con := mkC (tab (entL T)) false ret N.length tree ps.length) (c := cfgG W.cs N scope T free) (k := k) F S rfl rfl rfl rfl hchk (fun i => i.2) hl (fun A r => env_of ty hf hT r) fun i hi => run_ok i hi
  exact h.imp fun vs H Q E q => sp_mk q
/-- the law's own def at the top, its body shown otherwise -/
theorem law_top {W : Wd} {k : Nat} {T : List Ent} {free : List Str} {N : List Str} {x qual p : Str} {params : Arguments} {body : List Stmt} {scope : Scope} {f : Addr} {fd : FuncData} (hr : Room (k + 2) callerA)
    (F : FunD W.K x qual params body scope [] [] f fd) (S : FnScope N [p] scope) (hE : ∀ A, Room (k + 1) A → A.guards = some [] → Env1 W.g (W.bf A) (GΦ (tab (entL T))) (fnOf T) (pnOf T) (fun n => W.cs.lookup n) (knOf T) free)
    {s : Shared} {H : Hp} {u : Value} {v : V} (e0 : Env0 W.P W.w W.K W.mg W.base callerA [] s H) (hb : BindsTo s fd ⟨[u], []⟩ [(p, u)]) (rv : RelV v u)
    (ok : ∀ X, Room (k + 1) X.A → CfgOk W.g (W.bf X.A) (GΦ (tab (entL T))) X (cfgG W.cs N scope T free) → OkB X body { nx := fun _ H' => QT .non H', rt := QT } (L2.start N [v]) H) : TopC W.P W.w f u s H := by
  obtain ⟨oc, od, dV, kV, doc, pm, an, cdv, ct, osl, rfl, lk, hcd, _, _⟩ := F.ex
  have hk0 : ∀ b o, W.base.get? b = some o → s.heap.get? b = some o := fun b o e => (e0.bs b o e).1
  have KX0 : W.K.In s.heap := e0.mod.kin.keeps hk0
  have nl : s.heap.NoLimit := e0.mod.nolimit.keeps hk0
  have kd : ∀ y ∈ [(p, u)], scope.names.lookup y.1 = some .local ∨ (scope.names.lookup y.1 = some .cell ∧ ((cellsFrom (s.heap.objs.size + 1) scope.names []).lookup y.1).isSome = true) := by
    intro y hy
    cases List.mem_singleton.mp hy
    rcases S.par p List.mem_cons_self with q | q
    · exact Or.inl q
    · exact Or.inr ⟨q, PySem.W.cellsFrom_some _ _ _ (Or.inl q)⟩
  unfold TopC
  refine (fun z => codeAny_call_function hr.depth (KX0 _ _ lk) rfl S.co S.gen rfl (PySem.W.codeRec_of KX0 hcd) (hb _ _ _ _ z)) ?_
  refine (wpAny_newFunctionEnv_cells S.kind kd fun env he s1 x1 => ?_ :)
  subst he
  refine And.intro (nl.keeps x1.toInCall.keep) (codeAny_func ?_)
  have C : CfgOk W.g (W.bf (cxOf CX0 W.P W.w W.K W.mg W.base N qual scope f cdv callerA [] s H NoE).nox.A) (GΦ (tab (entL T))) (cxOf CX0 W.P W.w W.K W.mg W.base N qual scope f cdv callerA [] s H NoE).nox (cfgG W.cs N scope T free) :=
    ⟨⟨rfl, rfl, rfl, rfl, rfl, rfl, rfl, rfl⟩, rfl, S.nd, rfl, S.kind, hE _ (hr.deeper _) rfl, fun _ => rfl, fun _ => rfl⟩
  have ok := ok _ (hr.deeper _) C
  have I1 := inv_start (CX := CX0) (P := W.P) (w := W.w) (cd := cdv) (qual := qual) (f := f) (E := NoE) S hr.hd e0 (vs := [v]) (us := [u]) rfl (.cons rv .nil) x1
  have hd : ∀ {σ' : L2.St} {H' : Hp} {v' : V} {u' : Value} {s' : Shared}, Inv (cxOf CX0 W.P W.w W.K W.mg W.base N qual scope f cdv callerA [] s H NoE) [] σ' H' s' → RelV v' u' → QT v' H' → CE [] W.P W.w H s QT u' s' :=
    fun J r q => ⟨_, _, J.os, J.bare, J.base, J.hok, r, q⟩
  have bd := PSs.nox (X := cxOf CX0 W.P W.w W.K W.mg W.base N qual scope f cdv callerA [] s H NoE) (pbK body)
  refine wpAny_mono (bd.run [] s1 _ H _ I1 ok) (fun fl s' hs => ?_) (fun _ _ hs => hs)
  cases fl with
  | ret u' => exact (let ⟨_, _, _, J, r, q⟩ := hs; hd J r q)
  | next => exact (let ⟨_, _, J, q⟩ := hs; hd (v' := V.non) (u' := Value.none) J rfl q)
  | brk => exact (let ⟨_, _, _, q⟩ := hs; q.elim)
  | cont => exact (let ⟨_, _, _, q⟩ := hs; q.elim)
theorem sp0_none {g : G} {p : PF} (h : p.f [] = none) (hio : p.io = false) {H : Hp} {K : VK} (q : p.con.sp g [] H K) : False := by
  unfold Con.sp at q
  rw [show p.con.io = false from hio] at q
  obtain ⟨F, ds, sub, r, i, ei, pre, _⟩ := q
  cases ds with
  | nil =>
    have pre : (p.f i).isSome = true := pre
    rw [show i = [] from ei, h] at pre
    cases pre
  | cons d ds =>
    obtain ⟨v, vr, e, _⟩ := r
    cases e
/-! ### the makers at the top -/
section
variable {g : G} {b : BF} {Γ : Nat → Option Con} {X : Cx} {c : Cfg} {CA fI : Addr} {nm qual : Str} {params : Arguments} {body : List Stmt} {scope : Scope} {file : Str} {fd : FuncData} {x y : Str} {i : Nat} {σ : L2.St} {v : V} {p q r kp : Pos}
theorem mkE1 (C : CfgOk g b Γ X c) (D : ExcD b.K CA fI nm qual params body scope file fd) (F : FnOk b.prog b.w b.K b.mg b.base CX0 1 fI fd ["self", "value"] (spI CA)) (hr : Room 2 b.A) (hg : c.gl x = true) (hm : b.mg x = some (.ref CA))
    (hb : ∀ (u : Value) (s : Shared) (self : Value), b.K.In s.heap → BindsTo s fd ⟨[self, u], []⟩ ((["self", "value"] : List Str).zip [self, u])) (hv : c.vis y i = true) (hσ : σ[i]? = some (some v)) : MkE X σ v (.Call (.Name x p) [.Name y q] [] r) CA := by
  obtain ⟨v1, v2, v3, v4⟩ := C.vis hv
  obtain ⟨f1, f2, f3⟩ := C.gl hg
  rw [← C.lk.K] at D hb
  rw [← C.lk.K, ← C.lk.prog, ← C.lk.w, ← C.lk.mg, ← C.lk.base] at F
  rw [← C.lk.mg] at hm
  rw [← C.lk.A] at hr
  exact ⟨_, pe_mk1 D F hr f1 hm f2 hb (pe_var v1 v2 v3 v4) rfl, fun H Q h => ⟨v, hσ, h⟩⟩
theorem mkEk (C : CfgOk g b Γ X c) (D : ExcD b.K CA fI nm qual params body scope file fd) (F : FnOk b.prog b.w b.K b.mg b.base CX0 1 fI fd ["self", "value"] (spI CA)) (hr : Room 2 b.A) (hg : c.gl x = true) (hm : b.mg x = some (.ref CA))
    (hb : ∀ (u : Value) (s : Shared) (self : Value), b.K.In s.heap → BindsTo s fd ⟨[self], [("value", u)]⟩ ((["self", "value"] : List Str).zip [self, u])) (hv : c.vis y i = true) (hσ : σ[i]? = some (some v)) : MkE X σ v (.Call (.Name x p) [] [⟨some "value", .Name y q, kp⟩] r) CA := by
  obtain ⟨v1, v2, v3, v4⟩ := C.vis hv
  obtain ⟨f1, f2, f3⟩ := C.gl hg
  rw [← C.lk.K] at D hb
  rw [← C.lk.K, ← C.lk.prog, ← C.lk.w, ← C.lk.mg, ← C.lk.base] at F
  rw [← C.lk.mg] at hm
  rw [← C.lk.A] at hr
  exact ⟨_, pe_mkk D F hr f1 hm f2 hb (pe_var v1 v2 v3 v4), fun H Q h => ⟨v, hσ, h⟩⟩
theorem mkE0 (C : CfgOk g b Γ X c) (D : ExcD b.K CA fI nm qual params body scope file fd) (F : FnOk b.prog b.w b.K b.mg b.base CX0 1 fI fd ["self", "value"] (spI CA)) (hr : Room 2 b.A) (hg : c.gl x = true) (hm : b.mg x = some (.ref CA))
    (hb : ∀ (s : Shared) (self : Value), b.K.In s.heap → BindsTo s fd ⟨[self], []⟩ ((["self", "value"] : List Str).zip [self, .none])) : MkE X σ .non (.Call (.Name x p) [] [] r) CA := by
  obtain ⟨f1, f2, f3⟩ := C.gl hg
  rw [← C.lk.K] at D hb
  rw [← C.lk.K, ← C.lk.prog, ← C.lk.w, ← C.lk.mg, ← C.lk.base] at F
  rw [← C.lk.mg] at hm
  rw [← C.lk.A] at hr
  exact ⟨_, pe_mk0 D F hr f1 hm f2 hb, fun H Q h => h⟩
end
end FT

set_option Elab.async false
set_option linter.all false
set_option maxRecDepth 100000
set_option autoImplicit false
set_option maxHeartbeats 4000000
namespace FT
open PySem PySem.Spec PyProof.Rows L2
def T__law_purse : List Ent := []
def tr__law_purse : Ss := (.cons (.set 2 (.kInt 0))
 (.cons (.ifs (.cmp .Lt (.loc 1) (.bi .len (.cons (.loc 0) .nil)))
 (.cons (.set 2 (.sub (.loc 0) (.loc 1)))
 .nil)
 .nil)
 (.cons (.ret (.lst (.cons (.bin .Mod (.bi .int (.cons (.bi .max (.cons (.bin .Sub (.loc 2) (.bin .Pow (.kInt 10) (.kInt 18))) (.cons (.kInt 0) .nil))) .nil)) (.bin .Pow (.bin .Pow (.kInt 10) (.kInt 40)) (.kInt 10))) (.cons (.bin .Mod (.bi .int (.cons (.bin .Add (.loc 2) (.bin .Mult (.kInt 7919) (.loc 1))) .nil)) (.kInt 2147483629)) (.cons (.kInt 0) .nil)))))
 .nil)))
def pf__law_purse : PF := mkF (tab (entL T__law_purse)) false .fre 3 tr__law_purse 2
theorem xc__law_purse (rs : List Raw) (ρ : List Sl) {β : Type} {K : Kt (Sl × List Sl) β} : @bnI _ _ (xCon pf__law_purse rs ρ) K = @bnI _ _ (curs rs ρ) ⟨fun ds => @bnI _ _ (pf__law_purse.f ds) ⟨fun xo => K.f (RK.fre.sl xo.1, frzs rs ρ)⟩⟩ := xCon_f pf__law_purse rfl rs ρ
theorem op__law_purse (a0 a1 : D) : pf__law_purse.f [a0, a1] = @bnI _ _ (xB (tab (entL T__law_purse)) tr__law_purse [.sh a0, .sh a1, .un]) ⟨endF false .fre⟩ := op_mk rfl rfl
def T__law_draw : List Ent := []
def tr__law_draw : Ss := (.cons (.ifs (.cmp .Gt (.sub (.loc 0) (.kInt 0)) (.kInt 0))
 (.cons (.set 4 (.bin .Mod (.bi .int (.cons (.sub (.loc 0) (.kInt 0)) .nil)) (.loc 1)))
 (.cons (.put 0 (.kInt 0) (.bin .FloorDiv (.sub (.loc 0) (.kInt 0)) (.loc 1)))
 (.cons (.ret (.loc 4))
 .nil)))
 .nil)
 (.cons (.set 2 (.bin .Add (.sub (.loc 0) (.kInt 2)) (.kInt 1)))
 (.cons (.put 0 (.kInt 2) (.loc 2))
 (.cons (.set 3 (.bin .Mod (.bi .int (.cons (.bin .Mult (.bin .Add (.sub (.loc 0) (.kInt 1)) (.bin .Mult (.kInt 104729) (.loc 2))) (.bin .Add (.bin .Mult (.loc 2) (.loc 2)) (.kInt 7919))) .nil)) (.kInt 2147483629)))
 (.cons (.set 3 (.bin .Mod (.bi .int (.cons (.bin .Add (.bin .Mult (.loc 3) (.loc 3)) (.loc 2)) .nil)) (.kInt 2147483587)))
 (.cons (.ret (.bin .Mod (.bin .FloorDiv (.bin .Mod (.bi .int (.cons (.bin .Mult (.loc 3) (.kInt 48271)) .nil)) (.kInt 2147483647)) (.kInt 64)) (.loc 1)))
 .nil))))))
def pf__law_draw : PF := mkF (tab (entL T__law_draw)) true .flt 5 tr__law_draw 2
theorem xc__law_draw (x : D) (i : Nat) (r : List Raw) (ρ : List Sl) {β : Type} {K : Kt (Sl × List Sl) β} : @bnI _ _ (xCon pf__law_draw ((x, some i) :: r) ρ) K = @bnI _ _ (owAt i (frzs r ρ)) ⟨fun d => @bnI _ _ (curs r ρ) ⟨fun ds => @bnI _ _ (pf__law_draw.f (d :: ds)) ⟨fun xo => K.f (RK.flt.sl xo.1, (frzs r ρ).set i (.ow xo.2))⟩⟩⟩ := xCon_t pf__law_draw rfl x i r ρ
theorem op__law_draw (a0 a1 : D) : pf__law_draw.f [a0, a1] = @bnI _ _ (xB (tab (entL T__law_draw)) tr__law_draw [.ow a0, .sh a1, .un, .un, .un]) ⟨endF true .flt⟩ := op_mk rfl rfl
def T__law_pick : List Ent := [⟨35, pf__law_draw, .fn, "_law_draw"⟩]
def tr__law_pick : Ss := (.cons (.ret (.sub (.loc 1) (.call 35 (.cons (.loc 0) (.cons (.bi .len (.cons (.loc 1) .nil)) .nil)))))
 .nil)
def pf__law_pick : PF := mkF (tab (entL T__law_pick)) true .nor 2 tr__law_pick 2
theorem ph__law_pick__law_draw : tab (entL T__law_pick) 35 = some pf__law_draw := rfl
theorem xc__law_pick (x : D) (i : Nat) (r : List Raw) (ρ : List Sl) {β : Type} {K : Kt (Sl × List Sl) β} : @bnI _ _ (xCon pf__law_pick ((x, some i) :: r) ρ) K = @bnI _ _ (owAt i (frzs r ρ)) ⟨fun d => @bnI _ _ (curs r ρ) ⟨fun ds => @bnI _ _ (pf__law_pick.f (d :: ds)) ⟨fun xo => K.f (RK.nor.sl xo.1, (frzs r ρ).set i (.ow xo.2))⟩⟩⟩ := xCon_t pf__law_pick rfl x i r ρ
theorem op__law_pick (a0 a1 : D) : pf__law_pick.f [a0, a1] = @bnI _ _ (xB (tab (entL T__law_pick)) tr__law_pick [.ow a0, .sh a1]) ⟨endF true .nor⟩ := op_mk rfl rfl
def T_is_name : List Ent := []
def tr_is_name : Ss := (.cons (.ifs (.or (.not (.isi (.loc 0) .str)) (.not (.cmp2 .LtE .LtE (.kInt 1) (.bi .len (.cons (.loc 0) .nil)) (.kInt 8))))
 (.cons (.ret (.kBl false))
 .nil)
 .nil)
 (.cons (.ret (.cmp .Eq (.lc [1] (.nm 1) (.val (.loc 0)) (.so (.not (.cmp2 .LtE .LtE (.kStr "a") (.loc 1) (.kStr "z")))) (.loc 1)) (.lst .nil)))
 .nil))
def pf_is_name : PF := mkF (tab (entL T_is_name)) false .flt 2 tr_is_name 1
theorem xc_is_name (rs : List Raw) (ρ : List Sl) {β : Type} {K : Kt (Sl × List Sl) β} : @bnI _ _ (xCon pf_is_name rs ρ) K = @bnI _ _ (curs rs ρ) ⟨fun ds => @bnI _ _ (pf_is_name.f ds) ⟨fun xo => K.f (.sh xo.1, ρ)⟩⟩ := xCon_f pf_is_name rfl rs ρ
def T_are_names : List Ent := [⟨115, pf_is_name, .fn, "is_name"⟩]
def tr_are_names : Ss := (.cons (.ifs (.or (.not (.isi (.loc 0) .list)) (.cmp .NotEq (.lc [1] (.nm 1) (.val (.loc 0)) (.so (.not (.call 115 (.cons (.loc 1) .nil)))) (.loc 1)) (.lst .nil)))
 (.cons (.ret (.kBl false))
 .nil)
 .nil)
 (.cons (.ret (.cmp .Eq (.bi .len (.cons (.dc [1] (.nm 1) (.val (.loc 0)) (.loc 1) (.kBl true)) .nil)) (.bi .len (.cons (.loc 0) .nil))))
 .nil))
def pf_are_names : PF := mkF (tab (entL T_are_names)) false .flt 2 tr_are_names 1
theorem ph_are_names_is_name : tab (entL T_are_names) 115 = some pf_is_name := rfl
theorem xc_are_names (rs : List Raw) (ρ : List Sl) {β : Type} {K : Kt (Sl × List Sl) β} : @bnI _ _ (xCon pf_are_names rs ρ) K = @bnI _ _ (curs rs ρ) ⟨fun ds => @bnI _ _ (pf_are_names.f ds) ⟨fun xo => K.f (.sh xo.1, ρ)⟩⟩ := xCon_f pf_are_names rfl rs ρ
def T_in_order : List Ent := []
def pf_in_order : PF := mkOrd (mkF (tab (entL [])) false .fre 2 tr_ord 1)
theorem xc_in_order (rs : List Raw) (ρ : List Sl) {β : Type} {K : Kt (Sl × List Sl) β} : @bnI _ _ (xCon pf_in_order rs ρ) K = @bnI _ _ (curs rs ρ) ⟨fun ds => @bnI _ _ (pf_in_order.f ds) ⟨fun xo => K.f (RK.fre.sl xo.1, frzs rs ρ)⟩⟩ := xCon_f pf_in_order rfl rs ρ
def T_is_sign : List Ent := []
def tr_is_sign : Ss := (.cons (.ret (.and (.isi (.loc 0) .str) (.and (.cmp .Eq (.bi .len (.cons (.loc 0) .nil)) (.kInt 1)) (.cmp .In (.loc 0) (.kStr "01?")))))
 .nil)
def pf_is_sign : PF := mkF (tab (entL T_is_sign)) false .flt 1 tr_is_sign 1
theorem xc_is_sign (rs : List Raw) (ρ : List Sl) {β : Type} {K : Kt (Sl × List Sl) β} : @bnI _ _ (xCon pf_is_sign rs ρ) K = @bnI _ _ (curs rs ρ) ⟨fun ds => @bnI _ _ (pf_is_sign.f ds) ⟨fun xo => K.f (.sh xo.1, ρ)⟩⟩ := xCon_f pf_is_sign rfl rs ρ
def T_is_row : List Ent := [⟨118, pf_is_sign, .fn, "is_sign"⟩]
def tr_is_row : Ss := (.cons (.ret (.and (.isi (.loc 0) .str) (.and (.cmp .Eq (.bi .len (.cons (.loc 0) .nil)) (.loc 1)) (.cmp .Eq (.lc [2] (.nm 2) (.val (.loc 0)) (.so (.not (.call 118 (.cons (.loc 2) .nil)))) (.loc 2)) (.lst .nil)))))
 .nil)
def pf_is_row : PF := mkF (tab (entL T_is_row)) false .flt 3 tr_is_row 2
theorem ph_is_row_is_sign : tab (entL T_is_row) 118 = some pf_is_sign := rfl
theorem xc_is_row (rs : List Raw) (ρ : List Sl) {β : Type} {K : Kt (Sl × List Sl) β} : @bnI _ _ (xCon pf_is_row rs ρ) K = @bnI _ _ (curs rs ρ) ⟨fun ds => @bnI _ _ (pf_is_row.f ds) ⟨fun xo => K.f (.sh xo.1, ρ)⟩⟩ := xCon_f pf_is_row rfl rs ρ
def T_are_fields_tables : List Ent := [⟨95, pf_are_names, .fn, "are_names"⟩, ⟨117, pf_is_row, .fn, "is_row"⟩]
def tr_are_fields_tables : Ss := (.cons (.ifs (.or (.not (.call 95 (.cons (.loc 0) .nil))) (.or (.cmp .Eq (.loc 0) (.lst .nil)) (.not (.call 95 (.cons (.loc 1) .nil)))))
 (.cons (.ret (.kBl false))
 .nil)
 .nil)
 (.cons (.ifs (.or (.not (.isi (.loc 2) .list)) (.cmp .NotEq (.bi .len (.cons (.loc 2) .nil)) (.bi .len (.cons (.loc 0) .nil))))
 (.cons (.ret (.kBl false))
 .nil)
 .nil)
 (.cons (.ret (.cmp .Eq (.lc [3] (.nm 3) (.val (.loc 2)) (.so (.not (.call 117 (.cons (.loc 3) (.cons (.bi .len (.cons (.loc 1) .nil)) .nil))))) (.loc 3)) (.lst .nil)))
 .nil)))
def pf_are_fields_tables : PF := mkF (tab (entL T_are_fields_tables)) false .flt 4 tr_are_fields_tables 3
theorem ph_are_fields_tables_are_names : tab (entL T_are_fields_tables) 95 = some pf_are_names := rfl
theorem ph_are_fields_tables_is_row : tab (entL T_are_fields_tables) 117 = some pf_is_row := rfl
theorem xc_are_fields_tables (rs : List Raw) (ρ : List Sl) {β : Type} {K : Kt (Sl × List Sl) β} : @bnI _ _ (xCon pf_are_fields_tables rs ρ) K = @bnI _ _ (curs rs ρ) ⟨fun ds => @bnI _ _ (pf_are_fields_tables.f ds) ⟨fun xo => K.f (.sh xo.1, ρ)⟩⟩ := xCon_f pf_are_fields_tables rfl rs ρ
def pf_Table : PF := mkTable pf_are_fields_tables pf_in_order
theorem xc_Table (rs : List Raw) (ρ : List Sl) {β : Type} {K : Kt (Sl × List Sl) β} : @bnI _ _ (xCon pf_Table rs ρ) K = @bnI _ _ (curs rs ρ) ⟨fun ds => @bnI _ _ (pf_Table.f ds) ⟨fun xo => K.f (RK.nor.sl xo.1, frzs rs ρ)⟩⟩ := xCon_f pf_Table rfl rs ρ
def T_Table_kinds : List Ent := []
def tr_Table_kinds : Ss := (.cons (.ret (.bi .list (.cons (.fld (.loc 0) "sorts") .nil)))
 .nil)
def pf_Table_kinds : PF := onlyC 0 (mkF (tab (entL T_Table_kinds)) false .fre 1 tr_Table_kinds 1)
theorem xc_Table_kinds (rs : List Raw) (ρ : List Sl) {β : Type} {K : Kt (Sl × List Sl) β} : @bnI _ _ (xCon pf_Table_kinds rs ρ) K = @bnI _ _ (curs rs ρ) ⟨fun ds => @bnI _ _ (pf_Table_kinds.f ds) ⟨fun xo => K.f (RK.fre.sl xo.1, frzs rs ρ)⟩⟩ := xCon_f pf_Table_kinds rfl rs ρ
def T_Table_marks : List Ent := []
def tr_Table_marks : Ss := (.cons (.ret (.bi .list (.cons (.fld (.loc 0) "traits") .nil)))
 .nil)
def pf_Table_marks : PF := onlyC 0 (mkF (tab (entL T_Table_marks)) false .fre 1 tr_Table_marks 1)
theorem xc_Table_marks (rs : List Raw) (ρ : List Sl) {β : Type} {K : Kt (Sl × List Sl) β} : @bnI _ _ (xCon pf_Table_marks rs ρ) K = @bnI _ _ (curs rs ρ) ⟨fun ds => @bnI _ _ (pf_Table_marks.f ds) ⟨fun xo => K.f (RK.fre.sl xo.1, frzs rs ρ)⟩⟩ := xCon_f pf_Table_marks rfl rs ρ
def T_Table_rows : List Ent := []
def tr_Table_rows : Ss := (.cons (.ret (.lc [1] (.nm 1) (.val (.fld (.loc 0) "sorts")) .no (.me .join (.kStr "") (.cons (.lc [2] (.nm 2) (.val (.fld (.loc 0) "traits")) .no (.sub (.sub (.fld (.loc 0) "signs") (.loc 1)) (.loc 2))) .nil))))
 .nil)
def pf_Table_rows : PF := onlyC 0 (mkF (tab (entL T_Table_rows)) false .fre 3 tr_Table_rows 1)
theorem xc_Table_rows (rs : List Raw) (ρ : List Sl) {β : Type} {K : Kt (Sl × List Sl) β} : @bnI _ _ (xCon pf_Table_rows rs ρ) K = @bnI _ _ (curs rs ρ) ⟨fun ds => @bnI _ _ (pf_Table_rows.f ds) ⟨fun xo => K.f (RK.fre.sl xo.1, frzs rs ρ)⟩⟩ := xCon_f pf_Table_rows rfl rs ρ
def T_Table_eq : List Ent := []
def tr_Table_eq : Ss := (.cons (.ret (.and (.isi (.loc 1) (.own 0)) (.and (.cmp .Eq (.fld (.loc 0) "traits") (.fld (.loc 1) "traits")) (.cmp .Eq (.fld (.loc 0) "signs") (.fld (.loc 1) "signs")))))
 .nil)
def pf_Table_eq : PF := onlyC2 0 (mkF (tab (entL T_Table_eq)) false .flt 2 tr_Table_eq 2)
theorem xc_Table_eq (rs : List Raw) (ρ : List Sl) {β : Type} {K : Kt (Sl × List Sl) β} : @bnI _ _ (xCon pf_Table_eq rs ρ) K = @bnI _ _ (curs rs ρ) ⟨fun ds => @bnI _ _ (pf_Table_eq.f ds) ⟨fun xo => K.f (.sh xo.1, ρ)⟩⟩ := xCon_f pf_Table_eq rfl rs ρ
def T_check_table : List Ent := []
def tr_check_table : Ss := (.cons (.ifs (.not (.isi (.loc 0) (.own 0)))
 (.cons .never
 .nil)
 .nil)
 .nil)
def pf_check_table : PF := mkF (tab (entL T_check_table)) false .flt 1 tr_check_table 1
theorem xc_check_table (rs : List Raw) (ρ : List Sl) {β : Type} {K : Kt (Sl × List Sl) β} : @bnI _ _ (xCon pf_check_table rs ρ) K = @bnI _ _ (curs rs ρ) ⟨fun ds => @bnI _ _ (pf_check_table.f ds) ⟨fun xo => K.f (.sh xo.1, ρ)⟩⟩ := xCon_f pf_check_table rfl rs ρ
def T_check_name : List Ent := []
def tr_check_name : Ss := (.cons (.ifs (.or (.not (.isi (.loc 1) .str)) (.cmp .NotIn (.loc 1) (.loc 0)))
 (.cons .never
 .nil)
 .nil)
 .nil)
def pf_check_name : PF := mkF (tab (entL T_check_name)) false .flt 2 tr_check_name 2
theorem xc_check_name (rs : List Raw) (ρ : List Sl) {β : Type} {K : Kt (Sl × List Sl) β} : @bnI _ _ (xCon pf_check_name rs ρ) K = @bnI _ _ (curs rs ρ) ⟨fun ds => @bnI _ _ (pf_check_name.f ds) ⟨fun xo => K.f (.sh xo.1, ρ)⟩⟩ := xCon_f pf_check_name rfl rs ρ
def T_check_names : List Ent := [⟨95, pf_are_names, .fn, "are_names"⟩]
def tr_check_names : Ss := (.cons (.ifs (.or (.not (.call 95 (.cons (.loc 1) .nil))) (.or (.cmp .Lt (.bi .len (.cons (.loc 1) .nil)) (.loc 2)) (.cmp .NotEq (.lc [3] (.nm 3) (.val (.loc 1)) (.so (.cmp .NotIn (.loc 3) (.loc 0))) (.loc 3)) (.lst .nil))))
 (.cons .never
 .nil)
 .nil)
 .nil)
def pf_check_names : PF := mkF (tab (entL T_check_names)) false .flt 4 tr_check_names 3
theorem ph_check_names_are_names : tab (entL T_check_names) 95 = some pf_are_names := rfl
theorem xc_check_names (rs : List Raw) (ρ : List Sl) {β : Type} {K : Kt (Sl × List Sl) β} : @bnI _ _ (xCon pf_check_names rs ρ) K = @bnI _ _ (curs rs ρ) ⟨fun ds => @bnI _ _ (pf_check_names.f ds) ⟨fun xo => K.f (.sh xo.1, ρ)⟩⟩ := xCon_f pf_check_names rfl rs ρ
def T_table_with : List Ent := [⟨13, pf_Table, .fn, "Table"⟩]
def tr_table_with : Ss := (.cons (.ret (.call 13 (.cons (.bi .list (.cons (.loc 0) .nil)) (.cons (.bi .list (.cons (.loc 1) .nil)) (.cons (.lc [3] (.nm 3) (.val (.loc 0)) .no (.me .join (.kStr "") (.cons (.lc [4] (.nm 4) (.val (.loc 1)) .no (.sub (.sub (.loc 2) (.loc 3)) (.loc 4))) .nil))) .nil)))))
 .nil)
def pf_table_with : PF := mkF (tab (entL T_table_with)) false .nor 5 tr_table_with 3
theorem ph_table_with_Table : tab (entL T_table_with) 13 = some pf_Table := rfl
theorem xc_table_with (rs : List Raw) (ρ : List Sl) {β : Type} {K : Kt (Sl × List Sl) β} : @bnI _ _ (xCon pf_table_with rs ρ) K = @bnI _ _ (curs rs ρ) ⟨fun ds => @bnI _ _ (pf_table_with.f ds) ⟨fun xo => K.f (RK.nor.sl xo.1, frzs rs ρ)⟩⟩ := xCon_f pf_table_with rfl rs ρ
def T_sign : List Ent := [⟨100, pf_check_name, .fn, "check_name"⟩, ⟨102, pf_check_table, .fn, "check_table"⟩]
def tr_sign : Ss := (.cons (.ex (.call 102 (.cons (.loc 0) .nil)))
 (.cons (.ex (.call 100 (.cons (.fld (.loc 0) "sorts") (.cons (.loc 1) .nil))))
 (.cons (.ex (.call 100 (.cons (.fld (.loc 0) "traits") (.cons (.loc 2) .nil))))
 (.cons (.ret (.sub (.sub (.fld (.loc 0) "signs") (.loc 1)) (.loc 2)))
 .nil))))
def pf_sign : PF := mkF (tab (entL T_sign)) false .nor 3 tr_sign 3
theorem ph_sign_check_name : tab (entL T_sign) 100 = some pf_check_name := rfl
theorem ph_sign_check_table : tab (entL T_sign) 102 = some pf_check_table := rfl
theorem xc_sign (rs : List Raw) (ρ : List Sl) {β : Type} {K : Kt (Sl × List Sl) β} : @bnI _ _ (xCon pf_sign rs ρ) K = @bnI _ _ (curs rs ρ) ⟨fun ds => @bnI _ _ (pf_sign.f ds) ⟨fun xo => K.f (RK.nor.sl xo.1, frzs rs ρ)⟩⟩ := xCon_f pf_sign rfl rs ρ
def pf_put : PF := mkPut pf_check_table pf_check_name pf_is_sign pf_table_with
theorem xc_put (rs : List Raw) (ρ : List Sl) {β : Type} {K : Kt (Sl × List Sl) β} : @bnI _ _ (xCon pf_put rs ρ) K = @bnI _ _ (curs rs ρ) ⟨fun ds => @bnI _ _ (pf_put.f ds) ⟨fun xo => K.f (RK.nor.sl xo.1, frzs rs ρ)⟩⟩ := xCon_f pf_put rfl rs ρ
def T_unknown : List Ent := [⟨102, pf_check_table, .fn, "check_table"⟩]
def tr_unknown : Ss := (.cons (.ex (.call 102 (.cons (.loc 0) .nil)))
 (.cons (.ret (.lc2 [1, 2] [2] (.nm 1) (.val (.fld (.loc 0) "sorts")) .no (.nm 2) (.val (.fld (.loc 0) "traits")) (.so (.cmp .Eq (.sub (.sub (.fld (.loc 0) "signs") (.loc 1)) (.loc 2)) (.kStr "?"))) (.tup (.cons (.loc 1) (.cons (.loc 2) .nil)))))
 .nil))
def pf_unknown : PF := mkF (tab (entL T_unknown)) false .fre 3 tr_unknown 1
theorem ph_unknown_check_table : tab (entL T_unknown) 102 = some pf_check_table := rfl
theorem xc_unknown (rs : List Raw) (ρ : List Sl) {β : Type} {K : Kt (Sl × List Sl) β} : @bnI _ _ (xCon pf_unknown rs ρ) K = @bnI _ _ (curs rs ρ) ⟨fun ds => @bnI _ _ (pf_unknown.f ds) ⟨fun xo => K.f (RK.fre.sl xo.1, frzs rs ρ)⟩⟩ := xCon_f pf_unknown rfl rs ρ
def T_part : List Ent := [⟨101, pf_check_names, .fn, "check_names"⟩, ⟨102, pf_check_table, .fn, "check_table"⟩, ⟨136, pf_table_with, .fn, "table_with"⟩]
def tr_part : Ss := (.cons (.ex (.call 102 (.cons (.loc 0) .nil)))
 (.cons (.ex (.call 101 (.cons (.fld (.loc 0) "sorts") (.cons (.loc 1) (.cons (.kInt 1) .nil)))))
 (.cons (.ex (.call 101 (.cons (.fld (.loc 0) "traits") (.cons (.loc 2) (.cons (.kInt 0) .nil)))))
 (.cons (.ret (.call 136 (.cons (.loc 1) (.cons (.loc 2) (.cons (.fld (.loc 0) "signs") .nil)))))
 .nil))))
def pf_part : PF := mkF (tab (entL T_part)) false .nor 3 tr_part 3
theorem ph_part_check_names : tab (entL T_part) 101 = some pf_check_names := rfl
theorem ph_part_check_table : tab (entL T_part) 102 = some pf_check_table := rfl
theorem ph_part_table_with : tab (entL T_part) 136 = some pf_table_with := rfl
theorem xc_part (rs : List Raw) (ρ : List Sl) {β : Type} {K : Kt (Sl × List Sl) β} : @bnI _ _ (xCon pf_part rs ρ) K = @bnI _ _ (curs rs ρ) ⟨fun ds => @bnI _ _ (pf_part.f ds) ⟨fun xo => K.f (RK.nor.sl xo.1, frzs rs ρ)⟩⟩ := xCon_f pf_part rfl rs ρ
def T_joined : List Ent := [⟨102, pf_check_table, .fn, "check_table"⟩, ⟨136, pf_table_with, .fn, "table_with"⟩]
def tr_joined : Ss := (.cons (.ex (.call 102 (.cons (.loc 0) .nil)))
 (.cons (.ex (.call 102 (.cons (.loc 1) .nil)))
 (.cons (.ifs (.or (.cmp .NotEq (.fld (.loc 0) "traits") (.fld (.loc 1) "traits")) (.cmp .NotEq (.lc [3] (.nm 3) (.val (.fld (.loc 1) "sorts")) (.so (.cmp .In (.loc 3) (.fld (.loc 0) "signs"))) (.loc 3)) (.lst .nil)))
 (.cons .never
 .nil)
 .nil)
 (.cons (.set 2 (.bi .dict (.cons (.fld (.loc 0) "signs") .nil)))
 (.cons (.ex (.mt .update 2 (.cons (.fld (.loc 1) "signs") .nil)))
 (.cons (.ret (.call 136 (.cons (.bin .Add (.fld (.loc 0) "sorts") (.fld (.loc 1) "sorts")) (.cons (.fld (.loc 0) "traits") (.cons (.loc 2) .nil)))))
 .nil))))))
def pf_joined : PF := mkF (tab (entL T_joined)) false .nor 4 tr_joined 2
theorem ph_joined_check_table : tab (entL T_joined) 102 = some pf_check_table := rfl
theorem ph_joined_table_with : tab (entL T_joined) 136 = some pf_table_with := rfl
theorem xc_joined (rs : List Raw) (ρ : List Sl) {β : Type} {K : Kt (Sl × List Sl) β} : @bnI _ _ (xCon pf_joined rs ρ) K = @bnI _ _ (curs rs ρ) ⟨fun ds => @bnI _ _ (pf_joined.f ds) ⟨fun xo => K.f (RK.nor.sl xo.1, frzs rs ρ)⟩⟩ := xCon_f pf_joined rfl rs ρ
def T_fills : List Ent := [⟨102, pf_check_table, .fn, "check_table"⟩, ⟨141, pf_unknown, .fn, "unknown"⟩]
def tr_fills : Ss := (.cons (.ex (.call 102 (.cons (.loc 0) .nil)))
 (.cons (.ex (.call 102 (.cons (.loc 1) .nil)))
 (.cons (.ifs (.or (.cmp .NotEq (.fld (.loc 0) "sorts") (.fld (.loc 1) "sorts")) (.or (.cmp .NotEq (.fld (.loc 0) "traits") (.fld (.loc 1) "traits")) (.cmp .NotEq (.call 141 (.cons (.loc 0) .nil)) (.lst .nil))))
 (.cons (.ret (.kBl false))
 .nil)
 .nil)
 (.cons (.for_ (.nm 2) (.val (.fld (.loc 0) "sorts"))
 (.cons (.ifs (.cmp .NotEq (.lc [3] (.nm 3) (.val (.fld (.loc 0) "traits")) (.so (.cmp .NotIn (.sub (.sub (.fld (.loc 1) "signs") (.loc 2)) (.loc 3)) (.tup (.cons (.kStr "?") (.cons (.sub (.sub (.fld (.loc 0) "signs") (.loc 2)) (.loc 3)) .nil))))) (.loc 3)) (.lst .nil))
 (.cons (.ret (.kBl false))
 .nil)
 .nil)
 .nil))
 (.cons (.ret (.kBl true))
 .nil)))))
def pf_fills : PF := mkF (tab (entL T_fills)) false .flt 4 tr_fills 2
theorem ph_fills_check_table : tab (entL T_fills) 102 = some pf_check_table := rfl
theorem ph_fills_unknown : tab (entL T_fills) 141 = some pf_unknown := rfl
theorem xc_fills (rs : List Raw) (ρ : List Sl) {β : Type} {K : Kt (Sl × List Sl) β} : @bnI _ _ (xCon pf_fills rs ρ) K = @bnI _ _ (curs rs ρ) ⟨fun ds => @bnI _ _ (pf_fills.f ds) ⟨fun xo => K.f (.sh xo.1, ρ)⟩⟩ := xCon_f pf_fills rfl rs ρ
def T_owners : List Ent := []
def tr_owners : Ss := (.cons (.ret (.lc [2] (.nm 2) (.val (.fld (.loc 0) "sorts")) (.so (.cmp .Eq (.sub (.sub (.fld (.loc 0) "signs") (.loc 2)) (.loc 1)) (.kStr "1"))) (.loc 2)))
 .nil)
def pf_owners : PF := mkF (tab (entL T_owners)) false .fre 3 tr_owners 2
theorem xc_owners (rs : List Raw) (ρ : List Sl) {β : Type} {K : Kt (Sl × List Sl) β} : @bnI _ _ (xCon pf_owners rs ρ) K = @bnI _ _ (curs rs ρ) ⟨fun ds => @bnI _ _ (pf_owners.f ds) ⟨fun xo => K.f (RK.fre.sl xo.1, frzs rs ρ)⟩⟩ := xCon_f pf_owners rfl rs ρ
def T_are_nested : List Ent := []
def tr_are_nested : Ss := (.cons (.set 2 (.lc [3] (.nm 3) (.val (.loc 0)) (.so (.cmp .In (.loc 3) (.loc 1))) (.loc 3)))
 (.cons (.ret (.or (.cmp .Eq (.loc 2) (.lst .nil)) (.or (.cmp .Eq (.bi .len (.cons (.loc 2) .nil)) (.bi .len (.cons (.loc 0) .nil))) (.cmp .Eq (.bi .len (.cons (.loc 2) .nil)) (.bi .len (.cons (.loc 1) .nil))))))
 .nil))
def pf_are_nested : PF := mkF (tab (entL T_are_nested)) false .flt 4 tr_are_nested 2
theorem xc_are_nested (rs : List Raw) (ρ : List Sl) {β : Type} {K : Kt (Sl × List Sl) β} : @bnI _ _ (xCon pf_are_nested rs ρ) K = @bnI _ _ (curs rs ρ) ⟨fun ds => @bnI _ _ (pf_are_nested.f ds) ⟨fun xo => K.f (.sh xo.1, ρ)⟩⟩ := xCon_f pf_are_nested rfl rs ρ
def T_is_nested : List Ent := [⟨96, pf_are_nested, .fn, "are_nested"⟩, ⟨102, pf_check_table, .fn, "check_table"⟩, ⟨125, pf_owners, .fn, "owners"⟩, ⟨141, pf_unknown, .fn, "unknown"⟩]
def tr_is_nested : Ss := (.cons (.ex (.call 102 (.cons (.loc 0) .nil)))
 (.cons (.set 1 (.lc [3] (.nm 3) (.val (.fld (.loc 0) "traits")) .no (.call 125 (.cons (.loc 0) (.cons (.loc 3) .nil)))))
 (.cons (.for_ (.nm 2) (.rng1 (.bi .len (.cons (.loc 1) .nil)))
 (.cons (.ifs (.cmp .NotEq (.lc [4] (.nm 4) (.val (.slc (.loc 1) .no (.so (.loc 2)))) (.so (.not (.call 96 (.cons (.loc 4) (.cons (.sub (.loc 1) (.loc 2)) .nil))))) (.loc 4)) (.lst .nil))
 (.cons (.ret (.kBl false))
 .nil)
 .nil)
 .nil))
 (.cons (.ret (.cmp .Eq (.call 141 (.cons (.loc 0) .nil)) (.lst .nil)))
 .nil))))
def pf_is_nested : PF := mkF (tab (entL T_is_nested)) false .flt 5 tr_is_nested 1
theorem ph_is_nested_are_nested : tab (entL T_is_nested) 96 = some pf_are_nested := rfl
theorem ph_is_nested_check_table : tab (entL T_is_nested) 102 = some pf_check_table := rfl
theorem ph_is_nested_owners : tab (entL T_is_nested) 125 = some pf_owners := rfl
theorem ph_is_nested_unknown : tab (entL T_is_nested) 141 = some pf_unknown := rfl
theorem xc_is_nested (rs : List Raw) (ρ : List Sl) {β : Type} {K : Kt (Sl × List Sl) β} : @bnI _ _ (xCon pf_is_nested rs ρ) K = @bnI _ _ (curs rs ρ) ⟨fun ds => @bnI _ _ (pf_is_nested.f ds) ⟨fun xo => K.f (.sh xo.1, ρ)⟩⟩ := xCon_f pf_is_nested rfl rs ρ
def T_is_told : List Ent := [⟨115, pf_is_name, .fn, "is_name"⟩]
def tr_is_told : Ss := (.cons (.ifs (.or (.not (.isi (.loc 0) .tuple)) (.or (.cmp .NotEq (.bi .len (.cons (.loc 0) .nil)) (.kInt 2)) (.or (.not (.call 115 (.cons (.sub (.loc 0) (.kInt 0)) .nil))) (.cmp .In (.sub (.loc 0) (.kInt 0)) (.loc 2)))))
 (.cons (.ret (.kBl false))
 .nil)
 .nil)
 (.cons (.ret (.or (.cmp .Is (.sub (.loc 0) (.kInt 1)) .kNon) (.and (.isi (.sub (.loc 0) (.kInt 1)) .str) (.cmp .In (.sub (.loc 0) (.kInt 1)) (.loc 1)))))
 .nil))
def pf_is_told : PF := mkF (tab (entL T_is_told)) false .flt 3 tr_is_told 3
theorem ph_is_told_is_name : tab (entL T_is_told) 115 = some pf_is_name := rfl
theorem xc_is_told (rs : List Raw) (ρ : List Sl) {β : Type} {K : Kt (Sl × List Sl) β} : @bnI _ _ (xCon pf_is_told rs ρ) K = @bnI _ _ (curs rs ρ) ⟨fun ds => @bnI _ _ (pf_is_told.f ds) ⟨fun xo => K.f (.sh xo.1, ρ)⟩⟩ := xCon_f pf_is_told rfl rs ρ
def T_are_fields_trees : List Ent := [⟨119, pf_is_told, .fn, "is_told"⟩]
def tr_are_fields_trees : Ss := (.cons (.ifs (.or (.not (.isi (.loc 0) .list)) (.or (.not (.isi (.loc 1) .list)) (.cmp .Eq (.loc 1) (.lst .nil))))
 (.cons (.ret (.kBl false))
 .nil)
 .nil)
 (.cons (.par2 3 4 .dic0 .dic0)
 (.cons (.for_ (.nm 2) (.val (.loc 0))
 (.cons (.ifs (.not (.call 119 (.cons (.loc 2) (.cons (.loc 3) (.cons (.loc 3) .nil)))))
 (.cons (.ret (.kBl false))
 .nil)
 .nil)
 (.cons (.put 3 (.sub (.loc 2) (.kInt 0)) (.kBl true))
 .nil)))
 (.cons (.for_ (.nm 2) (.val (.loc 1))
 (.cons (.ifs (.not (.call 119 (.cons (.loc 2) (.cons (.loc 3) (.cons (.loc 4) .nil)))))
 (.cons (.ret (.kBl false))
 .nil)
 .nil)
 (.cons (.put 4 (.sub (.loc 2) (.kInt 0)) (.kBl true))
 .nil)))
 (.cons (.ret (.kBl true))
 .nil)))))
def pf_are_fields_trees : PF := mkF (tab (entL T_are_fields_trees)) false .flt 5 tr_are_fields_trees 2
theorem ph_are_fields_trees_is_told : tab (entL T_are_fields_trees) 119 = some pf_is_told := rfl
theorem xc_are_fields_trees (rs : List Raw) (ρ : List Sl) {β : Type} {K : Kt (Sl × List Sl) β} : @bnI _ _ (xCon pf_are_fields_trees rs ρ) K = @bnI _ _ (curs rs ρ) ⟨fun ds => @bnI _ _ (pf_are_fields_trees.f ds) ⟨fun xo => K.f (.sh xo.1, ρ)⟩⟩ := xCon_f pf_are_fields_trees rfl rs ρ
def pf_Tree : PF := mkTree pf_are_fields_trees pf_in_order
theorem xc_Tree (rs : List Raw) (ρ : List Sl) {β : Type} {K : Kt (Sl × List Sl) β} : @bnI _ _ (xCon pf_Tree rs ρ) K = @bnI _ _ (curs rs ρ) ⟨fun ds => @bnI _ _ (pf_Tree.f ds) ⟨fun xo => K.f (RK.nor.sl xo.1, frzs rs ρ)⟩⟩ := xCon_f pf_Tree rfl rs ρ
def T_Tree_marks : List Ent := []
def tr_Tree_marks : Ss := (.cons (.ret (.lc [1] (.nm 1) (.val (.fld (.loc 0) "traits")) .no (.tup (.cons (.loc 1) (.cons (.sub (.fld (.loc 0) "over") (.loc 1)) .nil)))))
 .nil)
def pf_Tree_marks : PF := onlyC 1 (mkF (tab (entL T_Tree_marks)) false .fre 2 tr_Tree_marks 1)
theorem xc_Tree_marks (rs : List Raw) (ρ : List Sl) {β : Type} {K : Kt (Sl × List Sl) β} : @bnI _ _ (xCon pf_Tree_marks rs ρ) K = @bnI _ _ (curs rs ρ) ⟨fun ds => @bnI _ _ (pf_Tree_marks.f ds) ⟨fun xo => K.f (RK.fre.sl xo.1, frzs rs ρ)⟩⟩ := xCon_f pf_Tree_marks rfl rs ρ
def T_Tree_kinds : List Ent := []
def tr_Tree_kinds : Ss := (.cons (.ret (.lc [1] (.nm 1) (.val (.fld (.loc 0) "sorts")) .no (.tup (.cons (.loc 1) (.cons (.sub (.fld (.loc 0) "spots") (.loc 1)) .nil)))))
 .nil)
def pf_Tree_kinds : PF := onlyC 1 (mkF (tab (entL T_Tree_kinds)) false .fre 2 tr_Tree_kinds 1)
theorem xc_Tree_kinds (rs : List Raw) (ρ : List Sl) {β : Type} {K : Kt (Sl × List Sl) β} : @bnI _ _ (xCon pf_Tree_kinds rs ρ) K = @bnI _ _ (curs rs ρ) ⟨fun ds => @bnI _ _ (pf_Tree_kinds.f ds) ⟨fun xo => K.f (RK.fre.sl xo.1, frzs rs ρ)⟩⟩ := xCon_f pf_Tree_kinds rfl rs ρ
def T_Tree_eq : List Ent := []
def tr_Tree_eq : Ss := (.cons (.ret (.and (.isi (.loc 1) (.own 1)) (.and (.cmp .Eq (.fld (.loc 0) "over") (.fld (.loc 1) "over")) (.cmp .Eq (.fld (.loc 0) "spots") (.fld (.loc 1) "spots")))))
 .nil)
def pf_Tree_eq : PF := onlyC2 1 (mkF (tab (entL T_Tree_eq)) false .flt 2 tr_Tree_eq 2)
theorem xc_Tree_eq (rs : List Raw) (ρ : List Sl) {β : Type} {K : Kt (Sl × List Sl) β} : @bnI _ _ (xCon pf_Tree_eq rs ρ) K = @bnI _ _ (curs rs ρ) ⟨fun ds => @bnI _ _ (pf_Tree_eq.f ds) ⟨fun xo => K.f (.sh xo.1, ρ)⟩⟩ := xCon_f pf_Tree_eq rfl rs ρ
def T_check_tree : List Ent := []
def tr_check_tree : Ss := (.cons (.ifs (.not (.isi (.loc 0) (.own 1)))
 (.cons .never
 .nil)
 .nil)
 .nil)
def pf_check_tree : PF := mkF (tab (entL T_check_tree)) false .flt 1 tr_check_tree 1
theorem xc_check_tree (rs : List Raw) (ρ : List Sl) {β : Type} {K : Kt (Sl × List Sl) β} : @bnI _ _ (xCon pf_check_tree rs ρ) K = @bnI _ _ (curs rs ρ) ⟨fun ds => @bnI _ _ (pf_check_tree.f ds) ⟨fun xo => K.f (.sh xo.1, ρ)⟩⟩ := xCon_f pf_check_tree rfl rs ρ
def T_up_from : List Ent := []
def tr_up_from : Ss := (.cons (.set 2 (.lst .nil))
 (.cons (.whl (.cmp .IsNot (.loc 1) .kNon)
 (.cons (.ex (.mt .append 2 (.cons (.loc 1) .nil)))
 (.cons (.set 1 (.sub (.fld (.loc 0) "over") (.loc 1)))
 .nil)))
 (.cons (.ret (.loc 2))
 .nil)))
def pf_up_from : PF := mkF (tab (entL T_up_from)) false .fre 3 tr_up_from 2
theorem xc_up_from (rs : List Raw) (ρ : List Sl) {β : Type} {K : Kt (Sl × List Sl) β} : @bnI _ _ (xCon pf_up_from rs ρ) K = @bnI _ _ (curs rs ρ) ⟨fun ds => @bnI _ _ (pf_up_from.f ds) ⟨fun xo => K.f (RK.fre.sl xo.1, frzs rs ρ)⟩⟩ := xCon_f pf_up_from rfl rs ρ
def T_above : List Ent := [⟨100, pf_check_name, .fn, "check_name"⟩, ⟨103, pf_check_tree, .fn, "check_tree"⟩, ⟨143, pf_up_from, .fn, "up_from"⟩]
def tr_above : Ss := (.cons (.ex (.call 103 (.cons (.loc 0) .nil)))
 (.cons (.ex (.call 100 (.cons (.fld (.loc 0) "traits") (.cons (.loc 1) .nil))))
 (.cons (.ret (.slc (.call 143 (.cons (.loc 0) (.cons (.loc 1) .nil))) (.so (.kInt 1)) .no))
 .nil)))
def pf_above : PF := mkF (tab (entL T_above)) false .nor 2 tr_above 2
theorem ph_above_check_name : tab (entL T_above) 100 = some pf_check_name := rfl
theorem ph_above_check_tree : tab (entL T_above) 103 = some pf_check_tree := rfl
theorem ph_above_up_from : tab (entL T_above) 143 = some pf_up_from := rfl
theorem xc_above (rs : List Raw) (ρ : List Sl) {β : Type} {K : Kt (Sl × List Sl) β} : @bnI _ _ (xCon pf_above rs ρ) K = @bnI _ _ (curs rs ρ) ⟨fun ds => @bnI _ _ (pf_above.f ds) ⟨fun xo => K.f (RK.nor.sl xo.1, frzs rs ρ)⟩⟩ := xCon_f pf_above rfl rs ρ
def T_has : List Ent := [⟨100, pf_check_name, .fn, "check_name"⟩, ⟨103, pf_check_tree, .fn, "check_tree"⟩, ⟨143, pf_up_from, .fn, "up_from"⟩]
def tr_has : Ss := (.cons (.ex (.call 103 (.cons (.loc 0) .nil)))
 (.cons (.ex (.call 100 (.cons (.fld (.loc 0) "sorts") (.cons (.loc 1) .nil))))
 (.cons (.ret (.call 143 (.cons (.loc 0) (.cons (.sub (.fld (.loc 0) "spots") (.loc 1)) .nil))))
 .nil)))
def pf_has : PF := mkF (tab (entL T_has)) false .fre 2 tr_has 2
theorem ph_has_check_name : tab (entL T_has) 100 = some pf_check_name := rfl
theorem ph_has_check_tree : tab (entL T_has) 103 = some pf_check_tree := rfl
theorem ph_has_up_from : tab (entL T_has) 143 = some pf_up_from := rfl
theorem xc_has (rs : List Raw) (ρ : List Sl) {β : Type} {K : Kt (Sl × List Sl) β} : @bnI _ _ (xCon pf_has rs ρ) K = @bnI _ _ (curs rs ρ) ⟨fun ds => @bnI _ _ (pf_has.f ds) ⟨fun xo => K.f (RK.fre.sl xo.1, frzs rs ρ)⟩⟩ := xCon_f pf_has rfl rs ρ
def T_meeting : List Ent := [⟨100, pf_check_name, .fn, "check_name"⟩, ⟨103, pf_check_tree, .fn, "check_tree"⟩, ⟨143, pf_up_from, .fn, "up_from"⟩]
def tr_meeting : Ss := (.cons (.ex (.call 103 (.cons (.loc 0) .nil)))
 (.cons (.ex (.call 100 (.cons (.fld (.loc 0) "sorts") (.cons (.loc 1) .nil))))
 (.cons (.ex (.call 100 (.cons (.fld (.loc 0) "sorts") (.cons (.loc 2) .nil))))
 (.cons (.par2 4 5 (.call 143 (.cons (.loc 0) (.cons (.sub (.fld (.loc 0) "spots") (.loc 1)) .nil))) (.call 143 (.cons (.loc 0) (.cons (.sub (.fld (.loc 0) "spots") (.loc 2)) .nil))))
 (.cons (.set 3 (.lc [6] (.nm 6) (.val (.loc 4)) (.so (.cmp .In (.loc 6) (.loc 5))) (.loc 6)))
 (.cons (.ifs (.cmp .Eq (.loc 3) (.lst .nil))
 (.cons (.ret .kNon)
 .nil)
 .nil)
 (.cons (.ret (.sub (.loc 3) (.kInt 0)))
 .nil)))))))
def pf_meeting : PF := mkF (tab (entL T_meeting)) false .nor 7 tr_meeting 3
theorem ph_meeting_check_name : tab (entL T_meeting) 100 = some pf_check_name := rfl
theorem ph_meeting_check_tree : tab (entL T_meeting) 103 = some pf_check_tree := rfl
theorem ph_meeting_up_from : tab (entL T_meeting) 143 = some pf_up_from := rfl
theorem xc_meeting (rs : List Raw) (ρ : List Sl) {β : Type} {K : Kt (Sl × List Sl) β} : @bnI _ _ (xCon pf_meeting rs ρ) K = @bnI _ _ (curs rs ρ) ⟨fun ds => @bnI _ _ (pf_meeting.f ds) ⟨fun xo => K.f (RK.nor.sl xo.1, frzs rs ρ)⟩⟩ := xCon_f pf_meeting rfl rs ρ
def T_way : List Ent := [⟨100, pf_check_name, .fn, "check_name"⟩, ⟨103, pf_check_tree, .fn, "check_tree"⟩, ⟨143, pf_up_from, .fn, "up_from"⟩]
def tr_way : Ss := (.cons (.ex (.call 103 (.cons (.loc 0) .nil)))
 (.cons (.ex (.call 100 (.cons (.fld (.loc 0) "sorts") (.cons (.loc 1) .nil))))
 (.cons (.ex (.call 100 (.cons (.fld (.loc 0) "sorts") (.cons (.loc 2) .nil))))
 (.cons (.par2 3 4 (.call 143 (.cons (.loc 0) (.cons (.sub (.fld (.loc 0) "spots") (.loc 1)) .nil))) (.call 143 (.cons (.loc 0) (.cons (.sub (.fld (.loc 0) "spots") (.loc 2)) .nil))))
 (.cons (.ret (.tup (.cons (.lc [5] (.nm 5) (.val (.loc 3)) (.so (.cmp .NotIn (.loc 5) (.loc 4))) (.loc 5)) (.cons (.lc [5] (.nm 5) (.val (.rev (.loc 4))) (.so (.cmp .NotIn (.loc 5) (.loc 3))) (.loc 5)) .nil))))
 .nil)))))
def pf_way : PF := mkF (tab (entL T_way)) false .nor 6 tr_way 3
theorem ph_way_check_name : tab (entL T_way) 100 = some pf_check_name := rfl
theorem ph_way_check_tree : tab (entL T_way) 103 = some pf_check_tree := rfl
theorem ph_way_up_from : tab (entL T_way) 143 = some pf_up_from := rfl
theorem xc_way (rs : List Raw) (ρ : List Sl) {β : Type} {K : Kt (Sl × List Sl) β} : @bnI _ _ (xCon pf_way rs ρ) K = @bnI _ _ (curs rs ρ) ⟨fun ds => @bnI _ _ (pf_way.f ds) ⟨fun xo => K.f (RK.nor.sl xo.1, frzs rs ρ)⟩⟩ := xCon_f pf_way rfl rs ρ
def T_table_of : List Ent := [⟨13, pf_Table, .fn, "Table"⟩, ⟨103, pf_check_tree, .fn, "check_tree"⟩, ⟨143, pf_up_from, .fn, "up_from"⟩]
def tr_table_of : Ss := (.cons (.ex (.call 103 (.cons (.loc 0) .nil)))
 (.cons (.set 1 (.lst .nil))
 (.cons (.for_ (.nm 2) (.val (.fld (.loc 0) "sorts"))
 (.cons (.set 3 (.call 143 (.cons (.loc 0) (.cons (.sub (.fld (.loc 0) "spots") (.loc 2)) .nil))))
 (.cons (.ex (.mt .append 1 (.cons (.me .join (.kStr "") (.cons (.lc [4] (.nm 4) (.val (.fld (.loc 0) "traits")) .no (.sub (.kStr "01") (.bi .int (.cons (.cmp .In (.loc 4) (.loc 3)) .nil)))) .nil)) .nil)))
 .nil)))
 (.cons (.ret (.call 13 (.cons (.bi .list (.cons (.fld (.loc 0) "sorts") .nil)) (.cons (.bi .list (.cons (.fld (.loc 0) "traits") .nil)) (.cons (.loc 1) .nil)))))
 .nil))))
def pf_table_of : PF := mkF (tab (entL T_table_of)) false .nor 5 tr_table_of 1
theorem ph_table_of_Table : tab (entL T_table_of) 13 = some pf_Table := rfl
theorem ph_table_of_check_tree : tab (entL T_table_of) 103 = some pf_check_tree := rfl
theorem ph_table_of_up_from : tab (entL T_table_of) 143 = some pf_up_from := rfl
theorem xc_table_of (rs : List Raw) (ρ : List Sl) {β : Type} {K : Kt (Sl × List Sl) β} : @bnI _ _ (xCon pf_table_of rs ρ) K = @bnI _ _ (curs rs ρ) ⟨fun ds => @bnI _ _ (pf_table_of.f ds) ⟨fun xo => K.f (RK.nor.sl xo.1, frzs rs ρ)⟩⟩ := xCon_f pf_table_of rfl rs ρ
def T__law_names : List Ent := [⟨35, pf__law_draw, .fn, "_law_draw"⟩, ⟨64, pf__law_pick, .fn, "_law_pick"⟩]
def tr__law_names : Ss := (.cons (.par2 4 5 (.call 35 (.cons (.loc 0) (.cons (.kInt 26) .nil))) (.call 64 (.cons (.loc 0) (.cons (.lst (.cons (.kInt 1) (.cons (.kInt 3) (.cons (.kInt 5) (.cons (.kInt 7) (.cons (.kInt 9) (.cons (.kInt 11) .nil))))))) .nil))))
 (.cons (.par2 6 7 (.kStr "abcdefghijklmnopqrstuvwxyz") (.lst .nil))
 (.cons (.set 2 (.call 64 (.cons (.loc 0) (.cons (.lst (.cons (.kStr "") (.cons (.kStr "") (.cons (.kStr "a") (.cons (.kStr "zz") (.cons (.kStr "animal") .nil)))))) .nil))))
 (.cons (.for_ (.nm 3) (.rng1 (.loc 1))
 (.cons (.set 8 (.sub (.loc 6) (.bin .Mod (.bi .int (.cons (.bin .Add (.loc 4) (.bin .Mult (.loc 5) (.loc 3))) .nil)) (.kInt 26))))
 (.cons (.ex (.mt .append 7 (.cons (.call 64 (.cons (.loc 0) (.cons (.lst (.cons (.loc 8) (.cons (.bin .Add (.loc 2) (.loc 8)) (.cons (.bin .Add (.loc 8) (.loc 8)) .nil)))) .nil))) .nil)))
 .nil)))
 (.cons (.ret (.loc 7))
 .nil)))))
def pf__law_names : PF := mkF (tab (entL T__law_names)) true .fre 9 tr__law_names 2
theorem ph__law_names__law_draw : tab (entL T__law_names) 35 = some pf__law_draw := rfl
theorem ph__law_names__law_pick : tab (entL T__law_names) 64 = some pf__law_pick := rfl
theorem xc__law_names (x : D) (i : Nat) (r : List Raw) (ρ : List Sl) {β : Type} {K : Kt (Sl × List Sl) β} : @bnI _ _ (xCon pf__law_names ((x, some i) :: r) ρ) K = @bnI _ _ (owAt i (frzs r ρ)) ⟨fun d => @bnI _ _ (curs r ρ) ⟨fun ds => @bnI _ _ (pf__law_names.f (d :: ds)) ⟨fun xo => K.f (RK.fre.sl xo.1, (frzs r ρ).set i (.ow xo.2))⟩⟩⟩ := xCon_t pf__law_names rfl x i r ρ
def T__law_tree_fields : List Ent := [⟨64, pf__law_pick, .fn, "_law_pick"⟩]
def tr__law_tree_fields : Ss := (.cons (.par2 5 6 (.lst .nil) (.lst .nil))
 (.cons (.for_ (.nm 3) (.rng1 (.bi .len (.cons (.loc 2) .nil)))
 (.cons (.ex (.mt .append 5 (.cons (.tup (.cons (.sub (.loc 2) (.loc 3)) (.cons (.call 64 (.cons (.loc 0) (.cons (.bin .Add (.bin .Add (.lst (.cons .kNon .nil)) (.slc (.loc 2) .no (.so (.loc 3)))) (.slc (.slc (.loc 2) .no (.so (.loc 3))) (.so (.neg (.kInt 1))) .no)) .nil))) .nil))) .nil)))
 .nil))
 (.cons (.for_ (.nm 4) (.val (.loc 1))
 (.cons (.ex (.mt .append 6 (.cons (.tup (.cons (.loc 4) (.cons (.call 64 (.cons (.loc 0) (.cons (.bin .Add (.bin .Add (.lst (.cons .kNon .nil)) (.loc 2)) (.slc (.loc 2) (.so (.neg (.kInt 1))) .no)) .nil))) .nil))) .nil)))
 .nil))
 (.cons (.ret (.tup (.cons (.loc 5) (.cons (.loc 6) .nil))))
 .nil))))
def pf__law_tree_fields : PF := mkF (tab (entL T__law_tree_fields)) true .nor 7 tr__law_tree_fields 3
theorem ph__law_tree_fields__law_pick : tab (entL T__law_tree_fields) 64 = some pf__law_pick := rfl
theorem xc__law_tree_fields (x : D) (i : Nat) (r : List Raw) (ρ : List Sl) {β : Type} {K : Kt (Sl × List Sl) β} : @bnI _ _ (xCon pf__law_tree_fields ((x, some i) :: r) ρ) K = @bnI _ _ (owAt i (frzs r ρ)) ⟨fun d => @bnI _ _ (curs r ρ) ⟨fun ds => @bnI _ _ (pf__law_tree_fields.f (d :: ds)) ⟨fun xo => K.f (RK.nor.sl xo.1, (frzs r ρ).set i (.ow xo.2))⟩⟩⟩ := xCon_t pf__law_tree_fields rfl x i r ρ
def T__law_up : List Ent := []
def tr__law_up : Ss := (.cons (.set 2 (.lst .nil))
 (.cons (.for_ (.nm 3) (.rng1 (.bi .len (.cons (.loc 0) .nil)))
 (.cons (.ifs (.cmp .IsNot (.loc 1) .kNon)
 (.cons (.ex (.mt .append 2 (.cons (.loc 1) .nil)))
 (.cons (.set 1 (.sub (.lc [4, 5] (.tp [4, 5]) (.val (.loc 0)) (.so (.cmp .Eq (.loc 4) (.loc 1))) (.loc 5)) (.kInt 0)))
 .nil))
 .nil)
 .nil))
 (.cons (.ret (.loc 2))
 .nil)))
def pf__law_up : PF := mkF (tab (entL T__law_up)) false .fre 6 tr__law_up 2
theorem xc__law_up (rs : List Raw) (ρ : List Sl) {β : Type} {K : Kt (Sl × List Sl) β} : @bnI _ _ (xCon pf__law_up rs ρ) K = @bnI _ _ (curs rs ρ) ⟨fun ds => @bnI _ _ (pf__law_up.f ds) ⟨fun xo => K.f (RK.fre.sl xo.1, frzs rs ρ)⟩⟩ := xCon_f pf__law_up rfl rs ρ
def T__law_tree_rows : List Ent := [⟨89, pf__law_up, .fn, "_law_up"⟩]
def tr__law_tree_rows : Ss := (.cons (.setT [5, 6] (.loc 0))
 (.cons (.set 3 (.lst .nil))
 (.cons (.for_ (.nm 4) (.val (.loc 1))
 (.cons (.set 7 (.call 89 (.cons (.loc 5) (.cons (.sub (.lc [9, 10] (.tp [9, 10]) (.val (.loc 6)) (.so (.cmp .Eq (.loc 9) (.loc 4))) (.loc 10)) (.kInt 0)) .nil))))
 (.cons (.ex (.mt .append 3 (.cons (.me .join (.kStr "") (.cons (.lc [8] (.nm 8) (.val (.loc 2)) .no (.sub (.kStr "01") (.bi .int (.cons (.cmp .In (.loc 8) (.loc 7)) .nil)))) .nil)) .nil)))
 .nil)))
 (.cons (.ret (.loc 3))
 .nil))))
def pf__law_tree_rows : PF := mkF (tab (entL T__law_tree_rows)) false .fre 11 tr__law_tree_rows 3
theorem ph__law_tree_rows__law_up : tab (entL T__law_tree_rows) 89 = some pf__law_up := rfl
theorem xc__law_tree_rows (rs : List Raw) (ρ : List Sl) {β : Type} {K : Kt (Sl × List Sl) β} : @bnI _ _ (xCon pf__law_tree_rows rs ρ) K = @bnI _ _ (curs rs ρ) ⟨fun ds => @bnI _ _ (pf__law_tree_rows.f ds) ⟨fun xo => K.f (RK.fre.sl xo.1, frzs rs ρ)⟩⟩ := xCon_f pf__law_tree_rows rfl rs ρ
def T__law_hidden : List Ent := [⟨35, pf__law_draw, .fn, "_law_draw"⟩]
def tr__law_hidden : Ss := (.cons (.set 3 (.lst .nil))
 (.cons (.for_ (.nm 4) (.val (.loc 1))
 (.cons (.ex (.mt .append 3 (.cons (.me .join (.kStr "") (.cons (.lc [5] (.nm 5) (.val (.loc 4)) .no (.sub (.lst (.cons (.loc 5) (.cons (.kStr "?") .nil))) (.bi .int (.cons (.cmp .Lt (.call 35 (.cons (.loc 0) (.cons (.kInt 8) .nil))) (.loc 2)) .nil)))) .nil)) .nil)))
 .nil))
 (.cons (.ret (.loc 3))
 .nil)))
def pf__law_hidden : PF := mkF (tab (entL T__law_hidden)) true .fre 6 tr__law_hidden 3
theorem ph__law_hidden__law_draw : tab (entL T__law_hidden) 35 = some pf__law_draw := rfl
theorem xc__law_hidden (x : D) (i : Nat) (r : List Raw) (ρ : List Sl) {β : Type} {K : Kt (Sl × List Sl) β} : @bnI _ _ (xCon pf__law_hidden ((x, some i) :: r) ρ) K = @bnI _ _ (owAt i (frzs r ρ)) ⟨fun d => @bnI _ _ (curs r ρ) ⟨fun ds => @bnI _ _ (pf__law_hidden.f (d :: ds)) ⟨fun xo => K.f (RK.fre.sl xo.1, (frzs r ρ).set i (.ow xo.2))⟩⟩⟩ := xCon_t pf__law_hidden rfl x i r ρ
def T__law_table : List Ent := [⟨35, pf__law_draw, .fn, "_law_draw"⟩, ⟨49, pf__law_hidden, .fn, "_law_hidden"⟩, ⟨57, pf__law_names, .fn, "_law_names"⟩, ⟨64, pf__law_pick, .fn, "_law_pick"⟩, ⟨82, pf__law_tree_fields, .fn, "_law_tree_fields"⟩, ⟨83, pf__law_tree_rows, .fn, "_law_tree_rows"⟩]
def tr__law_table : Ss := (.cons (.par2 5 6 (.call 57 (.cons (.loc 0) (.cons (.bin .Add (.kInt 1) (.call 35 (.cons (.loc 0) (.cons (.loc 1) .nil)))) .nil))) (.call 57 (.cons (.loc 0) (.cons (.call 35 (.cons (.loc 0) (.cons (.bin .Add (.loc 2) (.kInt 1)) .nil))) .nil))))
 (.cons (.set 3 (.call 35 (.cons (.loc 0) (.cons (.kInt 4) .nil))))
 (.cons (.ifs (.cmp .Lt (.loc 3) (.kInt 2))
 (.cons (.set 7 (.call 83 (.cons (.call 82 (.cons (.loc 0) (.cons (.loc 5) (.cons (.loc 6) .nil)))) (.cons (.loc 5) (.cons (.loc 6) .nil)))))
 (.cons (.set 7 (.call 49 (.cons (.loc 0) (.cons (.loc 7) (.cons (.call 64 (.cons (.loc 0) (.cons (.lst (.cons (.kInt 0) (.cons (.kInt 1) (.cons (.kInt 3) (.cons (.kInt 6) .nil))))) .nil))) .nil)))))
 (.cons (.ifs (.and (.cmp .Eq (.loc 3) (.kInt 1)) (.cmp .NotEq (.loc 6) (.lst .nil)))
 (.cons (.par2 8 9 (.call 35 (.cons (.loc 0) (.cons (.bi .len (.cons (.loc 5) .nil)) .nil))) (.call 35 (.cons (.loc 0) (.cons (.bi .len (.cons (.loc 6) .nil)) .nil))))
 (.cons (.put 7 (.loc 8) (.bin .Add (.bin .Add (.slc (.sub (.loc 7) (.loc 8)) .no (.so (.loc 9))) (.call 64 (.cons (.loc 0) (.cons (.lst (.cons (.kStr "0") (.cons (.kStr "1") .nil))) .nil)))) (.slc (.sub (.loc 7) (.loc 8)) (.so (.bin .Add (.loc 9) (.kInt 1))) .no)))
 .nil))
 .nil)
 (.cons (.ret (.tup (.cons (.loc 5) (.cons (.loc 6) (.cons (.loc 7) .nil)))))
 .nil))))
 .nil)
 (.cons (.set 4 (.call 64 (.cons (.loc 0) (.cons (.lst (.cons (.kStr "01") (.cons (.kStr "01?") (.cons (.kStr "0??1") (.cons (.kStr "001?") (.cons (.kStr "0111?") .nil)))))) .nil))))
 (.cons (.ret (.tup (.cons (.loc 5) (.cons (.loc 6) (.cons (.lc [10] (.nm 10) (.val (.loc 5)) .no (.me .join (.kStr "") (.cons (.lc [11] (.nm 11) (.val (.loc 6)) .no (.call 64 (.cons (.loc 0) (.cons (.loc 4) .nil)))) .nil))) .nil)))))
 .nil)))))
def pf__law_table : PF := mkF (tab (entL T__law_table)) true .nor 12 tr__law_table 3
theorem ph__law_table__law_draw : tab (entL T__law_table) 35 = some pf__law_draw := rfl
theorem ph__law_table__law_hidden : tab (entL T__law_table) 49 = some pf__law_hidden := rfl
theorem ph__law_table__law_names : tab (entL T__law_table) 57 = some pf__law_names := rfl
theorem ph__law_table__law_pick : tab (entL T__law_table) 64 = some pf__law_pick := rfl
theorem ph__law_table__law_tree_fields : tab (entL T__law_table) 82 = some pf__law_tree_fields := rfl
theorem ph__law_table__law_tree_rows : tab (entL T__law_table) 83 = some pf__law_tree_rows := rfl
theorem xc__law_table (x : D) (i : Nat) (r : List Raw) (ρ : List Sl) {β : Type} {K : Kt (Sl × List Sl) β} : @bnI _ _ (xCon pf__law_table ((x, some i) :: r) ρ) K = @bnI _ _ (owAt i (frzs r ρ)) ⟨fun d => @bnI _ _ (curs r ρ) ⟨fun ds => @bnI _ _ (pf__law_table.f (d :: ds)) ⟨fun xo => K.f (RK.nor.sl xo.1, (frzs r ρ).set i (.ow xo.2))⟩⟩⟩ := xCon_t pf__law_table rfl x i r ρ
def T__law_made : List Ent := [⟨13, pf_Table, .fn, "Table"⟩]
def tr__law_made : Ss := (.cons (.ret (.call 13 (.cons (.bi .list (.cons (.sub (.loc 0) (.kInt 0)) .nil)) (.cons (.bi .list (.cons (.sub (.loc 0) (.kInt 1)) .nil)) (.cons (.bi .list (.cons (.sub (.loc 0) (.kInt 2)) .nil)) .nil)))))
 .nil)
def pf__law_made : PF := mkF (tab (entL T__law_made)) false .nor 1 tr__law_made 1
theorem ph__law_made_Table : tab (entL T__law_made) 13 = some pf_Table := rfl
theorem xc__law_made (rs : List Raw) (ρ : List Sl) {β : Type} {K : Kt (Sl × List Sl) β} : @bnI _ _ (xCon pf__law_made rs ρ) K = @bnI _ _ (curs rs ρ) ⟨fun ds => @bnI _ _ (pf__law_made.f ds) ⟨fun xo => K.f (RK.nor.sl xo.1, frzs rs ρ)⟩⟩ := xCon_f pf__law_made rfl rs ρ
def T__law_called : List Ent := []
def tr__law_called : Ss := (.cons (.ret (.lc [2] (.nm 2) (.val (.loc 1)) .no (.sub (.loc 0) (.loc 2))))
 .nil)
def pf__law_called : PF := mkF (tab (entL T__law_called)) false .fre 3 tr__law_called 2
theorem xc__law_called (rs : List Raw) (ρ : List Sl) {β : Type} {K : Kt (Sl × List Sl) β} : @bnI _ _ (xCon pf__law_called rs ρ) K = @bnI _ _ (curs rs ρ) ⟨fun ds => @bnI _ _ (pf__law_called.f ds) ⟨fun xo => K.f (RK.fre.sl xo.1, frzs rs ρ)⟩⟩ := xCon_f pf__law_called rfl rs ρ
def T__law_turned_about : List Ent := [⟨35, pf__law_draw, .fn, "_law_draw"⟩]
def tr__law_turned_about : Ss := (.cons (.set 2 (.bi .list (.cons (.loc 1) .nil)))
 (.cons (.for_ (.nm 3) (.rng1 (.bi .len (.cons (.loc 2) .nil)))
 (.cons (.set 4 (.call 35 (.cons (.loc 0) (.cons (.bi .len (.cons (.loc 2) .nil)) .nil))))
 (.cons (.swap 2 (.loc 3) (.loc 4))
 .nil)))
 (.cons (.ret (.loc 2))
 .nil)))
def pf__law_turned_about : PF := mkF (tab (entL T__law_turned_about)) true .fre 5 tr__law_turned_about 2
theorem ph__law_turned_about__law_draw : tab (entL T__law_turned_about) 35 = some pf__law_draw := rfl
theorem xc__law_turned_about (x : D) (i : Nat) (r : List Raw) (ρ : List Sl) {β : Type} {K : Kt (Sl × List Sl) β} : @bnI _ _ (xCon pf__law_turned_about ((x, some i) :: r) ρ) K = @bnI _ _ (owAt i (frzs r ρ)) ⟨fun d => @bnI _ _ (curs r ρ) ⟨fun ds => @bnI _ _ (pf__law_turned_about.f (d :: ds)) ⟨fun xo => K.f (RK.fre.sl xo.1, (frzs r ρ).set i (.ow xo.2))⟩⟩⟩ := xCon_t pf__law_turned_about rfl x i r ρ
def T__law_sign : List Ent := []
def tr__law_sign : Ss := (.cons (.ret (.sub (.sub (.sub (.loc 0) (.kInt 2)) (.me .index (.sub (.loc 0) (.kInt 0)) (.cons (.loc 1) .nil))) (.me .index (.sub (.loc 0) (.kInt 1)) (.cons (.loc 2) .nil))))
 .nil)
def pf__law_sign : PF := mkF (tab (entL T__law_sign)) false .nor 3 tr__law_sign 3
theorem xc__law_sign (rs : List Raw) (ρ : List Sl) {β : Type} {K : Kt (Sl × List Sl) β} : @bnI _ _ (xCon pf__law_sign rs ρ) K = @bnI _ _ (curs rs ρ) ⟨fun ds => @bnI _ _ (pf__law_sign.f ds) ⟨fun xo => K.f (RK.nor.sl xo.1, frzs rs ρ)⟩⟩ := xCon_f pf__law_sign rfl rs ρ
def T__law_owners : List Ent := []
def tr__law_owners : Ss := (.cons (.ret (.lc [2] (.nm 2) (.rng1 (.bi .len (.cons (.loc 0) .nil))) (.so (.cmp .Eq (.sub (.sub (.loc 0) (.loc 2)) (.loc 1)) (.kStr "1"))) (.loc 2)))
 .nil)
def pf__law_owners : PF := mkF (tab (entL T__law_owners)) false .fre 3 tr__law_owners 2
theorem xc__law_owners (rs : List Raw) (ρ : List Sl) {β : Type} {K : Kt (Sl × List Sl) β} : @bnI _ _ (xCon pf__law_owners rs ρ) K = @bnI _ _ (curs rs ρ) ⟨fun ds => @bnI _ _ (pf__law_owners.f ds) ⟨fun xo => K.f (RK.fre.sl xo.1, frzs rs ρ)⟩⟩ := xCon_f pf__law_owners rfl rs ρ
def T__law_are_nested : List Ent := [⟨62, pf__law_owners, .fn, "_law_owners"⟩]
def tr__law_are_nested : Ss := (.cons (.par2 4 5 (.call 62 (.cons (.loc 0) (.cons (.loc 1) .nil))) (.call 62 (.cons (.loc 0) (.cons (.loc 2) .nil))))
 (.cons (.set 3 (.lc [6] (.nm 6) (.val (.loc 4)) (.so (.cmp .In (.loc 6) (.loc 5))) (.loc 6)))
 (.cons (.ret (.or (.cmp .Eq (.loc 3) (.lst .nil)) (.or (.cmp .Eq (.loc 3) (.loc 4)) (.cmp .Eq (.loc 3) (.loc 5)))))
 .nil)))
def pf__law_are_nested : PF := mkF (tab (entL T__law_are_nested)) false .flt 7 tr__law_are_nested 3
theorem ph__law_are_nested__law_owners : tab (entL T__law_are_nested) 62 = some pf__law_owners := rfl
theorem xc__law_are_nested (rs : List Raw) (ρ : List Sl) {β : Type} {K : Kt (Sl × List Sl) β} : @bnI _ _ (xCon pf__law_are_nested rs ρ) K = @bnI _ _ (curs rs ρ) ⟨fun ds => @bnI _ _ (pf__law_are_nested.f ds) ⟨fun xo => K.f (.sh xo.1, ρ)⟩⟩ := xCon_f pf__law_are_nested rfl rs ρ
def T__law_is_nested : List Ent := [⟨26, pf__law_are_nested, .fn, "_law_are_nested"⟩]
def tr__law_is_nested : Ss := (.cons (.for_ (.nm 2) (.rng1 (.loc 1))
 (.cons (.ifs (.cmp .NotEq (.lc [3] (.nm 3) (.rng1 (.loc 2)) (.so (.not (.call 26 (.cons (.loc 0) (.cons (.loc 2) (.cons (.loc 3) .nil)))))) (.loc 3)) (.lst .nil))
 (.cons (.ret (.kBl false))
 .nil)
 .nil)
 .nil))
 (.cons (.ret (.kBl true))
 .nil))
def pf__law_is_nested : PF := mkF (tab (entL T__law_is_nested)) false .flt 4 tr__law_is_nested 2
theorem ph__law_is_nested__law_are_nested : tab (entL T__law_is_nested) 26 = some pf__law_are_nested := rfl
theorem xc__law_is_nested (rs : List Raw) (ρ : List Sl) {β : Type} {K : Kt (Sl × List Sl) β} : @bnI _ _ (xCon pf__law_is_nested rs ρ) K = @bnI _ _ (curs rs ρ) ⟨fun ds => @bnI _ _ (pf__law_is_nested.f ds) ⟨fun xo => K.f (.sh xo.1, ρ)⟩⟩ := xCon_f pf__law_is_nested rfl rs ρ
def T__law_sorted : List Ent := []
def tr__law_sorted : Ss := (.cons (.ret (.bi .sorted (.cons (.lc [1] (.nm 1) (.val (.loc 0)) .no (.bi .str (.cons (.loc 1) .nil))) .nil)))
 .nil)
def pf__law_sorted : PF := mkF (tab (entL T__law_sorted)) false .fre 2 tr__law_sorted 1
theorem xc__law_sorted (rs : List Raw) (ρ : List Sl) {β : Type} {K : Kt (Sl × List Sl) β} : @bnI _ _ (xCon pf__law_sorted rs ρ) K = @bnI _ _ (curs rs ρ) ⟨fun ds => @bnI _ _ (pf__law_sorted.f ds) ⟨fun xo => K.f (RK.fre.sl xo.1, frzs rs ρ)⟩⟩ := xCon_f pf__law_sorted rfl rs ρ
def T_piece_from : List Ent := []
def tr_piece_from : Ss := (.cons (.par3 4 5 6 (.dic1 (.loc 3) (.kBl true)) .dic0 (.lst (.cons (.loc 3) .nil)))
 (.cons (.whl (.cmp .NotEq (.loc 6) (.lst .nil))
 (.cons (.set 7 (.mt .pop 6 .nil))
 (.cons (.for_ (.nm 8) (.val (.loc 2))
 (.cons (.ifs (.and (.cmp .Eq (.sub (.sub (.loc 0) (.loc 7)) (.loc 8)) (.kStr "1")) (.cmp .NotIn (.loc 8) (.loc 5)))
 (.cons (.put 5 (.loc 8) (.kBl true))
 (.cons (.for_ (.nm 9) (.val (.loc 1))
 (.cons (.ifs (.and (.cmp .Eq (.sub (.sub (.loc 0) (.loc 9)) (.loc 8)) (.kStr "1")) (.cmp .NotIn (.loc 9) (.loc 4)))
 (.cons (.put 4 (.loc 9) (.kBl true))
 (.cons (.ex (.mt .append 6 (.cons (.loc 9) .nil)))
 .nil))
 .nil)
 .nil))
 .nil))
 .nil)
 .nil))
 .nil)))
 (.cons (.ret (.tup (.cons (.lc [7] (.nm 7) (.val (.loc 1)) (.so (.cmp .In (.loc 7) (.loc 4))) (.loc 7)) (.cons (.lc [8] (.nm 8) (.val (.loc 2)) (.so (.cmp .In (.loc 8) (.loc 5))) (.loc 8)) .nil))))
 .nil)))
def pf_piece_from : PF := mkF (tab (entL T_piece_from)) false .nor 10 tr_piece_from 4
theorem xc_piece_from (rs : List Raw) (ρ : List Sl) {β : Type} {K : Kt (Sl × List Sl) β} : @bnI _ _ (xCon pf_piece_from rs ρ) K = @bnI _ _ (curs rs ρ) ⟨fun ds => @bnI _ _ (pf_piece_from.f ds) ⟨fun xo => K.f (RK.nor.sl xo.1, frzs rs ρ)⟩⟩ := xCon_f pf_piece_from rfl rs ρ
def T_pieces : List Ent := [⟨128, pf_piece_from, .fn, "piece_from"⟩]
def tr_pieces : Ss := (.cons (.par2 4 5 (.lst .nil) .dic0)
 (.cons (.for_ (.nm 3) (.val (.loc 1))
 (.cons (.ifs (.cmp .NotIn (.loc 3) (.loc 5))
 (.cons (.setT [6, 7] (.call 128 (.cons (.loc 0) (.cons (.loc 1) (.cons (.loc 2) (.cons (.loc 3) .nil))))))
 (.cons (.ex (.mt .append 4 (.cons (.tup (.cons (.loc 6) (.cons (.loc 7) .nil))) .nil)))
 (.cons (.ex (.mt .update 5 (.cons (.dc [8] (.nm 8) (.val (.loc 6)) (.loc 8) (.kBl true)) .nil)))
 .nil)))
 .nil)
 .nil))
 (.cons (.ret (.loc 4))
 .nil)))
def pf_pieces : PF := mkF (tab (entL T_pieces)) false .fre 9 tr_pieces 3
theorem ph_pieces_piece_from : tab (entL T_pieces) 128 = some pf_piece_from := rfl
theorem xc_pieces (rs : List Raw) (ρ : List Sl) {β : Type} {K : Kt (Sl × List Sl) β} : @bnI _ _ (xCon pf_pieces rs ρ) K = @bnI _ _ (curs rs ρ) ⟨fun ds => @bnI _ _ (pf_pieces.f ds) ⟨fun xo => K.f (RK.fre.sl xo.1, frzs rs ρ)⟩⟩ := xCon_f pf_pieces rfl rs ρ
def T_free_marks : List Ent := []
def tr_free_marks : Ss := (.cons (.ret (.lc [3] (.nm 3) (.val (.loc 2)) (.so (.cmp .Eq (.lc [4] (.nm 4) (.val (.loc 1)) (.so (.cmp .Eq (.sub (.sub (.loc 0) (.loc 4)) (.loc 3)) (.kStr "0"))) (.loc 4)) (.lst .nil))) (.loc 3)))
 .nil)
def pf_free_marks : PF := mkF (tab (entL T_free_marks)) false .fre 5 tr_free_marks 3
theorem xc_free_marks (rs : List Raw) (ρ : List Sl) {β : Type} {K : Kt (Sl × List Sl) β} : @bnI _ _ (xCon pf_free_marks rs ρ) K = @bnI _ _ (curs rs ρ) ⟨fun ds => @bnI _ _ (pf_free_marks.f ds) ⟨fun xo => K.f (RK.fre.sl xo.1, frzs rs ρ)⟩⟩ := xCon_f pf_free_marks rfl rs ρ
def T_sets_or_lot : List Ent := [⟨111, pf_free_marks, .fn, "free_marks"⟩, ⟨129, pf_pieces, .fn, "pieces"⟩]
def tr_sets_or_lot : Ss := (.cons (.par2 2 3 (.dc [9] (.nm 9) (.rng1 (.loc 1)) (.loc 9) (.lst .nil)) (.lst (.cons (.tup (.cons (.bi .lrng1 (.cons (.bi .len (.cons (.loc 0) .nil)) .nil)) (.cons (.bi .lrng1 (.cons (.loc 1) .nil)) .nil))) .nil)))
 (.cons (.whl (.cmp .NotEq (.loc 3) (.lst .nil))
 (.cons (.setT [4, 5] (.mt .pop 3 .nil))
 (.cons (.for_ (.tp [6, 7]) (.val (.call 129 (.cons (.loc 0) (.cons (.loc 4) (.cons (.loc 5) .nil)))))
 (.cons (.set 8 (.call 111 (.cons (.loc 0) (.cons (.loc 6) (.cons (.loc 7) .nil)))))
 (.cons (.ifs (.and (.cmp .NotEq (.loc 7) (.lst .nil)) (.cmp .Eq (.loc 8) (.lst .nil)))
 (.cons (.ret (.tup (.cons .kNon (.cons (.tup (.cons (.loc 6) (.cons (.loc 7) .nil))) .nil))))
 .nil)
 .nil)
 (.cons (.for_ (.nm 9) (.val (.loc 8))
 (.cons (.put 2 (.loc 9) (.loc 6))
 .nil))
 (.cons (.ifs (.cmp .NotEq (.loc 7) (.lst .nil))
 (.cons (.ex (.mt .append 3 (.cons (.tup (.cons (.loc 6) (.cons (.lc [9] (.nm 9) (.val (.loc 7)) (.so (.cmp .NotIn (.loc 9) (.loc 8))) (.loc 9)) .nil))) .nil)))
 .nil)
 .nil)
 .nil)))))
 .nil)))
 (.cons (.ret (.tup (.cons (.loc 2) (.cons .kNon .nil))))
 .nil)))
def pf_sets_or_lot : PF := mkF (tab (entL T_sets_or_lot)) false .nor 10 tr_sets_or_lot 2
theorem ph_sets_or_lot_free_marks : tab (entL T_sets_or_lot) 111 = some pf_free_marks := rfl
theorem ph_sets_or_lot_pieces : tab (entL T_sets_or_lot) 129 = some pf_pieces := rfl
theorem xc_sets_or_lot (rs : List Raw) (ρ : List Sl) {β : Type} {K : Kt (Sl × List Sl) β} : @bnI _ _ (xCon pf_sets_or_lot rs ρ) K = @bnI _ _ (curs rs ρ) ⟨fun ds => @bnI _ _ (pf_sets_or_lot.f ds) ⟨fun xo => K.f (RK.nor.sl xo.1, frzs rs ρ)⟩⟩ := xCon_f pf_sets_or_lot rfl rs ρ
def T_can_fit : List Ent := [⟨131, pf_sets_or_lot, .fn, "sets_or_lot"⟩]
def tr_can_fit : Ss := (.cons (.ret (.cmp .Is (.sub (.call 131 (.cons (.loc 0) (.cons (.loc 1) .nil))) (.kInt 1)) .kNon))
 .nil)
def pf_can_fit : PF := mkF (tab (entL T_can_fit)) false .flt 2 tr_can_fit 2
theorem ph_can_fit_sets_or_lot : tab (entL T_can_fit) 131 = some pf_sets_or_lot := rfl
theorem xc_can_fit (rs : List Raw) (ρ : List Sl) {β : Type} {K : Kt (Sl × List Sl) β} : @bnI _ _ (xCon pf_can_fit rs ρ) K = @bnI _ _ (curs rs ρ) ⟨fun ds => @bnI _ _ (pf_can_fit.f ds) ⟨fun xo => K.f (.sh xo.1, ρ)⟩⟩ := xCon_f pf_can_fit rfl rs ρ
def T_fits : List Ent := [⟨97, pf_can_fit, .fn, "can_fit"⟩, ⟨102, pf_check_table, .fn, "check_table"⟩, ⟨17, pf_Table_marks, .pr, "marks"⟩, ⟨18, pf_Table_rows, .pr, "rows"⟩]
def tr_fits : Ss := (.cons (.ex (.call 102 (.cons (.loc 0) .nil)))
 (.cons (.ret (.call 97 (.cons (.prp (.loc 0) 18) (.cons (.bi .len (.cons (.prp (.loc 0) 17) .nil)) .nil))))
 .nil))
def pf_fits : PF := mkF (tab (entL T_fits)) false .flt 1 tr_fits 1
theorem ph_fits_can_fit : tab (entL T_fits) 97 = some pf_can_fit := rfl
theorem ph_fits_check_table : tab (entL T_fits) 102 = some pf_check_table := rfl
theorem ph_fits_Table_marks : tab (entL T_fits) 17 = some pf_Table_marks := rfl
theorem ph_fits_Table_rows : tab (entL T_fits) 18 = some pf_Table_rows := rfl
theorem xc_fits (rs : List Raw) (ρ : List Sl) {β : Type} {K : Kt (Sl × List Sl) β} : @bnI _ _ (xCon pf_fits rs ρ) K = @bnI _ _ (curs rs ρ) ⟨fun ds => @bnI _ _ (pf_fits.f ds) ⟨fun xo => K.f (.sh xo.1, ρ)⟩⟩ := xCon_f pf_fits rfl rs ρ
def T_tree_of_sets : List Ent := [⟨19, pf_Tree, .fn, "Tree"⟩, ⟨16, pf_Table_kinds, .pr, "kinds"⟩, ⟨17, pf_Table_marks, .pr, "marks"⟩]
def tr_tree_of_sets : Ss := (.cons (.set 2 (.bi .sorted (.cons (.lc [7] (.nm 7) (.rng1 (.bi .len (.cons (.prp (.loc 0) 17) .nil))) .no (.tup (.cons (.neg (.bi .len (.cons (.sub (.loc 1) (.loc 7)) .nil))) (.cons (.loc 7) .nil)))) .nil)))
 (.cons (.par3 3 4 5 (.lst .nil) .dic0 (.lst .nil))
 (.cons (.for_ (.tp [6, 7]) (.val (.loc 2))
 (.cons (.set 8 (.lc [9] (.nm 9) (.val (.loc 5)) (.so (.and (.cmp .NotEq (.sub (.loc 1) (.loc 7)) (.lst .nil)) (.cmp .In (.sub (.sub (.loc 1) (.loc 7)) (.kInt 0)) (.sub (.loc 1) (.loc 9))))) (.loc 9)))
 (.cons (.ex (.mt .append 3 (.cons (.tup (.cons (.sub (.prp (.loc 0) 17) (.loc 7)) (.cons (.ife (.cmp .NotEq (.loc 8) (.lst .nil)) (.sub (.prp (.loc 0) 17) (.sub (.loc 8) (.neg (.kInt 1)))) .kNon) .nil))) .nil)))
 (.cons (.ex (.mt .append 5 (.cons (.loc 7) .nil)))
 (.cons (.ex (.mt .update 4 (.cons (.dc [10] (.nm 10) (.val (.sub (.loc 1) (.loc 7))) (.loc 10) (.sub (.prp (.loc 0) 17) (.loc 7))) .nil)))
 .nil)))))
 (.cons (.ret (.call 19 (.cons (.loc 3) (.cons (.lc [10, 11] (.tp [10, 11]) (.enum (.prp (.loc 0) 16)) .no (.tup (.cons (.loc 11) (.cons (.me .get (.loc 4) (.cons (.loc 10) .nil)) .nil)))) .nil))))
 .nil))))
def pf_tree_of_sets : PF := mkF (tab (entL T_tree_of_sets)) false .nor 12 tr_tree_of_sets 2
theorem ph_tree_of_sets_Tree : tab (entL T_tree_of_sets) 19 = some pf_Tree := rfl
theorem ph_tree_of_sets_Table_kinds : tab (entL T_tree_of_sets) 16 = some pf_Table_kinds := rfl
theorem ph_tree_of_sets_Table_marks : tab (entL T_tree_of_sets) 17 = some pf_Table_marks := rfl
theorem xc_tree_of_sets (rs : List Raw) (ρ : List Sl) {β : Type} {K : Kt (Sl × List Sl) β} : @bnI _ _ (xCon pf_tree_of_sets rs ρ) K = @bnI _ _ (curs rs ρ) ⟨fun ds => @bnI _ _ (pf_tree_of_sets.f ds) ⟨fun xo => K.f (RK.nor.sl xo.1, frzs rs ρ)⟩⟩ := xCon_f pf_tree_of_sets rfl rs ρ
def T_tree_or_lot : List Ent := [⟨102, pf_check_table, .fn, "check_table"⟩, ⟨131, pf_sets_or_lot, .fn, "sets_or_lot"⟩, ⟨138, pf_tree_of_sets, .fn, "tree_of_sets"⟩, ⟨16, pf_Table_kinds, .pr, "kinds"⟩, ⟨17, pf_Table_marks, .pr, "marks"⟩, ⟨18, pf_Table_rows, .pr, "rows"⟩]
def tr_tree_or_lot : Ss := (.cons (.ex (.call 102 (.cons (.loc 0) .nil)))
 (.cons (.setT [1, 2] (.call 131 (.cons (.prp (.loc 0) 18) (.cons (.bi .len (.cons (.prp (.loc 0) 17) .nil)) .nil))))
 (.cons (.ifs (.cmp .Is (.loc 2) .kNon)
 (.cons (.ret (.tup (.cons (.kStr "tree") (.cons (.call 138 (.cons (.loc 0) (.cons (.loc 1) .nil))) .nil))))
 .nil)
 .nil)
 (.cons (.ret (.tup (.cons (.kStr "lot") (.cons (.lc [3] (.nm 3) (.val (.sub (.loc 2) (.kInt 0))) .no (.sub (.prp (.loc 0) 16) (.loc 3))) (.cons (.lc [4] (.nm 4) (.val (.sub (.loc 2) (.kInt 1))) .no (.sub (.prp (.loc 0) 17) (.loc 4))) .nil)))))
 .nil))))
def pf_tree_or_lot : PF := mkF (tab (entL T_tree_or_lot)) false .nor 5 tr_tree_or_lot 1
theorem ph_tree_or_lot_check_table : tab (entL T_tree_or_lot) 102 = some pf_check_table := rfl
theorem ph_tree_or_lot_sets_or_lot : tab (entL T_tree_or_lot) 131 = some pf_sets_or_lot := rfl
theorem ph_tree_or_lot_tree_of_sets : tab (entL T_tree_or_lot) 138 = some pf_tree_of_sets := rfl
theorem ph_tree_or_lot_Table_kinds : tab (entL T_tree_or_lot) 16 = some pf_Table_kinds := rfl
theorem ph_tree_or_lot_Table_marks : tab (entL T_tree_or_lot) 17 = some pf_Table_marks := rfl
theorem ph_tree_or_lot_Table_rows : tab (entL T_tree_or_lot) 18 = some pf_Table_rows := rfl
theorem xc_tree_or_lot (rs : List Raw) (ρ : List Sl) {β : Type} {K : Kt (Sl × List Sl) β} : @bnI _ _ (xCon pf_tree_or_lot rs ρ) K = @bnI _ _ (curs rs ρ) ⟨fun ds => @bnI _ _ (pf_tree_or_lot.f ds) ⟨fun xo => K.f (RK.nor.sl xo.1, frzs rs ρ)⟩⟩ := xCon_f pf_tree_or_lot rfl rs ρ
def T__law_due_rows : List Ent := [⟨73, pf__law_sign, .fn, "_law_sign"⟩, ⟨76, pf__law_sorted, .fn, "_law_sorted"⟩]
def tr__law_due_rows : Ss := (.cons (.set 1 (.lst .nil))
 (.cons (.for_ (.nm 2) (.val (.call 76 (.cons (.sub (.loc 0) (.kInt 0)) .nil)))
 (.cons (.ex (.mt .append 1 (.cons (.me .join (.kStr "") (.cons (.lc [3] (.nm 3) (.val (.call 76 (.cons (.sub (.loc 0) (.kInt 1)) .nil))) .no (.call 73 (.cons (.loc 0) (.cons (.loc 2) (.cons (.loc 3) .nil))))) .nil)) .nil)))
 .nil))
 (.cons (.ret (.loc 1))
 .nil)))
def pf__law_due_rows : PF := mkF (tab (entL T__law_due_rows)) false .fre 4 tr__law_due_rows 1
theorem ph__law_due_rows__law_sign : tab (entL T__law_due_rows) 73 = some pf__law_sign := rfl
theorem ph__law_due_rows__law_sorted : tab (entL T__law_due_rows) 76 = some pf__law_sorted := rfl
theorem xc__law_due_rows (rs : List Raw) (ρ : List Sl) {β : Type} {K : Kt (Sl × List Sl) β} : @bnI _ _ (xCon pf__law_due_rows rs ρ) K = @bnI _ _ (curs rs ρ) ⟨fun ds => @bnI _ _ (pf__law_due_rows.f ds) ⟨fun xo => K.f (RK.fre.sl xo.1, frzs rs ρ)⟩⟩ := xCon_f pf__law_due_rows rfl rs ρ
def T__law_plain : List Ent := [⟨38, pf__law_due_rows, .fn, "_law_due_rows"⟩, ⟨76, pf__law_sorted, .fn, "_law_sorted"⟩]
def tr__law_plain : Ss := (.cons (.ret (.tup (.cons (.call 76 (.cons (.sub (.loc 0) (.kInt 0)) .nil)) (.cons (.call 76 (.cons (.sub (.loc 0) (.kInt 1)) .nil)) (.cons (.call 38 (.cons (.loc 0) .nil)) .nil)))))
 .nil)
def pf__law_plain : PF := mkF (tab (entL T__law_plain)) false .nor 1 tr__law_plain 1
theorem ph__law_plain__law_due_rows : tab (entL T__law_plain) 38 = some pf__law_due_rows := rfl
theorem ph__law_plain__law_sorted : tab (entL T__law_plain) 76 = some pf__law_sorted := rfl
theorem xc__law_plain (rs : List Raw) (ρ : List Sl) {β : Type} {K : Kt (Sl × List Sl) β} : @bnI _ _ (xCon pf__law_plain rs ρ) K = @bnI _ _ (curs rs ρ) ⟨fun ds => @bnI _ _ (pf__law_plain.f ds) ⟨fun xo => K.f (RK.nor.sl xo.1, frzs rs ρ)⟩⟩ := xCon_f pf__law_plain rfl rs ρ
def T__law_few_unknown : List Ent := []
def tr__law_few_unknown : Ss := (.cons (.par2 3 4 (.lst .nil) (.loc 1))
 (.cons (.for_ (.nm 2) (.val (.loc 0))
 (.cons (.set 5 (.kStr ""))
 (.cons (.for_ (.nm 6) (.val (.loc 2))
 (.cons (.ifs (.and (.cmp .Eq (.loc 6) (.kStr "?")) (.cmp .Eq (.loc 4) (.kInt 0)))
 (.cons (.set 6 (.kStr "0"))
 .nil)
 .nil)
 (.cons (.ifs (.cmp .Eq (.loc 6) (.kStr "?"))
 (.cons (.set 4 (.bin .Sub (.loc 4) (.kInt 1)))
 .nil)
 .nil)
 (.cons (.set 5 (.bin .Add (.loc 5) (.loc 6)))
 .nil))))
 (.cons (.ex (.mt .append 3 (.cons (.loc 5) .nil)))
 .nil))))
 (.cons (.ret (.loc 3))
 .nil)))
def pf__law_few_unknown : PF := mkF (tab (entL T__law_few_unknown)) false .fre 7 tr__law_few_unknown 2
theorem xc__law_few_unknown (rs : List Raw) (ρ : List Sl) {β : Type} {K : Kt (Sl × List Sl) β} : @bnI _ _ (xCon pf__law_few_unknown rs ρ) K = @bnI _ _ (curs rs ρ) ⟨fun ds => @bnI _ _ (pf__law_few_unknown.f ds) ⟨fun xo => K.f (RK.fre.sl xo.1, frzs rs ρ)⟩⟩ := xCon_f pf__law_few_unknown rfl rs ρ
def T__law_small_table : List Ent := [⟨40, pf__law_few_unknown, .fn, "_law_few_unknown"⟩, ⟨78, pf__law_table, .fn, "_law_table"⟩]
def tr__law_small_table : Ss := (.cons (.setT [4, 5, 6] (.call 78 (.cons (.loc 0) (.cons (.loc 1) (.cons (.loc 2) .nil)))))
 (.cons (.ret (.tup (.cons (.loc 4) (.cons (.loc 5) (.cons (.call 40 (.cons (.loc 6) (.cons (.loc 3) .nil))) .nil)))))
 .nil))
def pf__law_small_table : PF := mkF (tab (entL T__law_small_table)) true .nor 7 tr__law_small_table 4
theorem ph__law_small_table__law_few_unknown : tab (entL T__law_small_table) 40 = some pf__law_few_unknown := rfl
theorem ph__law_small_table__law_table : tab (entL T__law_small_table) 78 = some pf__law_table := rfl
theorem xc__law_small_table (x : D) (i : Nat) (r : List Raw) (ρ : List Sl) {β : Type} {K : Kt (Sl × List Sl) β} : @bnI _ _ (xCon pf__law_small_table ((x, some i) :: r) ρ) K = @bnI _ _ (owAt i (frzs r ρ)) ⟨fun d => @bnI _ _ (curs r ρ) ⟨fun ds => @bnI _ _ (pf__law_small_table.f (d :: ds)) ⟨fun xo => K.f (RK.nor.sl xo.1, (frzs r ρ).set i (.ow xo.2))⟩⟩⟩ := xCon_t pf__law_small_table rfl x i r ρ
def T__law_fillings : List Ent := []
def tr__law_fillings : Ss := (.cons (.set 1 (.lst (.cons (.lst .nil) .nil)))
 (.cons (.for_ (.nm 2) (.val (.loc 0))
 (.cons (.set 3 (.lst (.cons (.kStr "") .nil)))
 (.cons (.for_ (.nm 4) (.val (.loc 2))
 (.cons (.set 7 (.lst (.cons (.loc 4) .nil)))
 (.cons (.ifs (.cmp .Eq (.loc 4) (.kStr "?"))
 (.cons (.set 7 (.lst (.cons (.kStr "0") (.cons (.kStr "1") .nil))))
 .nil)
 .nil)
 (.cons (.set 8 (.lst .nil))
 (.cons (.for_ (.nm 9) (.val (.loc 3))
 (.cons (.set 8 (.bin .Add (.loc 8) (.lc [10] (.nm 10) (.val (.loc 7)) .no (.bin .Add (.loc 9) (.loc 10)))))
 .nil))
 (.cons (.set 3 (.loc 8))
 .nil))))))
 (.cons (.set 5 (.lst .nil))
 (.cons (.for_ (.nm 6) (.val (.loc 1))
 (.cons (.set 5 (.bin .Add (.loc 5) (.lc [9] (.nm 9) (.val (.loc 3)) .no (.bin .Add (.loc 6) (.lst (.cons (.loc 9) .nil))))))
 .nil))
 (.cons (.set 1 (.loc 5))
 .nil))))))
 (.cons (.ret (.loc 1))
 .nil)))
def pf__law_fillings : PF := mkF (tab (entL T__law_fillings)) false .nor 11 tr__law_fillings 1
theorem xc__law_fillings (rs : List Raw) (ρ : List Sl) {β : Type} {K : Kt (Sl × List Sl) β} : @bnI _ _ (xCon pf__law_fillings rs ρ) K = @bnI _ _ (curs rs ρ) ⟨fun ds => @bnI _ _ (pf__law_fillings.f ds) ⟨fun xo => K.f (RK.nor.sl xo.1, frzs rs ρ)⟩⟩ := xCon_f pf__law_fillings rfl rs ρ
def T__law_good_fillings : List Ent := [⟨42, pf__law_fillings, .fn, "_law_fillings"⟩, ⟨51, pf__law_is_nested, .fn, "_law_is_nested"⟩]
def tr__law_good_fillings : Ss := (.cons (.ret (.lc [2] (.nm 2) (.val (.call 42 (.cons (.loc 0) .nil))) (.so (.call 51 (.cons (.loc 2) (.cons (.loc 1) .nil)))) (.loc 2)))
 .nil)
def pf__law_good_fillings : PF := mkF (tab (entL T__law_good_fillings)) false .fre 3 tr__law_good_fillings 2
theorem ph__law_good_fillings__law_fillings : tab (entL T__law_good_fillings) 42 = some pf__law_fillings := rfl
theorem ph__law_good_fillings__law_is_nested : tab (entL T__law_good_fillings) 51 = some pf__law_is_nested := rfl
theorem xc__law_good_fillings (rs : List Raw) (ρ : List Sl) {β : Type} {K : Kt (Sl × List Sl) β} : @bnI _ _ (xCon pf__law_good_fillings rs ρ) K = @bnI _ _ (curs rs ρ) ⟨fun ds => @bnI _ _ (pf__law_good_fillings.f ds) ⟨fun xo => K.f (RK.fre.sl xo.1, frzs rs ρ)⟩⟩ := xCon_f pf__law_good_fillings rfl rs ρ
def T__law_hangs : List Ent := []
def tr__law_hangs : Ss := (.cons (.par2 4 5 (.slc (.loc 1) .no (.so (.kInt 1))) (.lst .nil))
 (.cons (.for_ (.nm 3) (.rng1 (.bin .Add (.bi .len (.cons (.loc 1) .nil)) (.bi .len (.cons (.loc 2) .nil))))
 (.cons (.set 5 (.lc [6] (.nm 6) (.val (.loc 2)) (.so (.cmp .NotEq (.lc [7] (.nm 7) (.val (.loc 4)) (.so (.cmp .Eq (.sub (.sub (.loc 0) (.loc 7)) (.loc 6)) (.kStr "1"))) (.loc 7)) (.lst .nil))) (.loc 6)))
 (.cons (.set 4 (.lc [7] (.nm 7) (.val (.loc 1)) (.so (.or (.cmp .In (.loc 7) (.loc 4)) (.cmp .NotEq (.lc [6] (.nm 6) (.val (.loc 5)) (.so (.cmp .Eq (.sub (.sub (.loc 0) (.loc 7)) (.loc 6)) (.kStr "1"))) (.loc 6)) (.lst .nil)))) (.loc 7)))
 .nil)))
 (.cons (.ret (.and (.cmp .Eq (.loc 4) (.loc 1)) (.cmp .Eq (.loc 5) (.loc 2))))
 .nil)))
def pf__law_hangs : PF := mkF (tab (entL T__law_hangs)) false .flt 8 tr__law_hangs 3
theorem xc__law_hangs (rs : List Raw) (ρ : List Sl) {β : Type} {K : Kt (Sl × List Sl) β} : @bnI _ _ (xCon pf__law_hangs rs ρ) K = @bnI _ _ (curs rs ρ) ⟨fun ds => @bnI _ _ (pf__law_hangs.f ds) ⟨fun xo => K.f (.sh xo.1, ρ)⟩⟩ := xCon_f pf__law_hangs rfl rs ρ
def T__law_is_lot : List Ent := [⟨47, pf__law_hangs, .fn, "_law_hangs"⟩]
def tr__law_is_lot : Ss := (.cons (.ifs (.or (.cmp .Eq (.loc 1) (.lst .nil)) (.or (.cmp .Eq (.loc 2) (.lst .nil)) (.not (.call 47 (.cons (.loc 0) (.cons (.loc 1) (.cons (.loc 2) .nil)))))))
 (.cons (.ret (.kBl false))
 .nil)
 .nil)
 (.cons (.ret (.cmp .Eq (.lc [3] (.nm 3) (.val (.loc 2)) (.so (.cmp .Eq (.lc [4] (.nm 4) (.val (.loc 1)) (.so (.cmp .Eq (.sub (.sub (.loc 0) (.loc 4)) (.loc 3)) (.kStr "0"))) (.loc 4)) (.lst .nil))) (.loc 3)) (.lst .nil)))
 .nil))
def pf__law_is_lot : PF := mkF (tab (entL T__law_is_lot)) false .flt 5 tr__law_is_lot 3
theorem ph__law_is_lot__law_hangs : tab (entL T__law_is_lot) 47 = some pf__law_hangs := rfl
theorem xc__law_is_lot (rs : List Raw) (ρ : List Sl) {β : Type} {K : Kt (Sl × List Sl) β} : @bnI _ _ (xCon pf__law_is_lot rs ρ) K = @bnI _ _ (curs rs ρ) ⟨fun ds => @bnI _ _ (pf__law_is_lot.f ds) ⟨fun xo => K.f (.sh xo.1, ρ)⟩⟩ := xCon_f pf__law_is_lot rfl rs ρ
def T_is_lot : List Ent := [⟨101, pf_check_names, .fn, "check_names"⟩, ⟨102, pf_check_table, .fn, "check_table"⟩, ⟨128, pf_piece_from, .fn, "piece_from"⟩, ⟨16, pf_Table_kinds, .pr, "kinds"⟩, ⟨17, pf_Table_marks, .pr, "marks"⟩, ⟨18, pf_Table_rows, .pr, "rows"⟩]
def tr_is_lot : Ss := (.cons (.ex (.call 102 (.cons (.loc 0) .nil)))
 (.cons (.ex (.call 101 (.cons (.fld (.loc 0) "sorts") (.cons (.loc 1) (.cons (.kInt 1) .nil)))))
 (.cons (.ex (.call 101 (.cons (.fld (.loc 0) "traits") (.cons (.loc 2) (.cons (.kInt 1) .nil)))))
 (.cons (.set 3 (.bi .sorted (.cons (.lc [5] (.nm 5) (.val (.loc 1)) .no (.me .index (.prp (.loc 0) 16) (.cons (.loc 5) .nil))) .nil)))
 (.cons (.set 4 (.bi .sorted (.cons (.lc [6] (.nm 6) (.val (.loc 2)) .no (.me .index (.prp (.loc 0) 17) (.cons (.loc 6) .nil))) .nil)))
 (.cons (.ifs (.cmp .NotEq (.call 128 (.cons (.prp (.loc 0) 18) (.cons (.loc 3) (.cons (.loc 4) (.cons (.sub (.loc 3) (.kInt 0)) .nil))))) (.tup (.cons (.loc 3) (.cons (.loc 4) .nil))))
 (.cons (.ret (.kBl false))
 .nil)
 .nil)
 (.cons (.ret (.cmp .Eq (.lc [6] (.nm 6) (.val (.loc 4)) (.so (.cmp .Eq (.lc [5] (.nm 5) (.val (.loc 3)) (.so (.cmp .Eq (.sub (.sub (.prp (.loc 0) 18) (.loc 5)) (.loc 6)) (.kStr "0"))) (.loc 5)) (.lst .nil))) (.loc 6)) (.lst .nil)))
 .nil)))))))
def pf_is_lot : PF := mkF (tab (entL T_is_lot)) false .flt 7 tr_is_lot 3
theorem ph_is_lot_check_names : tab (entL T_is_lot) 101 = some pf_check_names := rfl
theorem ph_is_lot_check_table : tab (entL T_is_lot) 102 = some pf_check_table := rfl
theorem ph_is_lot_piece_from : tab (entL T_is_lot) 128 = some pf_piece_from := rfl
theorem ph_is_lot_Table_kinds : tab (entL T_is_lot) 16 = some pf_Table_kinds := rfl
theorem ph_is_lot_Table_marks : tab (entL T_is_lot) 17 = some pf_Table_marks := rfl
theorem ph_is_lot_Table_rows : tab (entL T_is_lot) 18 = some pf_Table_rows := rfl
theorem xc_is_lot (rs : List Raw) (ρ : List Sl) {β : Type} {K : Kt (Sl × List Sl) β} : @bnI _ _ (xCon pf_is_lot rs ρ) K = @bnI _ _ (curs rs ρ) ⟨fun ds => @bnI _ _ (pf_is_lot.f ds) ⟨fun xo => K.f (.sh xo.1, ρ)⟩⟩ := xCon_f pf_is_lot rfl rs ρ
def T__law_sets : List Ent := []
def tr__law_sets : Ss := (.cons (.set 1 (.lst (.cons (.lst .nil) .nil)))
 (.cons (.for_ (.nm 2) (.val (.loc 0))
 (.cons (.set 1 (.bin .Add (.loc 1) (.lc [3] (.nm 3) (.val (.loc 1)) .no (.bin .Add (.loc 3) (.lst (.cons (.loc 2) .nil))))))
 .nil))
 (.cons (.ret (.loc 1))
 .nil)))
def pf__law_sets : PF := mkF (tab (entL T__law_sets)) false .nor 4 tr__law_sets 1
theorem xc__law_sets (rs : List Raw) (ρ : List Sl) {β : Type} {K : Kt (Sl × List Sl) β} : @bnI _ _ (xCon pf__law_sets rs ρ) K = @bnI _ _ (curs rs ρ) ⟨fun ds => @bnI _ _ (pf__law_sets.f ds) ⟨fun xo => K.f (RK.nor.sl xo.1, frzs rs ρ)⟩⟩ := xCon_f pf__law_sets rfl rs ρ
def T_part_of : List Ent := []
def tr_part_of : Ss := (.cons (.ret (.lc [3] (.nm 3) (.val (.loc 1)) .no (.me .join (.kStr "") (.cons (.lc [4] (.nm 4) (.val (.loc 2)) .no (.sub (.sub (.loc 0) (.loc 3)) (.loc 4))) .nil))))
 .nil)
def pf_part_of : PF := mkF (tab (entL T_part_of)) false .fre 5 tr_part_of 3
theorem xc_part_of (rs : List Raw) (ρ : List Sl) {β : Type} {K : Kt (Sl × List Sl) β} : @bnI _ _ (xCon pf_part_of rs ρ) K = @bnI _ _ (curs rs ρ) ⟨fun ds => @bnI _ _ (pf_part_of.f ds) ⟨fun xo => K.f (RK.fre.sl xo.1, frzs rs ρ)⟩⟩ := xCon_f pf_part_of rfl rs ρ
def T_lot_within : List Ent := [⟨97, pf_can_fit, .fn, "can_fit"⟩, ⟨127, pf_part_of, .fn, "part_of"⟩]
def tr_lot_within : Ss := (.cons (.par2 5 6 (.bi .list (.cons (.loc 1) .nil)) (.bi .list (.cons (.loc 2) .nil)))
 (.cons (.for_ (.nm 3) (.val (.loc 1))
 (.cons (.set 7 (.lc [8] (.nm 8) (.val (.loc 5)) (.so (.cmp .NotEq (.loc 8) (.loc 3))) (.loc 8)))
 (.cons (.ifs (.not (.call 97 (.cons (.call 127 (.cons (.loc 0) (.cons (.loc 7) (.cons (.loc 6) .nil)))) (.cons (.bi .len (.cons (.loc 6) .nil)) .nil))))
 (.cons (.set 5 (.loc 7))
 .nil)
 .nil)
 .nil)))
 (.cons (.for_ (.nm 4) (.val (.loc 2))
 (.cons (.set 7 (.lc [8] (.nm 8) (.val (.loc 6)) (.so (.cmp .NotEq (.loc 8) (.loc 4))) (.loc 8)))
 (.cons (.ifs (.not (.call 97 (.cons (.call 127 (.cons (.loc 0) (.cons (.loc 5) (.cons (.loc 7) .nil)))) (.cons (.bi .len (.cons (.loc 7) .nil)) .nil))))
 (.cons (.set 6 (.loc 7))
 .nil)
 .nil)
 .nil)))
 (.cons (.ret (.tup (.cons (.loc 5) (.cons (.loc 6) .nil))))
 .nil))))
def pf_lot_within : PF := mkF (tab (entL T_lot_within)) false .nor 9 tr_lot_within 3
theorem ph_lot_within_can_fit : tab (entL T_lot_within) 97 = some pf_can_fit := rfl
theorem ph_lot_within_part_of : tab (entL T_lot_within) 127 = some pf_part_of := rfl
theorem xc_lot_within (rs : List Raw) (ρ : List Sl) {β : Type} {K : Kt (Sl × List Sl) β} : @bnI _ _ (xCon pf_lot_within rs ρ) K = @bnI _ _ (curs rs ρ) ⟨fun ds => @bnI _ _ (pf_lot_within.f ds) ⟨fun xo => K.f (RK.nor.sl xo.1, frzs rs ρ)⟩⟩ := xCon_f pf_lot_within rfl rs ρ
def T_lean_lot : List Ent := [⟨102, pf_check_table, .fn, "check_table"⟩, ⟨109, pf_fits, .fn, "fits"⟩, ⟨123, pf_lot_within, .fn, "lot_within"⟩, ⟨16, pf_Table_kinds, .pr, "kinds"⟩, ⟨17, pf_Table_marks, .pr, "marks"⟩, ⟨18, pf_Table_rows, .pr, "rows"⟩]
def tr_lean_lot : Ss := (.cons (.ex (.call 102 (.cons (.loc 0) .nil)))
 (.cons (.ifs (.call 109 (.cons (.loc 0) .nil))
 (.cons (.ret .kNon)
 .nil)
 .nil)
 (.cons (.setT [1, 2] (.call 123 (.cons (.prp (.loc 0) 18) (.cons (.bi .lrng1 (.cons (.bi .len (.cons (.prp (.loc 0) 16) .nil)) .nil)) (.cons (.bi .lrng1 (.cons (.bi .len (.cons (.prp (.loc 0) 17) .nil)) .nil)) .nil)))))
 (.cons (.ret (.tup (.cons (.lc [3] (.nm 3) (.val (.loc 1)) .no (.sub (.prp (.loc 0) 16) (.loc 3))) (.cons (.lc [4] (.nm 4) (.val (.loc 2)) .no (.sub (.prp (.loc 0) 17) (.loc 4))) .nil))))
 .nil))))
def pf_lean_lot : PF := mkF (tab (entL T_lean_lot)) false .nor 5 tr_lean_lot 1
theorem ph_lean_lot_check_table : tab (entL T_lean_lot) 102 = some pf_check_table := rfl
theorem ph_lean_lot_fits : tab (entL T_lean_lot) 109 = some pf_fits := rfl
theorem ph_lean_lot_lot_within : tab (entL T_lean_lot) 123 = some pf_lot_within := rfl
theorem ph_lean_lot_Table_kinds : tab (entL T_lean_lot) 16 = some pf_Table_kinds := rfl
theorem ph_lean_lot_Table_marks : tab (entL T_lean_lot) 17 = some pf_Table_marks := rfl
theorem ph_lean_lot_Table_rows : tab (entL T_lean_lot) 18 = some pf_Table_rows := rfl
theorem xc_lean_lot (rs : List Raw) (ρ : List Sl) {β : Type} {K : Kt (Sl × List Sl) β} : @bnI _ _ (xCon pf_lean_lot rs ρ) K = @bnI _ _ (curs rs ρ) ⟨fun ds => @bnI _ _ (pf_lean_lot.f ds) ⟨fun xo => K.f (RK.nor.sl xo.1, frzs rs ρ)⟩⟩ := xCon_f pf_lean_lot rfl rs ρ
def T_changed : List Ent := []
def tr_changed : Ss := (.cons (.set 4 (.bin .Add (.bin .Add (.slc (.sub (.loc 0) (.loc 1)) .no (.so (.loc 2))) (.loc 3)) (.slc (.sub (.loc 0) (.loc 1)) (.so (.bin .Add (.loc 2) (.kInt 1))) .no)))
 (.cons (.ret (.bin .Add (.bin .Add (.slc (.loc 0) .no (.so (.loc 1))) (.lst (.cons (.loc 4) .nil))) (.slc (.loc 0) (.so (.bin .Add (.loc 1) (.kInt 1))) .no)))
 .nil))
def pf_changed : PF := mkF (tab (entL T_changed)) false .nor 5 tr_changed 4
theorem xc_changed (rs : List Raw) (ρ : List Sl) {β : Type} {K : Kt (Sl × List Sl) β} : @bnI _ _ (xCon pf_changed rs ρ) K = @bnI _ _ (curs rs ρ) ⟨fun ds => @bnI _ _ (pf_changed.f ds) ⟨fun xo => K.f (RK.nor.sl xo.1, frzs rs ρ)⟩⟩ := xCon_f pf_changed rfl rs ρ
def T_unknown_places : List Ent := []
def tr_unknown_places : Ss := (.cons (.ret (.lc2 [1, 2, 3, 4] [3, 4] (.tp [1, 2]) (.enum (.loc 0)) .no (.tp [3, 4]) (.enum (.loc 2)) (.so (.cmp .Eq (.loc 4) (.kStr "?"))) (.tup (.cons (.loc 1) (.cons (.loc 3) .nil)))))
 .nil)
def pf_unknown_places : PF := mkF (tab (entL T_unknown_places)) false .fre 5 tr_unknown_places 1
theorem xc_unknown_places (rs : List Raw) (ρ : List Sl) {β : Type} {K : Kt (Sl × List Sl) β} : @bnI _ _ (xCon pf_unknown_places rs ρ) K = @bnI _ _ (curs rs ρ) ⟨fun ds => @bnI _ _ (pf_unknown_places.f ds) ⟨fun xo => K.f (RK.fre.sl xo.1, frzs rs ρ)⟩⟩ := xCon_f pf_unknown_places rfl rs ρ
def T_sure : List Ent := [⟨97, pf_can_fit, .fn, "can_fit"⟩, ⟨98, pf_changed, .fn, "changed"⟩, ⟨102, pf_check_table, .fn, "check_table"⟩, ⟨142, pf_unknown_places, .fn, "unknown_places"⟩, ⟨16, pf_Table_kinds, .pr, "kinds"⟩, ⟨17, pf_Table_marks, .pr, "marks"⟩, ⟨18, pf_Table_rows, .pr, "rows"⟩]
def tr_sure : Ss := (.cons (.ex (.call 102 (.cons (.loc 0) .nil)))
 (.cons (.par3 1 2 3 (.prp (.loc 0) 18) (.bi .len (.cons (.prp (.loc 0) 17) .nil)) (.lst .nil))
 (.cons (.ifs (.not (.call 97 (.cons (.loc 1) (.cons (.loc 2) .nil))))
 (.cons (.ret .kNon)
 .nil)
 .nil)
 (.cons (.for_ (.tp [4, 5]) (.val (.call 142 (.cons (.loc 1) .nil)))
 (.cons (.set 6 (.lc [7] (.nm 7) (.val (.kStr "01")) (.so (.call 97 (.cons (.call 98 (.cons (.loc 1) (.cons (.loc 4) (.cons (.loc 5) (.cons (.loc 7) .nil))))) (.cons (.loc 2) .nil)))) (.loc 7)))
 (.cons (.ifs (.cmp .Eq (.bi .len (.cons (.loc 6) .nil)) (.kInt 1))
 (.cons (.ex (.mt .append 3 (.cons (.tup (.cons (.sub (.prp (.loc 0) 16) (.loc 4)) (.cons (.sub (.prp (.loc 0) 17) (.loc 5)) (.cons (.sub (.loc 6) (.kInt 0)) .nil)))) .nil)))
 .nil)
 .nil)
 .nil)))
 (.cons (.ret (.loc 3))
 .nil)))))
def pf_sure : PF := mkF (tab (entL T_sure)) false .fre 8 tr_sure 1
theorem ph_sure_can_fit : tab (entL T_sure) 97 = some pf_can_fit := rfl
theorem ph_sure_changed : tab (entL T_sure) 98 = some pf_changed := rfl
theorem ph_sure_check_table : tab (entL T_sure) 102 = some pf_check_table := rfl
theorem ph_sure_unknown_places : tab (entL T_sure) 142 = some pf_unknown_places := rfl
theorem ph_sure_Table_kinds : tab (entL T_sure) 16 = some pf_Table_kinds := rfl
theorem ph_sure_Table_marks : tab (entL T_sure) 17 = some pf_Table_marks := rfl
theorem ph_sure_Table_rows : tab (entL T_sure) 18 = some pf_Table_rows := rfl
theorem xc_sure (rs : List Raw) (ρ : List Sl) {β : Type} {K : Kt (Sl × List Sl) β} : @bnI _ _ (xCon pf_sure rs ρ) K = @bnI _ _ (curs rs ρ) ⟨fun ds => @bnI _ _ (pf_sure.f ds) ⟨fun xo => K.f (RK.fre.sl xo.1, frzs rs ρ)⟩⟩ := xCon_f pf_sure rfl rs ρ
def T_takes : List Ent := [⟨97, pf_can_fit, .fn, "can_fit"⟩, ⟨102, pf_check_table, .fn, "check_table"⟩, ⟨117, pf_is_row, .fn, "is_row"⟩, ⟨17, pf_Table_marks, .pr, "marks"⟩, ⟨18, pf_Table_rows, .pr, "rows"⟩]
def tr_takes : Ss := (.cons (.ex (.call 102 (.cons (.loc 0) .nil)))
 (.cons (.ifs (.not (.call 117 (.cons (.loc 1) (.cons (.bi .len (.cons (.prp (.loc 0) 17) .nil)) .nil))))
 (.cons .never
 .nil)
 .nil)
 (.cons (.ret (.call 97 (.cons (.bin .Add (.prp (.loc 0) 18) (.lst (.cons (.loc 1) .nil))) (.cons (.bi .len (.cons (.prp (.loc 0) 17) .nil)) .nil))))
 .nil)))
def pf_takes : PF := mkF (tab (entL T_takes)) false .flt 2 tr_takes 2
theorem ph_takes_can_fit : tab (entL T_takes) 97 = some pf_can_fit := rfl
theorem ph_takes_check_table : tab (entL T_takes) 102 = some pf_check_table := rfl
theorem ph_takes_is_row : tab (entL T_takes) 117 = some pf_is_row := rfl
theorem ph_takes_Table_marks : tab (entL T_takes) 17 = some pf_Table_marks := rfl
theorem ph_takes_Table_rows : tab (entL T_takes) 18 = some pf_Table_rows := rfl
theorem xc_takes (rs : List Raw) (ρ : List Sl) {β : Type} {K : Kt (Sl × List Sl) β} : @bnI _ _ (xCon pf_takes rs ρ) K = @bnI _ _ (curs rs ρ) ⟨fun ds => @bnI _ _ (pf_takes.f ds) ⟨fun xo => K.f (.sh xo.1, ρ)⟩⟩ := xCon_f pf_takes rfl rs ρ
def T_subsets : List Ent := []
def tr_subsets : Ss := (.cons (.set 2 (.lst (.cons (.lst .nil) .nil)))
 (.cons (.for_ (.nm 3) (.rng1 (.loc 1))
 (.cons (.set 2 (.lc2 [4, 5] [5] (.nm 4) (.val (.loc 2)) .no (.nm 5) (.val (.loc 0)) (.so (.or (.cmp .Eq (.loc 4) (.lst .nil)) (.cmp .Gt (.loc 5) (.sub (.loc 4) (.neg (.kInt 1)))))) (.bin .Add (.loc 4) (.lst (.cons (.loc 5) .nil)))))
 .nil))
 (.cons (.ret (.loc 2))
 .nil)))
def pf_subsets : PF := mkF (tab (entL T_subsets)) false .fre 6 tr_subsets 2
theorem xc_subsets (rs : List Raw) (ρ : List Sl) {β : Type} {K : Kt (Sl × List Sl) β} : @bnI _ _ (xCon pf_subsets rs ρ) K = @bnI _ _ (curs rs ρ) ⟨fun ds => @bnI _ _ (pf_subsets.f ds) ⟨fun xo => K.f (RK.fre.sl xo.1, frzs rs ρ)⟩⟩ := xCon_f pf_subsets rfl rs ρ
def T_clashes : List Ent := [⟨97, pf_can_fit, .fn, "can_fit"⟩, ⟨102, pf_check_table, .fn, "check_table"⟩, ⟨127, pf_part_of, .fn, "part_of"⟩, ⟨133, pf_subsets, .fn, "subsets"⟩, ⟨16, pf_Table_kinds, .pr, "kinds"⟩, ⟨17, pf_Table_marks, .pr, "marks"⟩, ⟨18, pf_Table_rows, .pr, "rows"⟩]
def tr_clashes : Ss := (.cons (.ex (.call 102 (.cons (.loc 0) .nil)))
 (.cons (.par3 2 3 4 (.prp (.loc 0) 18) (.bi .lrng1 (.cons (.bi .len (.cons (.prp (.loc 0) 16) .nil)) .nil)) (.lst .nil))
 (.cons (.for_ (.nm 1) (.val (.call 133 (.cons (.bi .lrng1 (.cons (.bi .len (.cons (.prp (.loc 0) 17) .nil)) .nil)) (.cons (.kInt 2) .nil))))
 (.cons (.ifs (.not (.call 97 (.cons (.call 127 (.cons (.loc 2) (.cons (.loc 3) (.cons (.loc 1) .nil)))) (.cons (.kInt 2) .nil))))
 (.cons (.ex (.mt .append 4 (.cons (.tup (.cons (.sub (.prp (.loc 0) 17) (.sub (.loc 1) (.kInt 0))) (.cons (.sub (.prp (.loc 0) 17) (.sub (.loc 1) (.kInt 1))) .nil))) .nil)))
 .nil)
 .nil)
 .nil))
 (.cons (.ret (.loc 4))
 .nil))))
def pf_clashes : PF := mkF (tab (entL T_clashes)) false .fre 5 tr_clashes 1
theorem ph_clashes_can_fit : tab (entL T_clashes) 97 = some pf_can_fit := rfl
theorem ph_clashes_check_table : tab (entL T_clashes) 102 = some pf_check_table := rfl
theorem ph_clashes_part_of : tab (entL T_clashes) 127 = some pf_part_of := rfl
theorem ph_clashes_subsets : tab (entL T_clashes) 133 = some pf_subsets := rfl
theorem ph_clashes_Table_kinds : tab (entL T_clashes) 16 = some pf_Table_kinds := rfl
theorem ph_clashes_Table_marks : tab (entL T_clashes) 17 = some pf_Table_marks := rfl
theorem ph_clashes_Table_rows : tab (entL T_clashes) 18 = some pf_Table_rows := rfl
theorem xc_clashes (rs : List Raw) (ρ : List Sl) {β : Type} {K : Kt (Sl × List Sl) β} : @bnI _ _ (xCon pf_clashes rs ρ) K = @bnI _ _ (curs rs ρ) ⟨fun ds => @bnI _ _ (pf_clashes.f ds) ⟨fun xo => K.f (RK.fre.sl xo.1, frzs rs ρ)⟩⟩ := xCon_f pf_clashes rfl rs ρ
def T_without : List Ent := []
def tr_without : Ss := (.cons (.ret (.lc [2] (.nm 2) (.val (.loc 0)) (.so (.cmp .NotIn (.loc 2) (.loc 1))) (.loc 2)))
 .nil)
def pf_without : PF := mkF (tab (entL T_without)) false .fre 3 tr_without 2
theorem xc_without (rs : List Raw) (ρ : List Sl) {β : Type} {K : Kt (Sl × List Sl) β} : @bnI _ _ (xCon pf_without rs ρ) K = @bnI _ _ (curs rs ρ) ⟨fun ds => @bnI _ _ (pf_without.f ds) ⟨fun xo => K.f (RK.fre.sl xo.1, frzs rs ρ)⟩⟩ := xCon_f pf_without rfl rs ρ
def T_fewest_marks : List Ent := [⟨97, pf_can_fit, .fn, "can_fit"⟩, ⟨102, pf_check_table, .fn, "check_table"⟩, ⟨127, pf_part_of, .fn, "part_of"⟩, ⟨133, pf_subsets, .fn, "subsets"⟩, ⟨145, pf_without, .fn, "without"⟩, ⟨16, pf_Table_kinds, .pr, "kinds"⟩, ⟨17, pf_Table_marks, .pr, "marks"⟩, ⟨18, pf_Table_rows, .pr, "rows"⟩]
def tr_fewest_marks : Ss := (.cons (.ex (.call 102 (.cons (.loc 0) .nil)))
 (.cons (.par3 2 3 4 (.bi .lrng1 (.cons (.bi .len (.cons (.prp (.loc 0) 16) .nil)) .nil)) (.bi .lrng1 (.cons (.bi .len (.cons (.prp (.loc 0) 17) .nil)) .nil)) .kNon)
 (.cons (.for_ (.nm 1) (.rng1 (.bin .Add (.bi .len (.cons (.loc 3) .nil)) (.kInt 1)))
 (.cons (.for_ (.nm 5) (.val (.call 133 (.cons (.loc 3) (.cons (.loc 1) .nil))))
 (.cons (.set 6 (.call 145 (.cons (.loc 3) (.cons (.loc 5) .nil))))
 (.cons (.ifs (.and (.cmp .Is (.loc 4) .kNon) (.call 97 (.cons (.call 127 (.cons (.prp (.loc 0) 18) (.cons (.loc 2) (.cons (.loc 6) .nil)))) (.cons (.bi .len (.cons (.loc 6) .nil)) .nil))))
 (.cons (.set 4 (.lc [7] (.nm 7) (.val (.loc 5)) .no (.sub (.prp (.loc 0) 17) (.loc 7))))
 .nil)
 .nil)
 .nil)))
 .nil))
 (.cons (.ret (.loc 4))
 .nil))))
def pf_fewest_marks : PF := mkF (tab (entL T_fewest_marks)) false .fre 8 tr_fewest_marks 1
theorem ph_fewest_marks_can_fit : tab (entL T_fewest_marks) 97 = some pf_can_fit := rfl
theorem ph_fewest_marks_check_table : tab (entL T_fewest_marks) 102 = some pf_check_table := rfl
theorem ph_fewest_marks_part_of : tab (entL T_fewest_marks) 127 = some pf_part_of := rfl
theorem ph_fewest_marks_subsets : tab (entL T_fewest_marks) 133 = some pf_subsets := rfl
theorem ph_fewest_marks_without : tab (entL T_fewest_marks) 145 = some pf_without := rfl
theorem ph_fewest_marks_Table_kinds : tab (entL T_fewest_marks) 16 = some pf_Table_kinds := rfl
theorem ph_fewest_marks_Table_marks : tab (entL T_fewest_marks) 17 = some pf_Table_marks := rfl
theorem ph_fewest_marks_Table_rows : tab (entL T_fewest_marks) 18 = some pf_Table_rows := rfl
theorem xc_fewest_marks (rs : List Raw) (ρ : List Sl) {β : Type} {K : Kt (Sl × List Sl) β} : @bnI _ _ (xCon pf_fewest_marks rs ρ) K = @bnI _ _ (curs rs ρ) ⟨fun ds => @bnI _ _ (pf_fewest_marks.f ds) ⟨fun xo => K.f (RK.fre.sl xo.1, frzs rs ρ)⟩⟩ := xCon_f pf_fewest_marks rfl rs ρ
def T_fewest_kinds : List Ent := [⟨97, pf_can_fit, .fn, "can_fit"⟩, ⟨102, pf_check_table, .fn, "check_table"⟩, ⟨127, pf_part_of, .fn, "part_of"⟩, ⟨133, pf_subsets, .fn, "subsets"⟩, ⟨145, pf_without, .fn, "without"⟩, ⟨16, pf_Table_kinds, .pr, "kinds"⟩, ⟨17, pf_Table_marks, .pr, "marks"⟩, ⟨18, pf_Table_rows, .pr, "rows"⟩]
def tr_fewest_kinds : Ss := (.cons (.ex (.call 102 (.cons (.loc 0) .nil)))
 (.cons (.par3 2 3 4 (.bi .lrng1 (.cons (.bi .len (.cons (.prp (.loc 0) 16) .nil)) .nil)) (.bi .lrng1 (.cons (.bi .len (.cons (.prp (.loc 0) 17) .nil)) .nil)) .kNon)
 (.cons (.for_ (.nm 1) (.rng1 (.bin .Add (.bi .len (.cons (.loc 2) .nil)) (.kInt 1)))
 (.cons (.for_ (.nm 5) (.val (.call 133 (.cons (.loc 2) (.cons (.loc 1) .nil))))
 (.cons (.ifs (.and (.cmp .Is (.loc 4) .kNon) (.call 97 (.cons (.call 127 (.cons (.prp (.loc 0) 18) (.cons (.call 145 (.cons (.loc 2) (.cons (.loc 5) .nil))) (.cons (.loc 3) .nil)))) (.cons (.bi .len (.cons (.loc 3) .nil)) .nil))))
 (.cons (.set 4 (.lc [6] (.nm 6) (.val (.loc 5)) .no (.sub (.prp (.loc 0) 16) (.loc 6))))
 .nil)
 .nil)
 .nil))
 .nil))
 (.cons (.ret (.loc 4))
 .nil))))
def pf_fewest_kinds : PF := mkF (tab (entL T_fewest_kinds)) false .fre 7 tr_fewest_kinds 1
theorem ph_fewest_kinds_can_fit : tab (entL T_fewest_kinds) 97 = some pf_can_fit := rfl
theorem ph_fewest_kinds_check_table : tab (entL T_fewest_kinds) 102 = some pf_check_table := rfl
theorem ph_fewest_kinds_part_of : tab (entL T_fewest_kinds) 127 = some pf_part_of := rfl
theorem ph_fewest_kinds_subsets : tab (entL T_fewest_kinds) 133 = some pf_subsets := rfl
theorem ph_fewest_kinds_without : tab (entL T_fewest_kinds) 145 = some pf_without := rfl
theorem ph_fewest_kinds_Table_kinds : tab (entL T_fewest_kinds) 16 = some pf_Table_kinds := rfl
theorem ph_fewest_kinds_Table_marks : tab (entL T_fewest_kinds) 17 = some pf_Table_marks := rfl
theorem ph_fewest_kinds_Table_rows : tab (entL T_fewest_kinds) 18 = some pf_Table_rows := rfl
theorem xc_fewest_kinds (rs : List Raw) (ρ : List Sl) {β : Type} {K : Kt (Sl × List Sl) β} : @bnI _ _ (xCon pf_fewest_kinds rs ρ) K = @bnI _ _ (curs rs ρ) ⟨fun ds => @bnI _ _ (pf_fewest_kinds.f ds) ⟨fun xo => K.f (RK.fre.sl xo.1, frzs rs ρ)⟩⟩ := xCon_f pf_fewest_kinds rfl rs ρ
def T_counted : List Ent := [⟨97, pf_can_fit, .fn, "can_fit"⟩, ⟨98, pf_changed, .fn, "changed"⟩, ⟨102, pf_check_table, .fn, "check_table"⟩, ⟨142, pf_unknown_places, .fn, "unknown_places"⟩, ⟨17, pf_Table_marks, .pr, "marks"⟩, ⟨18, pf_Table_rows, .pr, "rows"⟩]
def tr_counted : Ss := (.cons (.ex (.call 102 (.cons (.loc 0) .nil)))
 (.cons (.par2 1 2 (.lst (.cons (.prp (.loc 0) 18) .nil)) (.bi .len (.cons (.prp (.loc 0) 17) .nil)))
 (.cons (.for_ (.tp [3, 4]) (.val (.call 142 (.cons (.prp (.loc 0) 18) .nil)))
 (.cons (.set 1 (.lc2 [5, 6] [6] (.nm 5) (.val (.loc 1)) .no (.nm 6) (.val (.kStr "01")) .no (.call 98 (.cons (.loc 5) (.cons (.loc 3) (.cons (.loc 4) (.cons (.loc 6) .nil)))))))
 (.cons (.set 1 (.lc [5] (.nm 5) (.val (.loc 1)) (.so (.call 97 (.cons (.loc 5) (.cons (.loc 2) .nil)))) (.loc 5)))
 .nil)))
 (.cons (.ret (.bi .len (.cons (.lc [5] (.nm 5) (.val (.loc 1)) (.so (.call 97 (.cons (.loc 5) (.cons (.loc 2) .nil)))) (.loc 5)) .nil)))
 .nil))))
def pf_counted : PF := mkF (tab (entL T_counted)) false .flt 7 tr_counted 1
theorem ph_counted_can_fit : tab (entL T_counted) 97 = some pf_can_fit := rfl
theorem ph_counted_changed : tab (entL T_counted) 98 = some pf_changed := rfl
theorem ph_counted_check_table : tab (entL T_counted) 102 = some pf_check_table := rfl
theorem ph_counted_unknown_places : tab (entL T_counted) 142 = some pf_unknown_places := rfl
theorem ph_counted_Table_marks : tab (entL T_counted) 17 = some pf_Table_marks := rfl
theorem ph_counted_Table_rows : tab (entL T_counted) 18 = some pf_Table_rows := rfl
theorem xc_counted (rs : List Raw) (ρ : List Sl) {β : Type} {K : Kt (Sl × List Sl) β} : @bnI _ _ (xCon pf_counted rs ρ) K = @bnI _ _ (curs rs ρ) ⟨fun ds => @bnI _ _ (pf_counted.f ds) ⟨fun xo => K.f (.sh xo.1, ρ)⟩⟩ := xCon_f pf_counted rfl rs ρ
def T_check_filled : List Ent := [⟨102, pf_check_table, .fn, "check_table"⟩, ⟨142, pf_unknown_places, .fn, "unknown_places"⟩, ⟨18, pf_Table_rows, .pr, "rows"⟩]
def tr_check_filled : Ss := (.cons (.ex (.call 102 (.cons (.loc 0) .nil)))
 (.cons (.ifs (.cmp .NotEq (.call 142 (.cons (.prp (.loc 0) 18) .nil)) (.lst .nil))
 (.cons .never
 .nil)
 .nil)
 .nil))
def pf_check_filled : PF := mkF (tab (entL T_check_filled)) false .flt 1 tr_check_filled 1
theorem ph_check_filled_check_table : tab (entL T_check_filled) 102 = some pf_check_table := rfl
theorem ph_check_filled_unknown_places : tab (entL T_check_filled) 142 = some pf_unknown_places := rfl
theorem ph_check_filled_Table_rows : tab (entL T_check_filled) 18 = some pf_Table_rows := rfl
theorem xc_check_filled (rs : List Raw) (ρ : List Sl) {β : Type} {K : Kt (Sl × List Sl) β} : @bnI _ _ (xCon pf_check_filled rs ρ) K = @bnI _ _ (curs rs ρ) ⟨fun ds => @bnI _ _ (pf_check_filled.f ds) ⟨fun xo => K.f (.sh xo.1, ρ)⟩⟩ := xCon_f pf_check_filled rfl rs ρ
def T_four : List Ent := [⟨99, pf_check_filled, .fn, "check_filled"⟩, ⟨127, pf_part_of, .fn, "part_of"⟩, ⟨133, pf_subsets, .fn, "subsets"⟩, ⟨16, pf_Table_kinds, .pr, "kinds"⟩, ⟨17, pf_Table_marks, .pr, "marks"⟩, ⟨18, pf_Table_rows, .pr, "rows"⟩]
def tr_four : Ss := (.cons (.ex (.call 99 (.cons (.loc 0) .nil)))
 (.cons (.for_ (.tp [1, 2]) (.val (.call 133 (.cons (.bi .lrng1 (.cons (.bi .len (.cons (.prp (.loc 0) 17) .nil)) .nil)) (.cons (.kInt 2) .nil))))
 (.cons (.set 3 (.call 127 (.cons (.prp (.loc 0) 18) (.cons (.bi .lrng1 (.cons (.bi .len (.cons (.prp (.loc 0) 16) .nil)) .nil)) (.cons (.lst (.cons (.loc 1) (.cons (.loc 2) .nil))) .nil)))))
 (.cons (.ifs (.cmp .Eq (.lc [5] (.nm 5) (.val (.tup (.cons (.kStr "11") (.cons (.kStr "10") (.cons (.kStr "01") (.cons (.kStr "00") .nil)))))) (.so (.cmp .NotIn (.loc 5) (.loc 3))) (.loc 5)) (.lst .nil))
 (.cons (.set 4 (.lc [5] (.nm 5) (.val (.tup (.cons (.kStr "11") (.cons (.kStr "10") (.cons (.kStr "01") (.cons (.kStr "00") .nil)))))) .no (.sub (.prp (.loc 0) 16) (.me .index (.loc 3) (.cons (.loc 5) .nil)))))
 (.cons (.ret (.tup (.cons (.sub (.prp (.loc 0) 17) (.loc 1)) (.cons (.sub (.prp (.loc 0) 17) (.loc 2)) (.cons (.loc 4) .nil)))))
 .nil))
 .nil)
 .nil)))
 (.cons (.ret .kNon)
 .nil)))
def pf_four : PF := mkF (tab (entL T_four)) false .nor 6 tr_four 1
theorem ph_four_check_filled : tab (entL T_four) 99 = some pf_check_filled := rfl
theorem ph_four_part_of : tab (entL T_four) 127 = some pf_part_of := rfl
theorem ph_four_subsets : tab (entL T_four) 133 = some pf_subsets := rfl
theorem ph_four_Table_kinds : tab (entL T_four) 16 = some pf_Table_kinds := rfl
theorem ph_four_Table_marks : tab (entL T_four) 17 = some pf_Table_marks := rfl
theorem ph_four_Table_rows : tab (entL T_four) 18 = some pf_Table_rows := rfl
theorem xc_four (rs : List Raw) (ρ : List Sl) {β : Type} {K : Kt (Sl × List Sl) β} : @bnI _ _ (xCon pf_four rs ρ) K = @bnI _ _ (curs rs ρ) ⟨fun ds => @bnI _ _ (pf_four.f ds) ⟨fun xo => K.f (RK.nor.sl xo.1, frzs rs ρ)⟩⟩ := xCon_f pf_four rfl rs ρ
def T_turned : List Ent := [⟨13, pf_Table, .fn, "Table"⟩, ⟨99, pf_check_filled, .fn, "check_filled"⟩, ⟨100, pf_check_name, .fn, "check_name"⟩, ⟨16, pf_Table_kinds, .pr, "kinds"⟩, ⟨17, pf_Table_marks, .pr, "marks"⟩, ⟨18, pf_Table_rows, .pr, "rows"⟩]
def tr_turned : Ss := (.cons (.ex (.call 99 (.cons (.loc 0) .nil)))
 (.cons (.ex (.call 100 (.cons (.fld (.loc 0) "sorts") (.cons (.loc 1) .nil))))
 (.cons (.set 2 (.sub (.prp (.loc 0) 18) (.me .index (.prp (.loc 0) 16) (.cons (.loc 1) .nil))))
 (.cons (.set 3 (.lc [4] (.nm 4) (.val (.prp (.loc 0) 18)) .no (.me .join (.kStr "") (.cons (.lc [5, 6] (.tp [5, 6]) (.zip (.loc 4) (.loc 2)) .no (.bi .str (.cons (.bi .int (.cons (.cmp .NotEq (.loc 5) (.loc 6)) .nil)) .nil))) .nil))))
 (.cons (.ret (.call 13 (.cons (.prp (.loc 0) 16) (.cons (.prp (.loc 0) 17) (.cons (.loc 3) .nil)))))
 .nil)))))
def pf_turned : PF := mkF (tab (entL T_turned)) false .nor 7 tr_turned 2
theorem ph_turned_Table : tab (entL T_turned) 13 = some pf_Table := rfl
theorem ph_turned_check_filled : tab (entL T_turned) 99 = some pf_check_filled := rfl
theorem ph_turned_check_name : tab (entL T_turned) 100 = some pf_check_name := rfl
theorem ph_turned_Table_kinds : tab (entL T_turned) 16 = some pf_Table_kinds := rfl
theorem ph_turned_Table_marks : tab (entL T_turned) 17 = some pf_Table_marks := rfl
theorem ph_turned_Table_rows : tab (entL T_turned) 18 = some pf_Table_rows := rfl
theorem xc_turned (rs : List Raw) (ρ : List Sl) {β : Type} {K : Kt (Sl × List Sl) β} : @bnI _ _ (xCon pf_turned rs ρ) K = @bnI _ _ (curs rs ρ) ⟨fun ds => @bnI _ _ (pf_turned.f ds) ⟨fun xo => K.f (RK.nor.sl xo.1, frzs rs ρ)⟩⟩ := xCon_f pf_turned rfl rs ρ
end FT

set_option Elab.async false
set_option linter.all false
set_option maxRecDepth 100000
set_option autoImplicit false
set_option maxHeartbeats 4000000
namespace FT
open PySem PySem.Spec PyProof.Rows L2
def T__law_classes : List Ent := []
def tr__law_classes : Ss := (.cons (.set 1 (.lst (.cons (.isi (.loc 0) (.exc 0)) (.cons (.isi (.loc 0) (.exc 1)) (.cons (.isi (.loc 0) (.exc 2)) .nil)))))
 (.cons (.set 1 (.bin .Add (.loc 1) (.lst (.cons (.isi (.loc 0) (.exc 3)) (.cons (.isi (.loc 0) (.exc 4)) (.cons (.isi (.loc 0) (.exc 5)) .nil))))))
 (.cons (.ifs (.or (.not (.isi (.loc 0) .fte)) (.not (.isi (.loc 0) .ve)))
 (.cons (.ret (.lst .nil))
 .nil)
 .nil)
 (.cons (.ret (.lc [2] (.nm 2) (.rng1 (.bi .len (.cons (.loc 1) .nil))) (.so (.sub (.loc 1) (.loc 2))) (.loc 2)))
 .nil))))
def pf__law_classes : PF := mkF (tab (entL T__law_classes)) false .fre 3 tr__law_classes 1
theorem xc__law_classes (rs : List Raw) (ρ : List Sl) {β : Type} {K : Kt (Sl × List Sl) β} : @bnI _ _ (xCon pf__law_classes rs ρ) K = @bnI _ _ (curs rs ρ) ⟨fun ds => @bnI _ _ (pf__law_classes.f ds) ⟨fun xo => K.f (RK.fre.sl xo.1, frzs rs ρ)⟩⟩ := xCon_f pf__law_classes rfl rs ρ
def T__law_right : List Ent := [⟨32, pf__law_classes, .fn, "_law_classes"⟩]
def tr__law_right : Ss := (.cons (.set 2 (.lc [3] (.nm 3) (.val (.loc 0)) .no (.fld (.loc 3) "value")))
 (.cons (.ifs (.cmp .NotEq (.bi .reprD (.cons (.loc 2) .nil)) (.bi .reprD (.cons (.bin .Mult (.lst (.cons (.loc 1) .nil)) (.bi .len (.cons (.loc 0) .nil))) .nil)))
 (.cons (.ret (.kBl false))
 .nil)
 .nil)
 (.cons (.ret (.cmp .Eq (.lc [3] (.nm 3) (.val (.loc 0)) .no (.call 32 (.cons (.loc 3) .nil))) (.lc [4] (.nm 4) (.rng1 (.bi .len (.cons (.loc 0) .nil))) .no (.lst (.cons (.loc 4) .nil)))))
 .nil)))
def pf__law_right : PF := mkF (tab (entL T__law_right)) false .flt 5 tr__law_right 2
theorem ph__law_right__law_classes : tab (entL T__law_right) 32 = some pf__law_classes := rfl
theorem xc__law_right (rs : List Raw) (ρ : List Sl) {β : Type} {K : Kt (Sl × List Sl) β} : @bnI _ _ (xCon pf__law_right rs ρ) K = @bnI _ _ (curs rs ρ) ⟨fun ds => @bnI _ _ (pf__law_right.f ds) ⟨fun xo => K.f (.sh xo.1, ρ)⟩⟩ := xCon_f pf__law_right rfl rs ρ
theorem op__law_right (a0 a1 : D) : pf__law_right.f [a0, a1] = @bnI _ _ (xB (tab (entL T__law_right)) tr__law_right [.sh a0, .sh a1, .un, .un, .un]) ⟨endF false .flt⟩ := op_mk rfl rfl
def T_law : List Ent := [⟨35, pf__law_draw, .fn, "_law_draw"⟩, ⟨64, pf__law_pick, .fn, "_law_pick"⟩, ⟨66, pf__law_purse, .fn, "_law_purse"⟩, ⟨69, pf__law_right, .fn, "_law_right"⟩]
def tA01 : Ss := (.cons (.set 1 (.call 66 (.cons (.loc 0) (.cons (.kInt 0) .nil))))
 (.cons (.set 2 (.bin .Add (.bin .Mult (.call 35 (.cons (.loc 1) (.cons (.bin .Pow (.kInt 10) (.kInt 6)) .nil))) (.bin .Pow (.kInt 10) (.kInt 33))) (.call 35 (.cons (.loc 1) (.cons (.bin .Pow (.kInt 10) (.kInt 6)) .nil)))))
 (.cons (.set 3 (.call 64 (.cons (.loc 1) (.cons (.lst (.cons .kNon (.cons (.kBl true) (.cons (.loc 2) (.cons (.bin .Sub (.kInt 0) (.loc 2)) (.cons (.bin .Mult (.kStr "x") (.call 35 (.cons (.loc 1) (.cons (.kInt 9) .nil)))) (.cons (.tup .nil) (.cons (.lst (.cons (.loc 2) .nil)) (.cons (.lst (.cons (.lst .nil) (.cons (.lst (.cons (.kStr "a") .nil)) .nil))) (.cons .dic0 .nil)))))))))) .nil))))
 .nil)))
def t701 : Ss := (.cons (.ifs (.or (.not (.call 69 (.cons (.loc 4) (.cons (.loc 3) .nil)))) (.or (.not (.call 69 (.cons (.loc 5) (.cons (.loc 3) .nil)))) (.not (.call 69 (.cons (.loc 6) (.cons .kNon .nil))))))
 (.cons (.ret (.kBl false))
 .nil)
 .nil)
 .nil)
def tM01 : Ss := (.cons (.ifs (.isi (.loc 3) .list)
 (.cons (.ex (.mt .append 3 (.cons (.kStr "more") .nil)))
 .nil)
 .nil)
 (.cons (.ifs (.isi (.loc 3) .dict)
 (.cons (.put 3 (.kStr "more") (.kInt 1))
 .nil)
 .nil)
 .nil))
def t1001 : Ss := (.cons (.ret (.and (.call 69 (.cons (.loc 4) (.cons (.loc 3) .nil))) (.call 69 (.cons (.loc 5) (.cons (.loc 3) .nil)))))
 .nil)
theorem ph_law__law_draw : tab (entL T_law) 35 = some pf__law_draw := rfl
theorem ph_law__law_pick : tab (entL T_law) 64 = some pf__law_pick := rfl
theorem ph_law__law_purse : tab (entL T_law) 66 = some pf__law_purse := rfl
theorem ph_law__law_right : tab (entL T_law) 69 = some pf__law_right := rfl
abbrev ΓL : Nat → Option Con := GΦ (tab (entL T_law))
def GoodD (ρ : List Sl) (d : D) : Prop := wB ΓL t701 (aft ρ d) ⟨fun ρ' => ρ' = aft ρ d, fun _ _ => False⟩ ∧
  (((∀ g, OwnD g d) ∧ ∃ d', wB ΓL tM01 (sl7 .un .un .un (.ow d) .un .un .un) ⟨fun ρ' => ρ' = sl7 .un .un .un (.ow d') .un .un .un, fun _ _ => False⟩ ∧ wB ΓL t1001 (sl7 .un .un .un (.sh d') (.sh (exD d')) (.sh (exD d')) .un) ⟨fun _ => False, fun s _ => s = .sh (.bl true)⟩) ∨
    (wB ΓL tM01 (sl7 .un .un .un (.sh d) .un .un .un) ⟨fun ρ' => ρ' = sl7 .un .un .un (.sh d) .un .un .un, fun _ _ => False⟩ ∧ wB ΓL t1001 (sl7 .un .un .un (.sh d) (.sh (exD d)) (.sh (exD d)) .un) ⟨fun _ => False, fun s _ => s = .sh (.bl true)⟩))
def LawD (ns : List Int) : Prop := wB ΓL tA01 (initS false [.scr ns] 7) ⟨fun ρ => ∃ p n d, ρ = sl7 (.sh (.scr ns)) (.ow p) (.sh n) (.sh d) .un .un .un ∧ GoodD ρ d, fun _ _ => False⟩
end FT

set_option Elab.async false
set_option linter.all false
set_option maxRecDepth 100000
set_option autoImplicit false
set_option maxHeartbeats 0
namespace FT
open PySem PySem.Spec PyProof.Rows L2
def top (i : Nat) : Stmt := PySem.Challenge.pw_fittrees_k01_errors_made.main.body.getD i (.Pass ⟨0, 0, 0, 0⟩)
def freeL : List Str := ["ValueError", "len", "range", "sorted", "list", "tuple", "isinstance", "repr", "int", "str", "enumerate", "zip", "max", "min", "dict", "super"]
theorem ck__law_purse : chkB (cfgOf [] ["script", "at", "cell"] (defScope (top 9)) T__law_purse freeL false) tr__law_purse (defBody (top 9)) = true := by decide +kernel
theorem sc__law_purse : FnScope ["script", "at", "cell"] ["script", "at"] (defScope (top 9)) := ⟨rfl, rfl, rfl, by decide +kernel, rfl, by decide +kernel, by decide +kernel⟩
theorem ck__law_draw : chkB (cfgOf [] ["purse", "many", "turn", "number", "drawn"] (defScope (top 10)) T__law_draw freeL true) tr__law_draw (defBody (top 10)) = true := by decide +kernel
theorem sc__law_draw : FnScope ["purse", "many", "turn", "number", "drawn"] ["purse", "many"] (defScope (top 10)) := ⟨rfl, rfl, rfl, by decide +kernel, rfl, by decide +kernel, by decide +kernel⟩
theorem ck__law_pick : chkB (cfgOf [] ["purse", "items"] (defScope (top 11)) T__law_pick freeL true) tr__law_pick (defBody (top 11)) = true := by decide +kernel
theorem sc__law_pick : FnScope ["purse", "items"] ["purse", "items"] (defScope (top 11)) := ⟨rfl, rfl, rfl, by decide +kernel, rfl, by decide +kernel, by decide +kernel⟩
theorem ck__law_classes : chkB (cfgOf [] ["error", "some", "at"] (defScope (top 12)) T__law_classes freeL false) tr__law_classes (defBody (top 12)) = true := by decide +kernel
theorem sc__law_classes : FnScope ["error", "some", "at"] ["error"] (defScope (top 12)) := ⟨rfl, rfl, rfl, by decide +kernel, rfl, by decide +kernel, by decide +kernel⟩
theorem ck__law_right : chkB (cfgG [] ["errors", "given", "told", "error", "at"] (defScope (top 13)) T__law_right freeL) tr__law_right (defBody (top 13)) = true := by decide +kernel
theorem sc__law_right : FnScope ["errors", "given", "told", "error", "at"] ["errors", "given"] (defScope (top 13)) := ⟨rfl, rfl, rfl, by decide +kernel, rfl, by decide +kernel, by decide +kernel⟩
theorem sc_law : FnScope ["script", "purse", "number", "given", "placed", "named", "bare"] ["script"] (defScope (top 14)) := ⟨rfl, rfl, rfl, by decide +kernel, rfl, by decide +kernel, by decide +kernel⟩
def d__law_purse : He.DefD := ⟨("_law_purse", none), "_law_purse", "_law_purse", defArgs (top 9), defBody (top 9), defScope (top 9), [], []⟩
def d__law_draw : He.DefD := ⟨("_law_draw", none), "_law_draw", "_law_draw", defArgs (top 10), defBody (top 10), defScope (top 10), [], []⟩
def d__law_pick : He.DefD := ⟨("_law_pick", none), "_law_pick", "_law_pick", defArgs (top 11), defBody (top 11), defScope (top 11), [], []⟩
def d__law_classes : He.DefD := ⟨("_law_classes", none), "_law_classes", "_law_classes", defArgs (top 12), defBody (top 12), defScope (top 12), [], []⟩
def d__law_right : He.DefD := ⟨("_law_right", none), "_law_right", "_law_right", defArgs (top 13), defBody (top 13), defScope (top 13), [], []⟩
def d_law : He.DefD := ⟨("law", none), "law", "law", defArgs (top 14), defBody (top 14), defScope (top 14), [], []⟩
def fnL : List He.DefD := [d__law_purse, d__law_draw, d__law_pick, d__law_classes, d__law_right, d_law]
def e_InvalidTable : EcD := ⟨"InvalidTable", "InvalidTable.__init__", defArgs (inClass (top 2) 0), defBody (inClass (top 2) 0), defScope (inClass (top 2) 0)⟩
def e_InvalidTree : EcD := ⟨"InvalidTree", "InvalidTree.__init__", defArgs (inClass (top 3) 0), defBody (inClass (top 3) 0), defScope (inClass (top 3) 0)⟩
def e_InvalidName : EcD := ⟨"InvalidName", "InvalidName.__init__", defArgs (inClass (top 4) 0), defBody (inClass (top 4) 0), defScope (inClass (top 4) 0)⟩
def e_InvalidNames : EcD := ⟨"InvalidNames", "InvalidNames.__init__", defArgs (inClass (top 5) 0), defBody (inClass (top 5) 0), defScope (inClass (top 5) 0)⟩
def e_InvalidSign : EcD := ⟨"InvalidSign", "InvalidSign.__init__", defArgs (inClass (top 6) 0), defBody (inClass (top 6) 0), defScope (inClass (top 6) 0)⟩
def e_InvalidRow : EcD := ⟨"InvalidRow", "InvalidRow.__init__", defArgs (inClass (top 7) 0), defBody (inClass (top 7) 0), defScope (inClass (top 7) 0)⟩
def ecL : List EcD := [e_InvalidTable, e_InvalidTree, e_InvalidName, e_InvalidNames, e_InvalidSign, e_InvalidRow]
def fileL : Str := PySem.Challenge.pw_fittrees_k01_errors_made.main.file
def faL : List He.Fa := [.glo "FitTreesError", .glo "InvalidTable", .glo "InvalidTree", .glo "InvalidName", .glo "InvalidNames", .glo "InvalidSign", .glo "InvalidRow", .glo "_law_purse", .glo "_law_draw", .glo "_law_pick", .glo "_law_classes", .glo "_law_right", .glo "law", .free "ValueError", .free "len", .free "range", .free "sorted", .free "list", .free "tuple", .free "isinstance", .free "repr", .free "int", .free "str", .free "enumerate", .free "zip", .free "max", .free "min", .free "dict", .free "super"]
abbrev Rr : PySem.W.OpenRow := PySem.W.OpenLaw.row PySem.Challenge.rw_fittrees_k01_errors_made
abbrev hk : PySem.W.Hook := hookZ 5 faL fnL ecL fileL
def ob (s : PySem.W.SharedT) : AlZ := obsZG 5 faL fnL ecL fileL (HandSHeadRun.getT s)
theorem ob_eq (s : PySem.W.SharedT) : ob s = hk.obs s.abs := obsZG_eq (HandSHeadRun.getT_eq s)
def loose : List PySem.Str := ["FitTreesError", "InvalidTable", "InvalidTree", "InvalidName", "InvalidNames", "InvalidSign", "InvalidRow", "_law_purse", "_law_draw", "_law_pick", "_law_classes", "_law_right"]
theorem run (w : World) : HandSHeadRun.RunEq Rr (PySem.W.view Rr.prog [14]) hk ob 4000 loose w := by
  intro os
  kernel_rfl
abbrev cfL : Cfg := cfgG [] ["script", "purse", "number", "given", "placed", "named", "bare"] (defScope (top 14)) T_law freeL
def bodyL : List Stmt := defBody (top 14)
theorem ckA : chkB cfL tA01 (bodyL.take 3) = true := by decide +kernel
theorem ck7 : chkB (fixC cfL) t701 [bodyL.getD 9 (.Pass ⟨0, 0, 0, 0⟩)] = true := by decide +kernel
theorem ckM : chkB (fixC cfL) tM01 [bodyL.getD 10 (.Pass ⟨0, 0, 0, 0⟩), bodyL.getD 11 (.Pass ⟨0, 0, 0, 0⟩)] = true := by decide +kernel
theorem ck10 : chkB cfL t1001 [bodyL.getD 12 (.Pass ⟨0, 0, 0, 0⟩)] = true := by decide +kernel
theorem facts {P : Program} {w : World} {K : PySem.W.Frag} {h : Heap} {mg : Str → Option Value} {f : Addr} (X0 : K.In h) (G : h.Ns mainGlobals mg) (hfa : mg ("law" : Str) = some (.ref f)) (c : SaysZ faL fnL ecL fileL K) (hfile : ((P.main.file : Str) == fileL) = true) (htop : (P.main.scope.names.lookup ("super" : Str)).isSome = false)
    (plain : ∀ ns : List Int, LawD ns) : ∀ (base : Heap) (s : Shared) (H : Hp) (a : Addr) (ns : List Int), Env0 P w K mg base callerA [] s H → SqL K H a (ns.map V.int) → ns.length ≤ sizeLine → TopC P w f (.ref a) s H := by
  have cd := c.x.s.d
  have hf : ∀ x ∈ freeL, mg x = none := by
    intro x hx
    simp only [freeL, List.mem_cons, List.not_mem_nil, or_false] at hx
    rcases hx with h | h | h | h | h | h | h | h | h | h | h | h | h | h | h | h
    · subst h; exact He.free_ok X0 G (cd.fact 13 (f := .free "ValueError") rfl)
    · subst h; exact He.free_ok X0 G (cd.fact 14 (f := .free "len") rfl)
    · subst h; exact He.free_ok X0 G (cd.fact 15 (f := .free "range") rfl)
    · subst h; exact He.free_ok X0 G (cd.fact 16 (f := .free "sorted") rfl)
    · subst h; exact He.free_ok X0 G (cd.fact 17 (f := .free "list") rfl)
    · subst h; exact He.free_ok X0 G (cd.fact 18 (f := .free "tuple") rfl)
    · subst h; exact He.free_ok X0 G (cd.fact 19 (f := .free "isinstance") rfl)
    · subst h; exact He.free_ok X0 G (cd.fact 20 (f := .free "repr") rfl)
    · subst h; exact He.free_ok X0 G (cd.fact 21 (f := .free "int") rfl)
    · subst h; exact He.free_ok X0 G (cd.fact 22 (f := .free "str") rfl)
    · subst h; exact He.free_ok X0 G (cd.fact 23 (f := .free "enumerate") rfl)
    · subst h; exact He.free_ok X0 G (cd.fact 24 (f := .free "zip") rfl)
    · subst h; exact He.free_ok X0 G (cd.fact 25 (f := .free "max") rfl)
    · subst h; exact He.free_ok X0 G (cd.fact 26 (f := .free "min") rfl)
    · subst h; exact He.free_ok X0 G (cd.fact 27 (f := .free "dict") rfl)
    · subst h; exact He.free_ok X0 G (cd.fact 28 (f := .free "super") rfl)
  have g_InvalidTable : mg ("InvalidTable" : Str) = _ := He.glo_ok X0 G (cd.fact 1 (f := .glo "InvalidTable") rfl)
  have g_InvalidTree : mg ("InvalidTree" : Str) = _ := He.glo_ok X0 G (cd.fact 2 (f := .glo "InvalidTree") rfl)
  have g_InvalidName : mg ("InvalidName" : Str) = _ := He.glo_ok X0 G (cd.fact 3 (f := .glo "InvalidName") rfl)
  have g_InvalidNames : mg ("InvalidNames" : Str) = _ := He.glo_ok X0 G (cd.fact 4 (f := .glo "InvalidNames") rfl)
  have g_InvalidSign : mg ("InvalidSign" : Str) = _ := He.glo_ok X0 G (cd.fact 5 (f := .glo "InvalidSign") rfl)
  have g_InvalidRow : mg ("InvalidRow" : Str) = _ := He.glo_ok X0 G (cd.fact 6 (f := .glo "InvalidRow") rfl)
  have g_FitTreesError : mg ("FitTreesError" : Str) = _ := He.glo_ok X0 G (cd.fact 0 (f := .glo "FitTreesError") rfl)
  have hgx : ∀ x ∈ xnL, mg x = some (.ref (He.ga K x)) := by
    intro x hx
    simp only [xnL, List.mem_cons, List.not_mem_nil, or_false] at hx
    rcases hx with h | h | h | h | h | h
    · subst h; exact g_InvalidTable
    · subst h; exact g_InvalidTree
    · subst h; exact g_InvalidName
    · subst h; exact g_InvalidNames
    · subst h; exact g_InvalidSign
    · subst h; exact g_InvalidRow
  obtain ⟨fd__law_purse, F__law_purse⟩ := cd.def_ 0 (d := d__law_purse) rfl
  have g__law_purse : mg ("_law_purse" : Str) = _ := He.glo_ok X0 G (cd.fact 7 (f := .glo "_law_purse") rfl)
  have b__law_purse := FunD.bindsN (ps := ["script", "at"]) F__law_purse (fun _ _ _ _ _ _ us hl => match us, hl with | [_, _], _ => rfl)
  obtain ⟨fd__law_draw, F__law_draw⟩ := cd.def_ 1 (d := d__law_draw) rfl
  have g__law_draw : mg ("_law_draw" : Str) = _ := He.glo_ok X0 G (cd.fact 8 (f := .glo "_law_draw") rfl)
  have b__law_draw := FunD.bindsN (ps := ["purse", "many"]) F__law_draw (fun _ _ _ _ _ _ us hl => match us, hl with | [_, _], _ => rfl)
  obtain ⟨fd__law_pick, F__law_pick⟩ := cd.def_ 2 (d := d__law_pick) rfl
  have g__law_pick : mg ("_law_pick" : Str) = _ := He.glo_ok X0 G (cd.fact 9 (f := .glo "_law_pick") rfl)
  have b__law_pick := FunD.bindsN (ps := ["purse", "items"]) F__law_pick (fun _ _ _ _ _ _ us hl => match us, hl with | [_, _], _ => rfl)
  obtain ⟨fd__law_classes, F__law_classes⟩ := cd.def_ 3 (d := d__law_classes) rfl
  have g__law_classes : mg ("_law_classes" : Str) = _ := He.glo_ok X0 G (cd.fact 10 (f := .glo "_law_classes") rfl)
  have b__law_classes := FunD.bindsN (ps := ["error"]) F__law_classes (fun _ _ _ _ _ _ us hl => match us, hl with | [_], _ => rfl)
  obtain ⟨fd__law_right, F__law_right⟩ := cd.def_ 4 (d := d__law_right) rfl
  have g__law_right : mg ("_law_right" : Str) = _ := He.glo_ok X0 G (cd.fact 11 (f := .glo "_law_right") rfl)
  have b__law_right := FunD.bindsN (ps := ["errors", "given"]) F__law_right (fun _ _ _ _ _ _ us hl => match us, hl with | [_, _], _ => rfl)
  obtain ⟨fd_law, F_law⟩ := cd.def_ 5 (d := d_law) rfl
  have g_law : mg ("law" : Str) = _ := He.glo_ok X0 G (cd.fact 12 (f := .glo "law") rfl)
  have b_law := FunD.bindsN (ps := ["script"]) F_law (fun _ _ _ _ _ _ us hl => match us, hl with | [_], _ => rfl)
  have bl := FunD.bindsA (ps := ["script"]) F_law fun _ _ _ _ _ _ us hl => match us, hl with | [_], _ => rfl
  cases hfa.symm.trans g_law
  intro base s H a ns e0 hS hlen
  let W : Wd := ⟨P, w, K, mg, base, []⟩
  have ty : Ty W.g W.K W.mg := ty_ofX X0 G c.x.s.c c.z hgx g_FitTreesError
  have Tf := fteB_ok (He.ba c.z).2
  have G__law_purse := fn_good (W := W) (k := 0) (T := T__law_purse) (free := freeL) (io := false) (ret := .fre) (tree := tr__law_purse) ty hf F__law_purse sc__law_purse ck__law_purse (by decide) trivial
  have C__law_purse : Cal W 2 "_law_purse" pf__law_purse := cal_fn G__law_purse g__law_purse F__law_purse.kp b__law_purse (by decide)
  have G__law_draw := fn_good (W := W) (k := 0) (T := T__law_draw) (free := freeL) (io := true) (ret := .flt) (tree := tr__law_draw) ty hf F__law_draw sc__law_draw ck__law_draw (by decide) trivial
  have C__law_draw : Cal W 2 "_law_draw" pf__law_draw := cal_fn G__law_draw g__law_draw F__law_draw.kp b__law_draw (by decide)
  have G__law_pick := fn_good (W := W) (k := 1) (T := T__law_pick) (free := freeL) (io := true) (ret := .nor) (tree := tr__law_pick) ty hf F__law_pick sc__law_pick ck__law_pick (by decide) ⟨Cal.mono C__law_draw (by decide), trivial⟩
  have C__law_pick : Cal W 3 "_law_pick" pf__law_pick := cal_fn G__law_pick g__law_pick F__law_pick.kp b__law_pick (by decide)
  have G__law_classes := fn_good (W := W) (k := 0) (T := T__law_classes) (free := freeL) (io := false) (ret := .fre) (tree := tr__law_classes) ty hf F__law_classes sc__law_classes ck__law_classes (by decide) trivial
  have C__law_classes : Cal W 2 "_law_classes" pf__law_classes := cal_fn G__law_classes g__law_classes F__law_classes.kp b__law_classes (by decide)
  have G__law_right := gd_good (W := W) (k := 1) (T := T__law_right) (free := freeL) (ret := .flt) (tree := tr__law_right) ty hf F__law_right sc__law_right ck__law_right (by decide) ⟨Cal.mono C__law_classes (by decide), trivial⟩
  obtain ⟨fe_InvalidTable, D_InvalidTable⟩ := c.x.e 0 e_InvalidTable rfl
  have E_InvalidTable : FnOk W.P W.w W.K W.mg W.base CX0 1 _ fe_InvalidTable ["self", "value"] (spI _) := exi_ok (k := 0) D_InvalidTable (hf "super" (by simp [freeL])) hfile htop (by decide) rfl rfl rfl (NdefX.nscope_by (by decide +kernel)) rfl
  have B1_InvalidTable := fun (u : Value) => exc_bd (pos := [u]) (kw := []) (u := u) D_InvalidTable (fun _ _ _ _ _ _ _ _ _ => ⟨_, rfl, rfl⟩)
  have Bk_InvalidTable := fun (u : Value) => exc_bd (pos := []) (kw := [("value", u)]) (u := u) D_InvalidTable (fun _ _ _ _ _ _ _ _ _ => ⟨_, rfl, rfl⟩)
  have B0_InvalidTable := exc_bd (pos := []) (kw := []) (u := .none) D_InvalidTable (fun _ _ _ _ _ _ _ _ _ => ⟨_, rfl, rfl⟩)
  obtain ⟨fe_InvalidTree, D_InvalidTree⟩ := c.x.e 1 e_InvalidTree rfl
  have E_InvalidTree : FnOk W.P W.w W.K W.mg W.base CX0 1 _ fe_InvalidTree ["self", "value"] (spI _) := exi_ok (k := 0) D_InvalidTree (hf "super" (by simp [freeL])) hfile htop (by decide) rfl rfl rfl (NdefX.nscope_by (by decide +kernel)) rfl
  have B1_InvalidTree := fun (u : Value) => exc_bd (pos := [u]) (kw := []) (u := u) D_InvalidTree (fun _ _ _ _ _ _ _ _ _ => ⟨_, rfl, rfl⟩)
  have Bk_InvalidTree := fun (u : Value) => exc_bd (pos := []) (kw := [("value", u)]) (u := u) D_InvalidTree (fun _ _ _ _ _ _ _ _ _ => ⟨_, rfl, rfl⟩)
  have B0_InvalidTree := exc_bd (pos := []) (kw := []) (u := .none) D_InvalidTree (fun _ _ _ _ _ _ _ _ _ => ⟨_, rfl, rfl⟩)
  obtain ⟨fe_InvalidName, D_InvalidName⟩ := c.x.e 2 e_InvalidName rfl
  have E_InvalidName : FnOk W.P W.w W.K W.mg W.base CX0 1 _ fe_InvalidName ["self", "value"] (spI _) := exi_ok (k := 0) D_InvalidName (hf "super" (by simp [freeL])) hfile htop (by decide) rfl rfl rfl (NdefX.nscope_by (by decide +kernel)) rfl
  have B1_InvalidName := fun (u : Value) => exc_bd (pos := [u]) (kw := []) (u := u) D_InvalidName (fun _ _ _ _ _ _ _ _ _ => ⟨_, rfl, rfl⟩)
  have Bk_InvalidName := fun (u : Value) => exc_bd (pos := []) (kw := [("value", u)]) (u := u) D_InvalidName (fun _ _ _ _ _ _ _ _ _ => ⟨_, rfl, rfl⟩)
  have B0_InvalidName := exc_bd (pos := []) (kw := []) (u := .none) D_InvalidName (fun _ _ _ _ _ _ _ _ _ => ⟨_, rfl, rfl⟩)
  obtain ⟨fe_InvalidNames, D_InvalidNames⟩ := c.x.e 3 e_InvalidNames rfl
  have E_InvalidNames : FnOk W.P W.w W.K W.mg W.base CX0 1 _ fe_InvalidNames ["self", "value"] (spI _) := exi_ok (k := 0) D_InvalidNames (hf "super" (by simp [freeL])) hfile htop (by decide) rfl rfl rfl (NdefX.nscope_by (by decide +kernel)) rfl
  have B1_InvalidNames := fun (u : Value) => exc_bd (pos := [u]) (kw := []) (u := u) D_InvalidNames (fun _ _ _ _ _ _ _ _ _ => ⟨_, rfl, rfl⟩)
  have Bk_InvalidNames := fun (u : Value) => exc_bd (pos := []) (kw := [("value", u)]) (u := u) D_InvalidNames (fun _ _ _ _ _ _ _ _ _ => ⟨_, rfl, rfl⟩)
  have B0_InvalidNames := exc_bd (pos := []) (kw := []) (u := .none) D_InvalidNames (fun _ _ _ _ _ _ _ _ _ => ⟨_, rfl, rfl⟩)
  obtain ⟨fe_InvalidSign, D_InvalidSign⟩ := c.x.e 4 e_InvalidSign rfl
  have E_InvalidSign : FnOk W.P W.w W.K W.mg W.base CX0 1 _ fe_InvalidSign ["self", "value"] (spI _) := exi_ok (k := 0) D_InvalidSign (hf "super" (by simp [freeL])) hfile htop (by decide) rfl rfl rfl (NdefX.nscope_by (by decide +kernel)) rfl
  have B1_InvalidSign := fun (u : Value) => exc_bd (pos := [u]) (kw := []) (u := u) D_InvalidSign (fun _ _ _ _ _ _ _ _ _ => ⟨_, rfl, rfl⟩)
  have Bk_InvalidSign := fun (u : Value) => exc_bd (pos := []) (kw := [("value", u)]) (u := u) D_InvalidSign (fun _ _ _ _ _ _ _ _ _ => ⟨_, rfl, rfl⟩)
  have B0_InvalidSign := exc_bd (pos := []) (kw := []) (u := .none) D_InvalidSign (fun _ _ _ _ _ _ _ _ _ => ⟨_, rfl, rfl⟩)
  obtain ⟨fe_InvalidRow, D_InvalidRow⟩ := c.x.e 5 e_InvalidRow rfl
  have E_InvalidRow : FnOk W.P W.w W.K W.mg W.base CX0 1 _ fe_InvalidRow ["self", "value"] (spI _) := exi_ok (k := 0) D_InvalidRow (hf "super" (by simp [freeL])) hfile htop (by decide) rfl rfl rfl (NdefX.nscope_by (by decide +kernel)) rfl
  have B1_InvalidRow := fun (u : Value) => exc_bd (pos := [u]) (kw := []) (u := u) D_InvalidRow (fun _ _ _ _ _ _ _ _ _ => ⟨_, rfl, rfl⟩)
  have Bk_InvalidRow := fun (u : Value) => exc_bd (pos := []) (kw := [("value", u)]) (u := u) D_InvalidRow (fun _ _ _ _ _ _ _ _ _ => ⟨_, rfl, rfl⟩)
  have B0_InvalidRow := exc_bd (pos := []) (kw := []) (u := .none) D_InvalidRow (fun _ _ _ _ _ _ _ _ _ => ⟨_, rfl, rfl⟩)
  have hE : ∀ A, Room 3 A → A.guards = some [] → Env1 W.g (W.bf A) (GΦ (tab (entL T_law))) (fnOf T_law) (pnOf T_law) (fun n => W.cs.lookup n) (knOf T_law) freeL := fun A r gd =>
    env_fns ty hf ⟨⟨rfl, fun X lk gl => C__law_draw A (r.mono (by decide)) X lk gl⟩, ⟨rfl, fun X lk gl => C__law_pick A (r.mono (by decide)) X lk gl⟩, ⟨rfl, fun X lk gl => C__law_purse A (r.mono (by decide)) X lk gl⟩,
      ⟨rfl, fun X lk gl => ⟨call_gd G__law_right r gd g__law_right F__law_right.kp b__law_right (by decide) X lk gl, fun p pos σ H K h => (sp0_none rfl rfl h).elim⟩⟩, trivial⟩ (r.mono (by decide))
  have hx0 : ∀ c, c < 6 → (xN c).isSome = true := by decide
  have hx : ∀ c, c < 6 → (W.g.xc c).isSome = true := fun c hc => hx0 c hc
  refine law_top (W := W) (k := 2) (T := T_law) (free := freeL) ⟨rfl, by decide, by decide⟩ F_law sc_law hE e0 (bl s [.ref a] rfl) (v := .ref a) rfl fun X hr C => ?_
  have C : CfgOk W.g (W.bf X.A) (GΦ (tab (entL T_law))) X cfL := C
  have Tf : FteC X.K (He.ga K "FitTreesError") := by rw [C.lk.K]; exact Tf
  have gF : X.mg "FitTreesError" = some (.ref (He.ga K "FitTreesError")) := by rw [C.lk.mg]; exact g_FitTreesError
  have r0 : RepL W.g H [.scr ns] [.ref a] := ⟨_, _, rfl, ⟨a, rfl, hS, hlen⟩, rfl⟩
  obtain ⟨S0, no⟩ := init_sr (N := ["script", "purse", "number", "given", "placed", "named", "bare"]) (L2.Same.refl H) r0 (show 1 ≤ 7 by decide)
  have hr2 : Room 2 X.A := hr.mono (by decide)
  rw [show d_law.body = bodyL.take 3 ++ bodyL.drop 3 from (List.take_append_drop 3 _).symm]
  refine all_app tA01 cfL (bodyL.take 3) rfl ckA (bodyL.drop 3) X C _ _ (plain ns) H _ H _ S0 ⟨fun ρ' σ' F' H' q T S' _ => ?_, fun s ρ' σ' F' v H' q _ _ _ _ => q.elim⟩
  obtain ⟨p, n, d, rfl, w7, hM⟩ := q
  obtain ⟨v, hv, rv⟩ := S'.sh 3 d rfl

  exact tail_ok C Tf S' rfl rfl hv hx (by decide +kernel) (by decide +kernel) (by decide +kernel) (by decide +kernel) (by decide +kernel) (by decide +kernel)
    (fun σ2 h => ⟨(show MkE X σ2 v _ (exA W.g 0) from mkE1 (CA := He.ga K "InvalidTable") C D_InvalidTable E_InvalidTable hr2 (by decide +kernel) g_InvalidTable B1_InvalidTable (i := 3) (by decide +kernel) h), ⟨(show MkE X σ2 v _ (exA W.g 1) from mkE1 (CA := He.ga K "InvalidTree") C D_InvalidTree E_InvalidTree hr2 (by decide +kernel) g_InvalidTree B1_InvalidTree (i := 3) (by decide +kernel) h), ⟨(show MkE X σ2 v _ (exA W.g 2) from mkE1 (CA := He.ga K "InvalidName") C D_InvalidName E_InvalidName hr2 (by decide +kernel) g_InvalidName B1_InvalidName (i := 3) (by decide +kernel) h), trivial⟩⟩⟩)
    (fun σ2 h => ⟨(show MkE X σ2 v _ (exA W.g 3) from mkE1 (CA := He.ga K "InvalidNames") C D_InvalidNames E_InvalidNames hr2 (by decide +kernel) g_InvalidNames B1_InvalidNames (i := 3) (by decide +kernel) h), ⟨(show MkE X σ2 v _ (exA W.g 4) from mkE1 (CA := He.ga K "InvalidSign") C D_InvalidSign E_InvalidSign hr2 (by decide +kernel) g_InvalidSign B1_InvalidSign (i := 3) (by decide +kernel) h), ⟨(show MkE X σ2 v _ (exA W.g 5) from mkE1 (CA := He.ga K "InvalidRow") C D_InvalidRow E_InvalidRow hr2 (by decide +kernel) g_InvalidRow B1_InvalidRow (i := 3) (by decide +kernel) h), trivial⟩⟩⟩)
    (fun σ2 h => ⟨(show MkE X σ2 v _ (exA W.g 0) from mkEk (CA := He.ga K "InvalidTable") C D_InvalidTable E_InvalidTable hr2 (by decide +kernel) g_InvalidTable Bk_InvalidTable (i := 3) (by decide +kernel) h), ⟨(show MkE X σ2 v _ (exA W.g 1) from mkEk (CA := He.ga K "InvalidTree") C D_InvalidTree E_InvalidTree hr2 (by decide +kernel) g_InvalidTree Bk_InvalidTree (i := 3) (by decide +kernel) h), ⟨(show MkE X σ2 v _ (exA W.g 2) from mkEk (CA := He.ga K "InvalidName") C D_InvalidName E_InvalidName hr2 (by decide +kernel) g_InvalidName Bk_InvalidName (i := 3) (by decide +kernel) h), trivial⟩⟩⟩)
    (fun σ2 h => ⟨(show MkE X σ2 v _ (exA W.g 3) from mkEk (CA := He.ga K "InvalidNames") C D_InvalidNames E_InvalidNames hr2 (by decide +kernel) g_InvalidNames Bk_InvalidNames (i := 3) (by decide +kernel) h), ⟨(show MkE X σ2 v _ (exA W.g 4) from mkEk (CA := He.ga K "InvalidSign") C D_InvalidSign E_InvalidSign hr2 (by decide +kernel) g_InvalidSign Bk_InvalidSign (i := 3) (by decide +kernel) h), ⟨(show MkE X σ2 v _ (exA W.g 5) from mkEk (CA := He.ga K "InvalidRow") C D_InvalidRow E_InvalidRow hr2 (by decide +kernel) g_InvalidRow Bk_InvalidRow (i := 3) (by decide +kernel) h), trivial⟩⟩⟩)
    (fun σ2 => ⟨(show MkE X σ2 .non _ (exA W.g 0) from mkE0 (CA := He.ga K "InvalidTable") C D_InvalidTable E_InvalidTable hr2 (by decide +kernel) g_InvalidTable B0_InvalidTable), ⟨(show MkE X σ2 .non _ (exA W.g 1) from mkE0 (CA := He.ga K "InvalidTree") C D_InvalidTree E_InvalidTree hr2 (by decide +kernel) g_InvalidTree B0_InvalidTree), ⟨(show MkE X σ2 .non _ (exA W.g 2) from mkE0 (CA := He.ga K "InvalidName") C D_InvalidName E_InvalidName hr2 (by decide +kernel) g_InvalidName B0_InvalidName), ⟨(show MkE X σ2 .non _ (exA W.g 3) from mkE0 (CA := He.ga K "InvalidNames") C D_InvalidNames E_InvalidNames hr2 (by decide +kernel) g_InvalidNames B0_InvalidNames), ⟨(show MkE X σ2 .non _ (exA W.g 4) from mkE0 (CA := He.ga K "InvalidSign") C D_InvalidSign E_InvalidSign hr2 (by decide +kernel) g_InvalidSign B0_InvalidSign), ⟨(show MkE X σ2 .non _ (exA W.g 5) from mkE0 (CA := He.ga K "InvalidRow") C D_InvalidRow E_InvalidRow hr2 (by decide +kernel) g_InvalidRow B0_InvalidRow), trivial⟩⟩⟩⟩⟩⟩)
    rfl rfl rfl rfl rfl (by decide +kernel) gF rfl (by decide +kernel) (by decide +kernel) rfl ck7 w7 rfl ckM ck10
    (by rcases hM with ⟨o, d', a1, a2⟩ | ⟨a1, a2⟩; exact .inl ⟨o _, d', a1, a2⟩; exact .inr ⟨a1, a2⟩)
end FT
section
open PySem PySem.W PySem.Calls PyProof.Rows
theorem FT.law_of (plain : ∀ ns : List Int, FT.LawD ns) : PySem.Challenge.rw_fittrees_k01_errors_made.Holds := by
  w_on; o_law
  refine HandSHeadRun.head_any (r := OpenLaw.row PySem.Challenge.rw_fittrees_k01_errors_made) (q := view (OpenLaw.row PySem.Challenge.rw_fittrees_k01_errors_made).prog [14]) (H := FT.hk) (ob := FT.ob) (M := 4000) (loose := FT.loose) (d := HandSHeadRun.topDef (OpenLaw.row PySem.Challenge.rw_fittrees_k01_errors_made).prog 14) (kwd := []) FT.ob_eq
    (by kernel_rfl) (fun s => by kernel_rfl) FT.run (by kernel_rfl) (by kernel_rfl) (by kernel_rfl) (by rfl) (by first | assumption | decide +kernel) (by decide +kernel) ⟨rfl, rfl, rfl, rfl, rfl, by decide +kernel⟩ ?hw ?hc
  case hw => w_witness2
  case hc =>
    refine FT.walkG (l := PySem.Challenge.rw_fittrees_k01_errors_made) (n := 63) rfl (by decide) (by kernel_rfl) ?F
    intro w mg fa h Y G hmg0
    obtain ⟨K, KX, c⟩ := Y
    have hmg : mg ("law" : PySem.Str) = some (.ref fa) := by
      have e : (HandSHeadRun.topDef (OpenLaw.row PySem.Challenge.rw_fittrees_k01_errors_made).prog 14).name = ("law" : PySem.Str) := by kernel_rfl
      rw [← e]
      exact hmg0
    refine ⟨K, KX, fun H a ns s base hl hS e0 => ?_⟩
    exact FT.facts (P := (PySem.Challenge.rw_fittrees_k01_errors_made).prog) (w := w) KX G hmg c (by kernel_rfl) (by kernel_rfl) plain base s H a ns e0 hS (Nat.le_trans hl (by decide))
end

set_option Elab.async false
set_option linter.all false
set_option maxRecDepth 100000
set_option autoImplicit false
set_option maxHeartbeats 4000000
namespace FT
open PySem PySem.Spec PyProof.Rows L2
local macro_rules
  | `(tactic| erw [$[$ts:term],*]) => `(tactic| simp -implicitDefEqProofs only [↓e_kInt, ↓e_kStr, ↓e_kBl, ↓e_kNon, ↓e_loc, ↓e_bin, ↓e_neg, ↓e_cmp, ↓e_cmp2, ↓e_and, ↓e_or, ↓e_not, ↓e_ife, ↓e_sub, ↓e_slc, ↓e_rev, ↓e_tup, ↓e_lst, ↓e_dic0, ↓e_dic1, ↓e_call, ↓e_bi, ↓e_me, ↓e_mt, ↓e_fld, ↓e_prp, ↓e_eqT, ↓e_isi, ↓e_lc, ↓e_lc2, ↓e_dc, ↓f_kInt, ↓f_kStr, ↓f_kBl, ↓f_kNon, ↓f_loc, ↓f_bin, ↓f_neg, ↓f_cmp, ↓f_cmp2, ↓f_and, ↓f_or, ↓f_not, ↓f_ife, ↓f_sub, ↓f_slc, ↓f_rev, ↓f_tup, ↓f_lst, ↓f_dic0, ↓f_dic1, ↓f_call, ↓f_bi, ↓f_me, ↓f_mt, ↓f_fld, ↓f_prp, ↓f_eqT, ↓f_isi, ↓f_lc, ↓f_lc2, ↓f_dc, ↓r_kInt, ↓r_kStr, ↓r_kBl, ↓r_kNon, ↓r_loc, ↓r_bin, ↓r_neg, ↓r_cmp, ↓r_cmp2, ↓r_and, ↓r_or, ↓r_not, ↓r_ife, ↓r_sub, ↓r_slc, ↓r_rev, ↓r_tup, ↓r_lst, ↓r_dic0, ↓r_dic1, ↓r_call, ↓r_bi, ↓r_me, ↓r_mt, ↓r_fld, ↓r_prp, ↓r_eqT, ↓r_isi, ↓r_lc, ↓r_lc2, ↓r_dc, ↓o_no, ↓o_so, ↓c_no, ↓c_so, ↓a_nil, ↓a_cons, ↓i_val, ↓i_rng1, ↓i_rng2, ↓i_enum, ↓i_zip, ↓s_set, ↓s_setT, ↓s_par2, ↓s_par3, ↓s_put, ↓s_swap, ↓s_ex, ↓s_ret, ↓s_retN, ↓s_pass, ↓s_ifs, ↓s_for, ↓s_whl, ↓b_cons, ↓b_nil, ↓b_lcSt, ↓b_lcIn, ↓b_lcOut, ↓b_dcSt, ↓b_forSt, ↓b_whlT, ↓t_nm, ↓t_tp, ↓oc_nx, ↓oc_rt, ↓if_t, ↓if_f, ↓cs_c, bn_some, Kt.f, Th.v, KO.nx, KO.rt, bool_bl, int_int, lst_lst, grd_t, fh_i, fh_s, fh_t, fh_l, nott, notf, ↓lo_s0, ↓lo_o0, ↓cu_s0, ↓cu_o0, ↓fr_s0, ↓fr_o0, ↓ow_o0, ↓sh_s0, ↓un_s0, ↓un_o0, ↓se_0, ↓ba_0, ↓st_s0, ↓st_o0, ↓lo_s1, ↓lo_o1, ↓cu_s1, ↓cu_o1, ↓fr_s1, ↓fr_o1, ↓ow_o1, ↓sh_s1, ↓un_s1, ↓un_o1, ↓se_1, ↓ba_1, ↓st_s1, ↓st_o1, ↓lo_s2, ↓lo_o2, ↓cu_s2, ↓cu_o2, ↓fr_s2, ↓fr_o2, ↓ow_o2, ↓sh_s2, ↓un_s2, ↓un_o2, ↓se_2, ↓ba_2, ↓st_s2, ↓st_o2, ↓lo_s3, ↓lo_o3, ↓cu_s3, ↓cu_o3, ↓fr_s3, ↓fr_o3, ↓ow_o3, ↓sh_s3, ↓un_s3, ↓un_o3, ↓se_3, ↓ba_3, ↓st_s3, ↓st_o3, ↓lo_s4, ↓lo_o4, ↓cu_s4, ↓cu_o4, ↓fr_s4, ↓fr_o4, ↓ow_o4, ↓sh_s4, ↓un_s4, ↓un_o4, ↓se_4, ↓ba_4, ↓st_s4, ↓st_o4, ↓lo_s5, ↓lo_o5, ↓cu_s5, ↓cu_o5, ↓fr_s5, ↓fr_o5, ↓ow_o5, ↓sh_s5, ↓un_s5, ↓un_o5, ↓se_5, ↓ba_5, ↓st_s5, ↓st_o5, ↓lo_s6, ↓lo_o6, ↓cu_s6, ↓cu_o6, ↓fr_s6, ↓fr_o6, ↓ow_o6, ↓sh_s6, ↓un_s6, ↓un_o6, ↓se_6, ↓ba_6, ↓st_s6, ↓st_o6, ↓lo_s7, ↓lo_o7, ↓cu_s7, ↓cu_o7, ↓fr_s7, ↓fr_o7, ↓ow_o7, ↓sh_s7, ↓un_s7, ↓un_o7, ↓se_7, ↓ba_7, ↓st_s7, ↓st_o7, ↓lo_s8, ↓lo_o8, ↓cu_s8, ↓cu_o8, ↓fr_s8, ↓fr_o8, ↓ow_o8, ↓sh_s8, ↓un_s8, ↓un_o8, ↓se_8, ↓ba_8, ↓st_s8, ↓st_o8, ↓lo_s9, ↓lo_o9, ↓cu_s9, ↓cu_o9, ↓fr_s9, ↓fr_o9, ↓ow_o9, ↓sh_s9, ↓un_s9, ↓un_o9, ↓se_9, ↓ba_9, ↓st_s9, ↓st_o9, ↓lo_s10, ↓lo_o10, ↓cu_s10, ↓cu_o10, ↓fr_s10, ↓fr_o10, ↓ow_o10, ↓sh_s10, ↓un_s10, ↓un_o10, ↓se_10, ↓ba_10, ↓st_s10, ↓st_o10, ↓lo_s11, ↓lo_o11, ↓cu_s11, ↓cu_o11, ↓fr_s11, ↓fr_o11, ↓ow_o11, ↓sh_s11, ↓un_s11, ↓un_o11, ↓se_11, ↓ba_11, ↓st_s11, ↓st_o11, ↓lo_s12, ↓lo_o12, ↓cu_s12, ↓cu_o12, ↓fr_s12, ↓fr_o12, ↓ow_o12, ↓sh_s12, ↓un_s12, ↓un_o12, ↓se_12, ↓ba_12, ↓st_s12, ↓st_o12, ↓lo_s13, ↓lo_o13, ↓cu_s13, ↓cu_o13, ↓fr_s13, ↓fr_o13, ↓ow_o13, ↓sh_s13, ↓un_s13, ↓un_o13, ↓se_13, ↓ba_13, ↓st_s13, ↓st_o13, ↓lo_s14, ↓lo_o14, ↓cu_s14, ↓cu_o14, ↓fr_s14, ↓fr_o14, ↓ow_o14, ↓sh_s14, ↓un_s14, ↓un_o14, ↓se_14, ↓ba_14, ↓st_s14, ↓st_o14, ↓lo_s15, ↓lo_o15, ↓cu_s15, ↓cu_o15, ↓fr_s15, ↓fr_o15, ↓ow_o15, ↓sh_s15, ↓un_s15, ↓un_o15, ↓se_15, ↓ba_15, ↓st_s15, ↓st_o15, ↓lo_s16, ↓lo_o16, ↓cu_s16, ↓cu_o16, ↓fr_s16, ↓fr_o16, ↓ow_o16, ↓sh_s16, ↓un_s16, ↓un_o16, ↓se_16, ↓ba_16, ↓st_s16, ↓st_o16, ↓lo_s17, ↓lo_o17, ↓cu_s17, ↓cu_o17, ↓fr_s17, ↓fr_o17, ↓ow_o17, ↓sh_s17, ↓un_s17, ↓un_o17, ↓se_17, ↓ba_17, ↓st_s17, ↓st_o17, ↓lo_s18, ↓lo_o18, ↓cu_s18, ↓cu_o18, ↓fr_s18, ↓fr_o18, ↓ow_o18, ↓sh_s18, ↓un_s18, ↓un_o18, ↓se_18, ↓ba_18, ↓st_s18, ↓st_o18, ↓lo_s19, ↓lo_o19, ↓cu_s19, ↓cu_o19, ↓fr_s19, ↓fr_o19, ↓ow_o19, ↓sh_s19, ↓un_s19, ↓un_o19, ↓se_19, ↓ba_19, ↓st_s19, ↓st_o19, ↓lo_s20, ↓lo_o20, ↓cu_s20, ↓cu_o20, ↓fr_s20, ↓fr_o20, ↓ow_o20, ↓sh_s20, ↓un_s20, ↓un_o20, ↓se_20, ↓ba_20, ↓st_s20, ↓st_o20, ↓lo_s21, ↓lo_o21, ↓cu_s21, ↓cu_o21, ↓fr_s21, ↓fr_o21, ↓ow_o21, ↓sh_s21, ↓un_s21, ↓un_o21, ↓se_21, ↓ba_21, ↓st_s21, ↓st_o21, ↓lo_s22, ↓lo_o22, ↓cu_s22, ↓cu_o22, ↓fr_s22, ↓fr_o22, ↓ow_o22, ↓sh_s22, ↓un_s22, ↓un_o22, ↓se_22, ↓ba_22, ↓st_s22, ↓st_o22, ↓lo_s23, ↓lo_o23, ↓cu_s23, ↓cu_o23, ↓fr_s23, ↓fr_o23, ↓ow_o23, ↓sh_s23, ↓un_s23, ↓un_o23, ↓se_23, ↓ba_23, ↓st_s23, ↓st_o23, ↓lo_s24, ↓lo_o24, ↓cu_s24, ↓cu_o24, ↓fr_s24, ↓fr_o24, ↓ow_o24, ↓sh_s24, ↓un_s24, ↓un_o24, ↓se_24, ↓ba_24, ↓st_s24, ↓st_o24, ↓lo_s25, ↓lo_o25, ↓cu_s25, ↓cu_o25, ↓fr_s25, ↓fr_o25, ↓ow_o25, ↓sh_s25, ↓un_s25, ↓un_o25, ↓se_25, ↓ba_25, ↓st_s25, ↓st_o25, ↓cu_n, ↓fr_n, ↓ba_n, ↓wi_n, ↓wi_c, ↓sl_n, ↓sl_c, ↓cs_n, ↓fs_n, ↓fs_c, ↓st_n, ↓fl_nor, ↓fl_flt, ↓fl_lst, ↓fl_dic, ↓fl_non, ↓fl_bl, ↓fl_tup, ↓sd_s, ↓sd_o, ↓endf_rt, ↓endf_nx, ↓endt_rt, ↓endt_nx, ↓gu_t, ↓ok_nor, ↓ok_flt, ↓ok_fre_s, ↓ok_fre_o, ↓fl_1, ↓fl_2, ↓fl_3, ↓fl_4, ↓fl_5, ↓fl_6, ↓fl_7, ↓isi_own, ↓isi_str, ↓isi_lst, ↓isi_tup, ↓fields_ins, ↓keyD, ↓partD, ↓meTy, ↓mtTy, lenL, lenS, lenK, lenR, cIs, cIsN, cLt, cLe, cGt, cGe, bAdd, bSub, iter_lst, iter_tup, iter_mS, iterS_lst, iterS_mS, cE_str, cN_str, cE_int, cN_int, isNon, ↓xc__law_purse, ↓xc__law_draw, ↓ph__law_pick__law_draw, ↓xc__law_pick, ↓xc_is_name, ↓ph_are_names_is_name, ↓xc_are_names, ↓xc_in_order, ↓xc_is_sign, ↓ph_is_row_is_sign, ↓xc_is_row, ↓ph_are_fields_tables_are_names, ↓ph_are_fields_tables_is_row, ↓xc_are_fields_tables, ↓xc_Table, ↓xc_Table_kinds, ↓xc_Table_marks, ↓xc_Table_rows, ↓xc_Table_eq, ↓xc_check_table, ↓xc_check_name, ↓ph_check_names_are_names, ↓xc_check_names, ↓ph_table_with_Table, ↓xc_table_with, ↓ph_sign_check_name, ↓ph_sign_check_table, ↓xc_sign, ↓xc_put, ↓ph_unknown_check_table, ↓xc_unknown, ↓ph_part_check_names, ↓ph_part_check_table, ↓ph_part_table_with, ↓xc_part, ↓ph_joined_check_table, ↓ph_joined_table_with, ↓xc_joined, ↓ph_fills_check_table, ↓ph_fills_unknown, ↓xc_fills, ↓xc_owners, ↓xc_are_nested, ↓ph_is_nested_are_nested, ↓ph_is_nested_check_table, ↓ph_is_nested_owners, ↓ph_is_nested_unknown, ↓xc_is_nested, ↓ph_is_told_is_name, ↓xc_is_told, ↓ph_are_fields_trees_is_told, ↓xc_are_fields_trees, ↓xc_Tree, ↓xc_Tree_marks, ↓xc_Tree_kinds, ↓xc_Tree_eq, ↓xc_check_tree, ↓xc_up_from, ↓ph_above_check_name, ↓ph_above_check_tree, ↓ph_above_up_from, ↓xc_above, ↓ph_has_check_name, ↓ph_has_check_tree, ↓ph_has_up_from, ↓xc_has, ↓ph_meeting_check_name, ↓ph_meeting_check_tree, ↓ph_meeting_up_from, ↓xc_meeting, ↓ph_way_check_name, ↓ph_way_check_tree, ↓ph_way_up_from, ↓xc_way, ↓ph_table_of_Table, ↓ph_table_of_check_tree, ↓ph_table_of_up_from, ↓xc_table_of, ↓ph__law_names__law_draw, ↓ph__law_names__law_pick, ↓xc__law_names, ↓ph__law_tree_fields__law_pick, ↓xc__law_tree_fields, ↓xc__law_up, ↓ph__law_tree_rows__law_up, ↓xc__law_tree_rows, ↓ph__law_hidden__law_draw, ↓xc__law_hidden, ↓ph__law_table__law_draw, ↓ph__law_table__law_hidden, ↓ph__law_table__law_names, ↓ph__law_table__law_pick, ↓ph__law_table__law_tree_fields, ↓ph__law_table__law_tree_rows, ↓xc__law_table, ↓ph__law_made_Table, ↓xc__law_made, ↓xc__law_called, ↓ph__law_turned_about__law_draw, ↓xc__law_turned_about, ↓xc__law_sign, ↓xc__law_owners, ↓ph__law_are_nested__law_owners, ↓xc__law_are_nested, ↓ph__law_is_nested__law_are_nested, ↓xc__law_is_nested, ↓xc__law_sorted, ↓xc_piece_from, ↓ph_pieces_piece_from, ↓xc_pieces, ↓xc_free_marks, ↓ph_sets_or_lot_free_marks, ↓ph_sets_or_lot_pieces, ↓xc_sets_or_lot, ↓ph_can_fit_sets_or_lot, ↓xc_can_fit, ↓ph_fits_can_fit, ↓ph_fits_check_table, ↓ph_fits_Table_marks, ↓ph_fits_Table_rows, ↓xc_fits, ↓ph_tree_of_sets_Tree, ↓ph_tree_of_sets_Table_kinds, ↓ph_tree_of_sets_Table_marks, ↓xc_tree_of_sets, ↓ph_tree_or_lot_check_table, ↓ph_tree_or_lot_sets_or_lot, ↓ph_tree_or_lot_tree_of_sets, ↓ph_tree_or_lot_Table_kinds, ↓ph_tree_or_lot_Table_marks, ↓ph_tree_or_lot_Table_rows, ↓xc_tree_or_lot, ↓ph__law_due_rows__law_sign, ↓ph__law_due_rows__law_sorted, ↓xc__law_due_rows, ↓ph__law_plain__law_due_rows, ↓ph__law_plain__law_sorted, ↓xc__law_plain, ↓xc__law_few_unknown, ↓ph__law_small_table__law_few_unknown, ↓ph__law_small_table__law_table, ↓xc__law_small_table, ↓xc__law_fillings, ↓ph__law_good_fillings__law_fillings, ↓ph__law_good_fillings__law_is_nested, ↓xc__law_good_fillings, ↓xc__law_hangs, ↓ph__law_is_lot__law_hangs, ↓xc__law_is_lot, ↓ph_is_lot_check_names, ↓ph_is_lot_check_table, ↓ph_is_lot_piece_from, ↓ph_is_lot_Table_kinds, ↓ph_is_lot_Table_marks, ↓ph_is_lot_Table_rows, ↓xc_is_lot, ↓xc__law_sets, ↓xc_part_of, ↓ph_lot_within_can_fit, ↓ph_lot_within_part_of, ↓xc_lot_within, ↓ph_lean_lot_check_table, ↓ph_lean_lot_fits, ↓ph_lean_lot_lot_within, ↓ph_lean_lot_Table_kinds, ↓ph_lean_lot_Table_marks, ↓ph_lean_lot_Table_rows, ↓xc_lean_lot, ↓xc_changed, ↓xc_unknown_places, ↓ph_sure_can_fit, ↓ph_sure_changed, ↓ph_sure_check_table, ↓ph_sure_unknown_places, ↓ph_sure_Table_kinds, ↓ph_sure_Table_marks, ↓ph_sure_Table_rows, ↓xc_sure, ↓ph_takes_can_fit, ↓ph_takes_check_table, ↓ph_takes_is_row, ↓ph_takes_Table_marks, ↓ph_takes_Table_rows, ↓xc_takes, ↓xc_subsets, ↓ph_clashes_can_fit, ↓ph_clashes_check_table, ↓ph_clashes_part_of, ↓ph_clashes_subsets, ↓ph_clashes_Table_kinds, ↓ph_clashes_Table_marks, ↓ph_clashes_Table_rows, ↓xc_clashes, ↓xc_without, ↓ph_fewest_marks_can_fit, ↓ph_fewest_marks_check_table, ↓ph_fewest_marks_part_of, ↓ph_fewest_marks_subsets, ↓ph_fewest_marks_without, ↓ph_fewest_marks_Table_kinds, ↓ph_fewest_marks_Table_marks, ↓ph_fewest_marks_Table_rows, ↓xc_fewest_marks, ↓ph_fewest_kinds_can_fit, ↓ph_fewest_kinds_check_table, ↓ph_fewest_kinds_part_of, ↓ph_fewest_kinds_subsets, ↓ph_fewest_kinds_without, ↓ph_fewest_kinds_Table_kinds, ↓ph_fewest_kinds_Table_marks, ↓ph_fewest_kinds_Table_rows, ↓xc_fewest_kinds, ↓ph_counted_can_fit, ↓ph_counted_changed, ↓ph_counted_check_table, ↓ph_counted_unknown_places, ↓ph_counted_Table_marks, ↓ph_counted_Table_rows, ↓xc_counted, ↓ph_check_filled_check_table, ↓ph_check_filled_unknown_places, ↓ph_check_filled_Table_rows, ↓xc_check_filled, ↓ph_four_check_filled, ↓ph_four_part_of, ↓ph_four_subsets, ↓ph_four_Table_kinds, ↓ph_four_Table_marks, ↓ph_four_Table_rows, ↓xc_four, ↓ph_turned_Table, ↓ph_turned_check_filled, ↓ph_turned_check_name, ↓ph_turned_Table_kinds, ↓ph_turned_Table_marks, ↓ph_turned_Table_rows, ↓xc_turned, $[$ts:term],*])
theorem if_by {β : Type} {c : Bool} {A B : Th β} {P : β → Prop} (h1 : c = true → Ok A.v P) (h2 : c = false → Ok B.v P) : Ok (@ifI _ c A B) P := by
  cases c with
  | true => exact h1 rfl
  | false => exact h2 rfl
theorem ok_some {β : Type} {x : β} {P : β → Prop} : Ok (some x) P ↔ P x := ⟨fun ⟨_, e, h⟩ => by cases e; exact h, fun h => ⟨_, rfl, h⟩⟩
theorem bModL {i j : Int} (h : j ≠ 0) : binD .Mod (.int i) (.int j) = some (.int (i.fmod j)) := by
  rw [bMod, decide_eq_true h]; rfl
theorem bDivL {i j : Int} (h : j ≠ 0) (h2 : j.natAbs < 1073741824) : binD .FloorDiv (.int i) (.int j) = some (.int (i.fdiv j)) := by
  rw [bDiv, decide_eq_true h, decide_eq_true h2]; rfl
theorem bMulL {i j : Int} (h : -(2 ^ 64) < i) (h2 : i < 2 ^ 64) : binD .Mult (.int i) (.int j) = some (.int (i * j)) := by
  show (bif decide (-(2 ^ 64) < i) && decide (i < 2 ^ 64) then some (D.int (i * j)) else none) = _
  rw [decide_eq_true h, decide_eq_true h2]; rfl
theorem bPowL {i j : Int} (h : 0 ≤ j) (h2 : j ≤ 1000) (h3 : i.natAbs < 2 ^ 200) : binD .Pow (.int i) (.int j) = some (.int (i ^ j.toNat)) := by
  show (bif decide (0 ≤ j) && decide (j ≤ 1000) && decide (i.natAbs < 2 ^ 200) then some (D.int (i ^ j.toNat)) else none) = _
  rw [decide_eq_true h, decide_eq_true h2, decide_eq_true h3]; rfl
theorem biInt (i : Int) : biD .int [.int i] = some (.sh (.int i)) := rfl
theorem st0 (x y : D) (l : List D) : stD (.lst (x :: l)) (.int 0) y = some (.lst (y :: l)) := by
  show (ixN (x :: l).length 0).map _ = _
  unfold ixN
  rw [if_pos (by omega), if_pos (by simp only [List.length_cons]; omega)]; rfl
theorem st2 (x y z w : D) (l : List D) : stD (.lst (x :: y :: z :: l)) (.int 2) w = some (.lst (x :: y :: w :: l)) := by
  show (ixN (x :: y :: z :: l).length 2).map _ = _
  unfold ixN
  rw [if_pos (by omega), if_pos (by simp only [List.length_cons]; omega)]; rfl
/-! ### the purse -/
structure Pu where
  a : Int
  b : Int
  c : Int
abbrev puD (p : Pu) : D := .lst [.int p.a, .int p.b, .int p.c]
/-- so many draws are left at least -/
structure PuOK (n : Nat) (p : Pu) : Prop where
  b0 : 0 ≤ p.b
  b1 : p.b < 2147483629
  c0 : 0 ≤ p.c
  c1 : p.c + n ≤ 1000000
theorem PuOK.le {m n : Nat} {p : Pu} (h : PuOK n p) (l : m ≤ n) : PuOK m p := ⟨h.b0, h.b1, h.c0, by have := h.c1; omega⟩
theorem draw_ok {n : Nat} {m : Nat} {p : Pu} (h : PuOK (m + 1) p) (h0 : 0 < n) (h1 : n < 1073741824) :
    Ok (pf__law_draw.f [puD p, dN n]) fun r => ∃ k p', r = (dN k, puD p') ∧ k < n ∧ PuOK m p' := by
  obtain ⟨hb0, hb1, hc0, hc1⟩ := h
  have hn : (n : Int) ≠ 0 := by omega
  have hn2 : (n : Int).natAbs < 1073741824 := by omega
  erw [op__law_draw, tr__law_draw, ixL0]
  refine if_by (fun e => ?_) (fun e => ?_)
  · erw [ixL0, st0, biInt, bModL hn, bDivL hn hn2, ok_some]
    have := Int.fmod_nonneg_of_pos p.a (show (0 : Int) < n by omega)
    have h3 := Int.fmod_lt_of_pos p.a (show (0 : Int) < n by omega)
    exact ⟨(p.a.fmod n).toNat, ⟨p.a.fdiv n, p.b, p.c⟩, by rw [dN, Int.toNat_of_nonneg this], by omega, hb0, hb1, hc0, by show p.c + (m : Int) ≤ 1000000; omega⟩
  · have e1 : (0 : Int) ≤ p.c + 1 := by omega
    have e2 : p.c + 1 ≤ 1000000 := by omega
    erw [ixL0, ixL1, ixL2, st2]
    generalize hq : p.c + 1 = q at e1 e2
    erw [ixL0, ixL1, ixL2, st2, bMulL (i := 104729) (j := q) (by decide) (by decide), bMulL (i := q) (j := q) (by omega) (by omega)]
    erw [bMulL (i := p.b + 104729 * q) (j := q * q + 7919) (by omega) (by omega), biInt, bModL (j := 2147483629) (by decide)]
    have g1 := Int.fmod_nonneg_of_pos ((p.b + 104729 * q) * (q * q + 7919)) (show (0 : Int) < 2147483629 by decide)
    have g2 := Int.fmod_lt_of_pos ((p.b + 104729 * q) * (q * q + 7919)) (show (0 : Int) < 2147483629 by decide)
    generalize ((p.b + 104729 * q) * (q * q + 7919)).fmod 2147483629 = y at g1 g2
    erw [bMulL (i := y) (j := y) (by omega) (by omega), biInt, bModL (j := 2147483587) (by decide)]
    have g3 := Int.fmod_nonneg_of_pos (y * y + q) (show (0 : Int) < 2147483587 by decide)
    have g4 := Int.fmod_lt_of_pos (y * y + q) (show (0 : Int) < 2147483587 by decide)
    generalize (y * y + q).fmod 2147483587 = z at g3 g4
    erw [bMulL (i := z) (j := 48271) (by omega) (by omega), biInt, bModL (j := 2147483647) (by decide), bDivL (j := 64) (by decide) (by decide), bModL hn, ok_some]
    generalize ((z * 48271).fmod 2147483647).fdiv 64 = w
    have := Int.fmod_nonneg_of_pos w (show (0 : Int) < n by omega)
    have h3 := Int.fmod_lt_of_pos w (show (0 : Int) < n by omega)
    refine ⟨(w.fmod n).toNat, ⟨p.a, p.b, q⟩, by rw [dN, Int.toNat_of_nonneg this], by omega, hb0, hb1, by show 0 ≤ q; omega, by show q + m ≤ _; omega⟩
theorem pick_ok {m : Nat} {p : Pu} {ds : List D} (h : PuOK (m + 1) p) (h0 : ds ≠ []) (h1 : ds.length < 1073741824) :
    Ok (pf__law_pick.f [puD p, .lst ds]) fun r => ∃ (k : Nat) (p' : Pu) (x : D), r = (x, puD p') ∧ ds[k]? = some x ∧ PuOK m p' := by
  have h0' : 0 < ds.length := List.length_pos_iff.mpr h0
  erw [op__law_pick, tr__law_pick]
  refine Ok.bn (draw_ok h h0' h1) ?_
  rintro _ ⟨k, p', rfl, hk, hp⟩
  have e : ixD (.lst ds) (.int (k : Int)) = some ds[k] := by
    have := ixL id ds (n := k) (x := ds[k]) (by rw [List.getElem?_eq_getElem hk])
    rwa [List.map_id] at this
  erw [e, ok_some]
  exact ⟨k, p', _, rfl, by rw [List.getElem?_eq_getElem hk], hp⟩
theorem atI_neg {α : Type} (xs : List α) (n : Nat) (h : n < xs.length) : atI xs (n : Int) = some xs[n] := by rw [atI_natE, List.getElem?_eq_getElem h]
theorem purse_ok (ns : List Int) (k : Nat) (hk : k < 100) : Ok (pf__law_purse.f [.scr ns, dN k]) fun r => ∃ p, r = (puD p, .non) ∧ PuOK 1000000 p := by
  erw [op__law_purse, tr__law_purse]
  have key : ∀ cell : Int, ∃ r, @bnI _ _ (xB (tab (entL T__law_purse)) (.cons (.ret (.lst (.cons (.bin .Mod (.bi .int (.cons (.bi .max (.cons (.bin .Sub (.loc 2) (.bin .Pow (.kInt 10) (.kInt 18))) (.cons (.kInt 0) .nil))) .nil)) (.bin .Pow (.bin .Pow (.kInt 10) (.kInt 40)) (.kInt 10))) (.cons (.bin .Mod (.bi .int (.cons (.bin .Add (.loc 2) (.bin .Mult (.kInt 7919) (.loc 1))) .nil)) (.kInt 2147483629)) (.cons (.kInt 0) .nil)))))
 .nil) [.sh (.scr ns), .sh (dN k), .sh (.int cell)]) ⟨endF false .fre⟩ = some r ∧ ∃ p, r = (puD p, .non) ∧ PuOK 1000000 p := by
    intro cell
    have em : ∀ i j : Int, biD .max [.int i, .int j] = some (.sh (.int (if j > i then j else i))) := fun _ _ => rfl
    erw [em, biInt, bPowL (i := 10) (j := 18) (by decide) (by decide) (by decide), bPowL (i := 10) (j := 40) (by decide) (by decide) (by decide)]
    erw [em, biInt, bPowL (i := 10 ^ (Int.toNat 40)) (j := 10) (by decide) (by decide) (by decide +kernel)]
    have e0 : ((10 : Int) ^ (Int.toNat 40)) ^ (Int.toNat 10) ≠ 0 := by decide +kernel
    erw [bModL e0, biInt, bMulL (i := 7919) (j := (k : Int)) (by decide) (by decide), bModL (j := 2147483629) (by decide), Option.some.injEq]
    refine ⟨_, rfl, ⟨_, _, _⟩, rfl, ?_, ?_, ?_, ?_⟩
    · exact Int.fmod_nonneg_of_pos _ (by decide)
    · exact Int.fmod_lt_of_pos _ (by decide)
    · exact Int.le_refl _
    · exact Int.le_refl _
  refine if_by (fun e => ?_) (fun e => ?_)
  · have hl : k < ns.length := by have := of_decide_eq_true e; omega
    have e2 : ixD (.scr ns) (.int (k : Int)) = some (.int ns[k]) := by
      show (atI ns _).map _ = _
      rw [atI_neg ns k hl]; rfl
    erw [e2]
    exact key _
  · erw [bn_some]
    exact key 0
end FT

set_option Elab.async false
set_option linter.all false
set_option maxRecDepth 100000
set_option autoImplicit false
set_option maxHeartbeats 4000000
namespace FT
open PySem PySem.Spec PyProof.Rows L2
def isT9 (o : Option (D × D)) : Bool := match o with
  | some (.bl true, .non) => true
  | _ => false
theorem isT9_ok {o : Option (D × D)} (h : isT9 o = true) : o = some (.bl true, .non) := by
  unfold isT9 at h
  split at h
  · rfl
  · cases h
theorem r_non : pf__law_right.f [exD .non, .non] = some (.bl true, .non) := isT9_ok (by decide +kernel)
theorem r_tru : pf__law_right.f [exD (.bl true), .bl true] = some (.bl true, .non) := isT9_ok (by decide +kernel)
theorem rr_tup : pf__law_right.f [exD (.tup []), .tup []] = some (.bl true, .non) := isT9_ok (by decide +kernel)
theorem r_dic : pf__law_right.f [exD (.dic []), .dic []] = some (.bl true, .non) := isT9_ok (by decide +kernel)
def d_m : D := .dic [(.inr (Str.ofString "more"), .int 1)]
theorem r_dicm : pf__law_right.f [exD d_m, d_m] = some (.bl true, .non) := isT9_ok (by decide +kernel)
def d_two : D := .lst [.lst [], .lst [.str (Str.ofString "a")]]
theorem r_two : pf__law_right.f [exD d_two, d_two] = some (.bl true, .non) := isT9_ok (by decide +kernel)
def d_twom : D := .lst [.lst [], .lst [.str (Str.ofString "a")], .str (Str.ofString "more")]
theorem r_twom : pf__law_right.f [exD d_twom, d_twom] = some (.bl true, .non) := isT9_ok (by decide +kernel)
theorem m_two : xB (tab (entL T_law)) tM01 (sl7 .un .un .un (.ow d_two) .un .un .un) = some (.nx (sl7 .un .un .un (.ow d_twom) .un .un .un)) := by kernel_rfl
theorem m_dic : xB (tab (entL T_law)) tM01 (sl7 .un .un .un (.ow (.dic [])) .un .un .un) = some (.nx (sl7 .un .un .un (.ow d_m) .un .un .un)) := by kernel_rfl
theorem m_int (n : Int) : xB (tab (entL T_law)) tM01 (sl7 .un .un .un (.ow (.lst [.int n])) .un .un .un) = some (.nx (sl7 .un .un .un (.ow (.lst [.int n, .str (Str.ofString "more")])) .un .un .un)) := by kernel_rfl
theorem m_i (n : Int) : xB (tab (entL T_law)) tM01 (sl7 .un .un .un (.sh (.int n)) .un .un .un) = some (.nx (sl7 .un .un .un (.sh (.int n)) .un .un .un)) := by kernel_rfl
theorem m_s (x : Str) : xB (tab (entL T_law)) tM01 (sl7 .un .un .un (.sh (.str x)) .un .un .un) = some (.nx (sl7 .un .un .un (.sh (.str x)) .un .un .un)) := by kernel_rfl
theorem m_non : xB (tab (entL T_law)) tM01 (sl7 .un .un .un (.sh .non) .un .un .un) = some (.nx (sl7 .un .un .un (.sh .non) .un .un .un)) := by kernel_rfl
theorem m_tru : xB (tab (entL T_law)) tM01 (sl7 .un .un .un (.sh (.bl true)) .un .un .un) = some (.nx (sl7 .un .un .un (.sh (.bl true)) .un .un .un)) := by kernel_rfl
theorem m_tup : xB (tab (entL T_law)) tM01 (sl7 .un .un .un (.sh (.tup [])) .un .un .un) = some (.nx (sl7 .un .un .un (.sh (.tup [])) .un .un .un)) := by kernel_rfl
def strs9 : List Str := (List.range 9).map fun k => ⟨(List.replicate k 120).toArray⟩
theorem r_str : ∀ x ∈ strs9, pf__law_right.f [exD (.str x), .str x] = some (.bl true, .non) := by
  have : (strs9.all fun x => isT9 (pf__law_right.f [exD (.str x), .str x])) = true := by decide +kernel
  exact fun x hx => isT9_ok (List.all_eq_true.mp this x hx)
end FT

set_option Elab.async false
set_option linter.all false
set_option maxRecDepth 100000
set_option autoImplicit false
set_option maxHeartbeats 4000000
namespace FT
open PySem PySem.Spec PyProof.Rows L2
local macro_rules
  | `(tactic| erw [$[$ts:term],*]) => `(tactic| simp -implicitDefEqProofs only [↓e_kInt, ↓e_kStr, ↓e_kBl, ↓e_kNon, ↓e_loc, ↓e_bin, ↓e_neg, ↓e_cmp, ↓e_cmp2, ↓e_and, ↓e_or, ↓e_not, ↓e_ife, ↓e_sub, ↓e_slc, ↓e_rev, ↓e_tup, ↓e_lst, ↓e_dic0, ↓e_dic1, ↓e_call, ↓e_bi, ↓e_me, ↓e_mt, ↓e_fld, ↓e_prp, ↓e_eqT, ↓e_isi, ↓e_lc, ↓e_lc2, ↓e_dc, ↓f_kInt, ↓f_kStr, ↓f_kBl, ↓f_kNon, ↓f_loc, ↓f_bin, ↓f_neg, ↓f_cmp, ↓f_cmp2, ↓f_and, ↓f_or, ↓f_not, ↓f_ife, ↓f_sub, ↓f_slc, ↓f_rev, ↓f_tup, ↓f_lst, ↓f_dic0, ↓f_dic1, ↓f_call, ↓f_bi, ↓f_me, ↓f_mt, ↓f_fld, ↓f_prp, ↓f_eqT, ↓f_isi, ↓f_lc, ↓f_lc2, ↓f_dc, ↓r_kInt, ↓r_kStr, ↓r_kBl, ↓r_kNon, ↓r_loc, ↓r_bin, ↓r_neg, ↓r_cmp, ↓r_cmp2, ↓r_and, ↓r_or, ↓r_not, ↓r_ife, ↓r_sub, ↓r_slc, ↓r_rev, ↓r_tup, ↓r_lst, ↓r_dic0, ↓r_dic1, ↓r_call, ↓r_bi, ↓r_me, ↓r_mt, ↓r_fld, ↓r_prp, ↓r_eqT, ↓r_isi, ↓r_lc, ↓r_lc2, ↓r_dc, ↓o_no, ↓o_so, ↓c_no, ↓c_so, ↓a_nil, ↓a_cons, ↓i_val, ↓i_rng1, ↓i_rng2, ↓i_enum, ↓i_zip, ↓s_set, ↓s_setT, ↓s_par2, ↓s_par3, ↓s_put, ↓s_swap, ↓s_ex, ↓s_ret, ↓s_retN, ↓s_pass, ↓s_ifs, ↓s_for, ↓s_whl, ↓b_cons, ↓b_nil, ↓b_lcSt, ↓b_lcIn, ↓b_lcOut, ↓b_dcSt, ↓b_forSt, ↓b_whlT, ↓t_nm, ↓t_tp, ↓oc_nx, ↓oc_rt, ↓if_t, ↓if_f, ↓cs_c, bn_some, Kt.f, Th.v, KO.nx, KO.rt, bool_bl, int_int, lst_lst, grd_t, fh_i, fh_s, fh_t, fh_l, nott, notf, ↓lo_s0, ↓lo_o0, ↓cu_s0, ↓cu_o0, ↓fr_s0, ↓fr_o0, ↓ow_o0, ↓sh_s0, ↓un_s0, ↓un_o0, ↓se_0, ↓ba_0, ↓st_s0, ↓st_o0, ↓lo_s1, ↓lo_o1, ↓cu_s1, ↓cu_o1, ↓fr_s1, ↓fr_o1, ↓ow_o1, ↓sh_s1, ↓un_s1, ↓un_o1, ↓se_1, ↓ba_1, ↓st_s1, ↓st_o1, ↓lo_s2, ↓lo_o2, ↓cu_s2, ↓cu_o2, ↓fr_s2, ↓fr_o2, ↓ow_o2, ↓sh_s2, ↓un_s2, ↓un_o2, ↓se_2, ↓ba_2, ↓st_s2, ↓st_o2, ↓lo_s3, ↓lo_o3, ↓cu_s3, ↓cu_o3, ↓fr_s3, ↓fr_o3, ↓ow_o3, ↓sh_s3, ↓un_s3, ↓un_o3, ↓se_3, ↓ba_3, ↓st_s3, ↓st_o3, ↓lo_s4, ↓lo_o4, ↓cu_s4, ↓cu_o4, ↓fr_s4, ↓fr_o4, ↓ow_o4, ↓sh_s4, ↓un_s4, ↓un_o4, ↓se_4, ↓ba_4, ↓st_s4, ↓st_o4, ↓lo_s5, ↓lo_o5, ↓cu_s5, ↓cu_o5, ↓fr_s5, ↓fr_o5, ↓ow_o5, ↓sh_s5, ↓un_s5, ↓un_o5, ↓se_5, ↓ba_5, ↓st_s5, ↓st_o5, ↓lo_s6, ↓lo_o6, ↓cu_s6, ↓cu_o6, ↓fr_s6, ↓fr_o6, ↓ow_o6, ↓sh_s6, ↓un_s6, ↓un_o6, ↓se_6, ↓ba_6, ↓st_s6, ↓st_o6, ↓lo_s7, ↓lo_o7, ↓cu_s7, ↓cu_o7, ↓fr_s7, ↓fr_o7, ↓ow_o7, ↓sh_s7, ↓un_s7, ↓un_o7, ↓se_7, ↓ba_7, ↓st_s7, ↓st_o7, ↓lo_s8, ↓lo_o8, ↓cu_s8, ↓cu_o8, ↓fr_s8, ↓fr_o8, ↓ow_o8, ↓sh_s8, ↓un_s8, ↓un_o8, ↓se_8, ↓ba_8, ↓st_s8, ↓st_o8, ↓lo_s9, ↓lo_o9, ↓cu_s9, ↓cu_o9, ↓fr_s9, ↓fr_o9, ↓ow_o9, ↓sh_s9, ↓un_s9, ↓un_o9, ↓se_9, ↓ba_9, ↓st_s9, ↓st_o9, ↓lo_s10, ↓lo_o10, ↓cu_s10, ↓cu_o10, ↓fr_s10, ↓fr_o10, ↓ow_o10, ↓sh_s10, ↓un_s10, ↓un_o10, ↓se_10, ↓ba_10, ↓st_s10, ↓st_o10, ↓lo_s11, ↓lo_o11, ↓cu_s11, ↓cu_o11, ↓fr_s11, ↓fr_o11, ↓ow_o11, ↓sh_s11, ↓un_s11, ↓un_o11, ↓se_11, ↓ba_11, ↓st_s11, ↓st_o11, ↓lo_s12, ↓lo_o12, ↓cu_s12, ↓cu_o12, ↓fr_s12, ↓fr_o12, ↓ow_o12, ↓sh_s12, ↓un_s12, ↓un_o12, ↓se_12, ↓ba_12, ↓st_s12, ↓st_o12, ↓lo_s13, ↓lo_o13, ↓cu_s13, ↓cu_o13, ↓fr_s13, ↓fr_o13, ↓ow_o13, ↓sh_s13, ↓un_s13, ↓un_o13, ↓se_13, ↓ba_13, ↓st_s13, ↓st_o13, ↓lo_s14, ↓lo_o14, ↓cu_s14, ↓cu_o14, ↓fr_s14, ↓fr_o14, ↓ow_o14, ↓sh_s14, ↓un_s14, ↓un_o14, ↓se_14, ↓ba_14, ↓st_s14, ↓st_o14, ↓lo_s15, ↓lo_o15, ↓cu_s15, ↓cu_o15, ↓fr_s15, ↓fr_o15, ↓ow_o15, ↓sh_s15, ↓un_s15, ↓un_o15, ↓se_15, ↓ba_15, ↓st_s15, ↓st_o15, ↓lo_s16, ↓lo_o16, ↓cu_s16, ↓cu_o16, ↓fr_s16, ↓fr_o16, ↓ow_o16, ↓sh_s16, ↓un_s16, ↓un_o16, ↓se_16, ↓ba_16, ↓st_s16, ↓st_o16, ↓lo_s17, ↓lo_o17, ↓cu_s17, ↓cu_o17, ↓fr_s17, ↓fr_o17, ↓ow_o17, ↓sh_s17, ↓un_s17, ↓un_o17, ↓se_17, ↓ba_17, ↓st_s17, ↓st_o17, ↓lo_s18, ↓lo_o18, ↓cu_s18, ↓cu_o18, ↓fr_s18, ↓fr_o18, ↓ow_o18, ↓sh_s18, ↓un_s18, ↓un_o18, ↓se_18, ↓ba_18, ↓st_s18, ↓st_o18, ↓lo_s19, ↓lo_o19, ↓cu_s19, ↓cu_o19, ↓fr_s19, ↓fr_o19, ↓ow_o19, ↓sh_s19, ↓un_s19, ↓un_o19, ↓se_19, ↓ba_19, ↓st_s19, ↓st_o19, ↓lo_s20, ↓lo_o20, ↓cu_s20, ↓cu_o20, ↓fr_s20, ↓fr_o20, ↓ow_o20, ↓sh_s20, ↓un_s20, ↓un_o20, ↓se_20, ↓ba_20, ↓st_s20, ↓st_o20, ↓lo_s21, ↓lo_o21, ↓cu_s21, ↓cu_o21, ↓fr_s21, ↓fr_o21, ↓ow_o21, ↓sh_s21, ↓un_s21, ↓un_o21, ↓se_21, ↓ba_21, ↓st_s21, ↓st_o21, ↓lo_s22, ↓lo_o22, ↓cu_s22, ↓cu_o22, ↓fr_s22, ↓fr_o22, ↓ow_o22, ↓sh_s22, ↓un_s22, ↓un_o22, ↓se_22, ↓ba_22, ↓st_s22, ↓st_o22, ↓lo_s23, ↓lo_o23, ↓cu_s23, ↓cu_o23, ↓fr_s23, ↓fr_o23, ↓ow_o23, ↓sh_s23, ↓un_s23, ↓un_o23, ↓se_23, ↓ba_23, ↓st_s23, ↓st_o23, ↓lo_s24, ↓lo_o24, ↓cu_s24, ↓cu_o24, ↓fr_s24, ↓fr_o24, ↓ow_o24, ↓sh_s24, ↓un_s24, ↓un_o24, ↓se_24, ↓ba_24, ↓st_s24, ↓st_o24, ↓lo_s25, ↓lo_o25, ↓cu_s25, ↓cu_o25, ↓fr_s25, ↓fr_o25, ↓ow_o25, ↓sh_s25, ↓un_s25, ↓un_o25, ↓se_25, ↓ba_25, ↓st_s25, ↓st_o25, ↓cu_n, ↓fr_n, ↓ba_n, ↓wi_n, ↓wi_c, ↓sl_n, ↓sl_c, ↓cs_n, ↓fs_n, ↓fs_c, ↓st_n, ↓fl_nor, ↓fl_flt, ↓fl_lst, ↓fl_dic, ↓fl_non, ↓fl_bl, ↓fl_tup, ↓sd_s, ↓sd_o, ↓endf_rt, ↓endf_nx, ↓endt_rt, ↓endt_nx, ↓gu_t, ↓ok_nor, ↓ok_flt, ↓ok_fre_s, ↓ok_fre_o, ↓fl_1, ↓fl_2, ↓fl_3, ↓fl_4, ↓fl_5, ↓fl_6, ↓fl_7, ↓isi_own, ↓isi_str, ↓isi_lst, ↓isi_tup, ↓fields_ins, ↓keyD, ↓partD, ↓meTy, ↓mtTy, lenL, lenS, lenK, lenR, cIs, cIsN, cLt, cLe, cGt, cGe, bAdd, bSub, iter_lst, iter_tup, iter_mS, iterS_lst, iterS_mS, cE_str, cN_str, cE_int, cN_int, isNon, ↓xc__law_purse, ↓xc__law_draw, ↓ph__law_pick__law_draw, ↓xc__law_pick, ↓xc_is_name, ↓ph_are_names_is_name, ↓xc_are_names, ↓xc_in_order, ↓xc_is_sign, ↓ph_is_row_is_sign, ↓xc_is_row, ↓ph_are_fields_tables_are_names, ↓ph_are_fields_tables_is_row, ↓xc_are_fields_tables, ↓xc_Table, ↓xc_Table_kinds, ↓xc_Table_marks, ↓xc_Table_rows, ↓xc_Table_eq, ↓xc_check_table, ↓xc_check_name, ↓ph_check_names_are_names, ↓xc_check_names, ↓ph_table_with_Table, ↓xc_table_with, ↓ph_sign_check_name, ↓ph_sign_check_table, ↓xc_sign, ↓xc_put, ↓ph_unknown_check_table, ↓xc_unknown, ↓ph_part_check_names, ↓ph_part_check_table, ↓ph_part_table_with, ↓xc_part, ↓ph_joined_check_table, ↓ph_joined_table_with, ↓xc_joined, ↓ph_fills_check_table, ↓ph_fills_unknown, ↓xc_fills, ↓xc_owners, ↓xc_are_nested, ↓ph_is_nested_are_nested, ↓ph_is_nested_check_table, ↓ph_is_nested_owners, ↓ph_is_nested_unknown, ↓xc_is_nested, ↓ph_is_told_is_name, ↓xc_is_told, ↓ph_are_fields_trees_is_told, ↓xc_are_fields_trees, ↓xc_Tree, ↓xc_Tree_marks, ↓xc_Tree_kinds, ↓xc_Tree_eq, ↓xc_check_tree, ↓xc_up_from, ↓ph_above_check_name, ↓ph_above_check_tree, ↓ph_above_up_from, ↓xc_above, ↓ph_has_check_name, ↓ph_has_check_tree, ↓ph_has_up_from, ↓xc_has, ↓ph_meeting_check_name, ↓ph_meeting_check_tree, ↓ph_meeting_up_from, ↓xc_meeting, ↓ph_way_check_name, ↓ph_way_check_tree, ↓ph_way_up_from, ↓xc_way, ↓ph_table_of_Table, ↓ph_table_of_check_tree, ↓ph_table_of_up_from, ↓xc_table_of, ↓ph__law_names__law_draw, ↓ph__law_names__law_pick, ↓xc__law_names, ↓ph__law_tree_fields__law_pick, ↓xc__law_tree_fields, ↓xc__law_up, ↓ph__law_tree_rows__law_up, ↓xc__law_tree_rows, ↓ph__law_hidden__law_draw, ↓xc__law_hidden, ↓ph__law_table__law_draw, ↓ph__law_table__law_hidden, ↓ph__law_table__law_names, ↓ph__law_table__law_pick, ↓ph__law_table__law_tree_fields, ↓ph__law_table__law_tree_rows, ↓xc__law_table, ↓ph__law_made_Table, ↓xc__law_made, ↓xc__law_called, ↓ph__law_turned_about__law_draw, ↓xc__law_turned_about, ↓xc__law_sign, ↓xc__law_owners, ↓ph__law_are_nested__law_owners, ↓xc__law_are_nested, ↓ph__law_is_nested__law_are_nested, ↓xc__law_is_nested, ↓xc__law_sorted, ↓xc_piece_from, ↓ph_pieces_piece_from, ↓xc_pieces, ↓xc_free_marks, ↓ph_sets_or_lot_free_marks, ↓ph_sets_or_lot_pieces, ↓xc_sets_or_lot, ↓ph_can_fit_sets_or_lot, ↓xc_can_fit, ↓ph_fits_can_fit, ↓ph_fits_check_table, ↓ph_fits_Table_marks, ↓ph_fits_Table_rows, ↓xc_fits, ↓ph_tree_of_sets_Tree, ↓ph_tree_of_sets_Table_kinds, ↓ph_tree_of_sets_Table_marks, ↓xc_tree_of_sets, ↓ph_tree_or_lot_check_table, ↓ph_tree_or_lot_sets_or_lot, ↓ph_tree_or_lot_tree_of_sets, ↓ph_tree_or_lot_Table_kinds, ↓ph_tree_or_lot_Table_marks, ↓ph_tree_or_lot_Table_rows, ↓xc_tree_or_lot, ↓ph__law_due_rows__law_sign, ↓ph__law_due_rows__law_sorted, ↓xc__law_due_rows, ↓ph__law_plain__law_due_rows, ↓ph__law_plain__law_sorted, ↓xc__law_plain, ↓xc__law_few_unknown, ↓ph__law_small_table__law_few_unknown, ↓ph__law_small_table__law_table, ↓xc__law_small_table, ↓xc__law_fillings, ↓ph__law_good_fillings__law_fillings, ↓ph__law_good_fillings__law_is_nested, ↓xc__law_good_fillings, ↓xc__law_hangs, ↓ph__law_is_lot__law_hangs, ↓xc__law_is_lot, ↓ph_is_lot_check_names, ↓ph_is_lot_check_table, ↓ph_is_lot_piece_from, ↓ph_is_lot_Table_kinds, ↓ph_is_lot_Table_marks, ↓ph_is_lot_Table_rows, ↓xc_is_lot, ↓xc__law_sets, ↓xc_part_of, ↓ph_lot_within_can_fit, ↓ph_lot_within_part_of, ↓xc_lot_within, ↓ph_lean_lot_check_table, ↓ph_lean_lot_fits, ↓ph_lean_lot_lot_within, ↓ph_lean_lot_Table_kinds, ↓ph_lean_lot_Table_marks, ↓ph_lean_lot_Table_rows, ↓xc_lean_lot, ↓xc_changed, ↓xc_unknown_places, ↓ph_sure_can_fit, ↓ph_sure_changed, ↓ph_sure_check_table, ↓ph_sure_unknown_places, ↓ph_sure_Table_kinds, ↓ph_sure_Table_marks, ↓ph_sure_Table_rows, ↓xc_sure, ↓ph_takes_can_fit, ↓ph_takes_check_table, ↓ph_takes_is_row, ↓ph_takes_Table_marks, ↓ph_takes_Table_rows, ↓xc_takes, ↓xc_subsets, ↓ph_clashes_can_fit, ↓ph_clashes_check_table, ↓ph_clashes_part_of, ↓ph_clashes_subsets, ↓ph_clashes_Table_kinds, ↓ph_clashes_Table_marks, ↓ph_clashes_Table_rows, ↓xc_clashes, ↓xc_without, ↓ph_fewest_marks_can_fit, ↓ph_fewest_marks_check_table, ↓ph_fewest_marks_part_of, ↓ph_fewest_marks_subsets, ↓ph_fewest_marks_without, ↓ph_fewest_marks_Table_kinds, ↓ph_fewest_marks_Table_marks, ↓ph_fewest_marks_Table_rows, ↓xc_fewest_marks, ↓ph_fewest_kinds_can_fit, ↓ph_fewest_kinds_check_table, ↓ph_fewest_kinds_part_of, ↓ph_fewest_kinds_subsets, ↓ph_fewest_kinds_without, ↓ph_fewest_kinds_Table_kinds, ↓ph_fewest_kinds_Table_marks, ↓ph_fewest_kinds_Table_rows, ↓xc_fewest_kinds, ↓ph_counted_can_fit, ↓ph_counted_changed, ↓ph_counted_check_table, ↓ph_counted_unknown_places, ↓ph_counted_Table_marks, ↓ph_counted_Table_rows, ↓xc_counted, ↓ph_check_filled_check_table, ↓ph_check_filled_unknown_places, ↓ph_check_filled_Table_rows, ↓xc_check_filled, ↓ph_four_check_filled, ↓ph_four_part_of, ↓ph_four_subsets, ↓ph_four_Table_kinds, ↓ph_four_Table_marks, ↓ph_four_Table_rows, ↓xc_four, ↓ph_turned_Table, ↓ph_turned_check_filled, ↓ph_turned_check_name, ↓ph_turned_Table_kinds, ↓ph_turned_Table_marks, ↓ph_turned_Table_rows, ↓xc_turned, ↓xc__law_classes, ↓ph__law_right__law_classes, ↓xc__law_right, ↓ph_law__law_draw, ↓ph_law__law_pick, ↓ph_law__law_purse, ↓ph_law__law_right, $[$ts:term],*])
def tr1 : S := match tr__law_right with | .cons s _ => s | _ => .pass
def tr2 : S := match tr__law_right with | .cons _ (.cons s _) => s | _ => .pass
def tr3 : Ss := match tr__law_right with | .cons _ (.cons _ s) => s | _ => .nil
theorem tr_eq : tr__law_right = .cons tr1 (.cons tr2 tr3) := rfl
theorem sta1 (d : D) : xS (tab (entL T__law_right)) tr1 [.sh (exD d), .sh d, .un, .un, .un] = some (.nx [.sh (exD d), .sh d, .ow (.lst [d, d, d, d, d, d]), .un, .un]) := by kernel_rfl
theorem sta3 (d x : D) : xB (tab (entL T__law_right)) tr3 [.sh (exD d), .sh d, .ow x, .un, .un] = some (.rt (.sh (.bl true)) [.sh (exD d), .sh d, .ow x, .un, .un]) := by kernel_rfl
theorem sta2 (d : D) (s : Str) (h : biD .reprD [.lst [d, d, d, d, d, d]] = some (.sh (.str s))) : xS (tab (entL T__law_right)) tr2 [.sh (exD d), .sh d, .ow (.lst [d, d, d, d, d, d]), .un, .un] = some (.nx [.sh (exD d), .sh d, .ow (.lst [d, d, d, d, d, d]), .un, .un]) := by
  refine Ok.eq ?_
  have e : xS (tab (entL T__law_right)) tr2 [.sh (exD d), .sh d, .ow (.lst [d, d, d, d, d, d]), .un, .un] = @bnI _ _ (xS (tab (entL T__law_right)) tr2 [.sh (exD d), .sh d, .ow (.lst [d, d, d, d, d, d]), .un, .un]) ⟨fun r => some r⟩ := by unfold bnI; cases xS (tab (entL T__law_right)) tr2 [.sh (exD d), .sh d, .ow (.lst [d, d, d, d, d, d]), .un, .un] <;> rfl
  rw [e]
  simp only [tr2, tr__law_right]
  have l6 : biD .len [exD d] = some (.sh (.int 6)) := rfl
  have m6 : binD .Mult (.lst [d]) (.int 6) = some (.lst [d, d, d, d, d, d]) := by kernel_rfl
  erw [l6, m6, h]
  simp only [decide_true, Bool.not_true]
  erw []
  exact ⟨_, rfl, rfl⟩
theorem right_of (d : D) (s : Str) (h : biD .reprD [.lst [d, d, d, d, d, d]] = some (.sh (.str s))) : pf__law_right.f [exD d, d] = some (.bl true, .non) := by
  rw [op__law_right, tr_eq, b_cons]
  have e1 : ∀ K : Kt Oc (D × D), @bnI _ _ (xS (tab (entL T__law_right)) tr1 [.sh (exD d), .sh d, .un, .un, .un]) K = K.f (.nx [.sh (exD d), .sh d, .ow (.lst [d, d, d, d, d, d]), .un, .un]) := fun K => by rw [sta1]; rfl
  rw [e1]; dsimp only; rw [oc_nx]; dsimp only; rw [b_cons]
  have e2 : ∀ K : Kt Oc (D × D), @bnI _ _ (xS (tab (entL T__law_right)) tr2 [.sh (exD d), .sh d, .ow (.lst [d, d, d, d, d, d]), .un, .un]) K = K.f (.nx [.sh (exD d), .sh d, .ow (.lst [d, d, d, d, d, d]), .un, .un]) := fun K => by rw [sta2 d s h]; rfl
  rw [e2]; dsimp only; rw [oc_nx]; dsimp only
  have e3 : ∀ K : Kt Oc (D × D), @bnI _ _ (xB (tab (entL T__law_right)) tr3 [.sh (exD d), .sh d, .ow (.lst [d, d, d, d, d, d]), .un, .un]) K = K.f (.rt (.sh (.bl true)) [.sh (exD d), .sh d, .ow (.lst [d, d, d, d, d, d]), .un, .un]) := fun K => by rw [sta3]; rfl
  rw [e3]
  rfl
/-! ### what repr shows of whole numbers -/
def TxOk (n : Nat) (s : Str) : Prop := s.length ≤ n ∧ ∀ c ∈ s.cps.toList, c < 0x110000
theorem cps_append2 (a b : Str) : (a ++ b).cps = a.cps ++ b.cps := rfl
theorem tx_app {a b : Str} {n m : Nat} (ha : TxOk n a) (hb : TxOk m b) : TxOk (n + m) (a ++ b) := by
  refine ⟨by rw [strLen_append]; exact Nat.add_le_add ha.1 hb.1, fun c hc => ?_⟩
  rw [cps_append2, Array.toList_append] at hc
  rcases List.mem_append.mp hc with h | h
  · exact ha.2 c h
  · exact hb.2 c h
theorem tx_str (x : String) : TxOk x.length (Str.ofString x) := by
  refine ⟨Nat.le_of_eq (PySem.ofString_length x), fun c hc => ?_⟩
  rw [Str.ofString_eq_toList] at hc
  obtain ⟨k, _, rfl⟩ := List.mem_map.mp hc
  have := k.valid
  unfold UInt32.isValidChar Nat.isValidChar at this
  show k.val.toNat < _
  omega
theorem tx_mono {a : Str} {n m : Nat} (h : TxOk n a) (hm : n ≤ m) : TxOk m a := ⟨Nat.le_trans h.1 hm, h.2⟩
theorem tx_from {n : Nat} : ∀ (ts : List Str) (k : Nat) (acc : Str) (m : Nat), TxOk m acc → (∀ t ∈ ts, TxOk n t) → TxOk (m + ts.length * (n + 2)) (textFrom k acc ts)
  | [], k, acc, m, h, _ => tx_mono h (Nat.le_add_right _ _)
  | t :: ts, k, acc, m, h, ht => by
    have h2 : TxOk 2 (if k > 0 then ", " else "" : String) := by
      split
      · exact tx_str ", "
      · exact tx_mono (tx_str "") (by decide)
    have := tx_from ts (k + 1) (acc ++ (if k > 0 then ", " else "" : String) ++ t) (m + 2 + n) (tx_app (tx_app h h2) (ht t (List.mem_cons_self ..))) fun u hu => ht u (List.mem_cons_of_mem _ hu)
    show TxOk _ (textFrom (k + 1) _ ts)
    refine tx_mono this ?_
    simp only [List.length_cons, Nat.succ_mul]
    omega
theorem tx_list {n : Nat} (ts : List Str) (ht : ∀ t ∈ ts, TxOk n t) : TxOk (ts.length * (n + 2) + 2) (listText ts) := by
  unfold listText
  exact tx_mono (tx_app (tx_from ts 0 "[" 1 (tx_mono (tx_str "[") (by decide)) ht) (tx_str "]")) (by have : ("]" : String).length = 1 := by decide
                                                                                                     omega)
theorem tx_int {n : Int} (h : n.natAbs.log2 < 1920) : TxOk 1921 (toString n) := tx_mono (tx_str (toString n)) (int_text_length_le (by decide) h)
theorem log_le {n : Int} (h : n.natAbs < 10 ^ 40) : n.natAbs.log2 < 1920 := by
  rcases Nat.eq_zero_or_pos n.natAbs with h0 | h0
  · rw [h0]; decide
  · exact (Nat.log2_lt (Nat.ne_of_gt h0)).mpr (Nat.lt_of_lt_of_le h (by decide +kernel))
theorem shs (n : Nat) (d : D) (hn : okN 7 d = true) (hs : (toP d).showable = true) (ht : TxOk n (toP d).shown) (hb : n ≤ 10000) : biD .reprD [.lst [d, d, d, d, d, d]] = some (.sh (.str (PyData.shown (toR (.lst [d, d, d, d, d, d]))))) := by
  have o8 : okN 8 (.lst [d, d, d, d, d, d]) = true := by
    show ([d, d, d, d, d, d].all (okN 7)) = true
    simp only [List.all_cons, hn, List.all_nil, Bool.and_self]
  have eR : toR (.lst [d, d, d, d, d, d]) = .list [toP d, toP d, toP d, toP d, toP d, toP d] := by
    show (bif okN 8 (.lst [d, d, d, d, d, d]) then _ else _) = _
    rw [o8]; rfl
  have hT : TxOk (6 * (n + 2) + 2) (PyData.shown (.list [toP d, toP d, toP d, toP d, toP d, toP d])) := by
    have e : PyData.shown (.list [toP d, toP d, toP d, toP d, toP d, toP d]) = listText [(toP d).shown, (toP d).shown, (toP d).shown, (toP d).shown, (toP d).shown, (toP d).shown] := by
      simp only [PyData.shown, PyData.shownAll]
    rw [e]
    refine tx_list _ fun t h => ?_
    simp only [List.mem_cons, List.not_mem_nil, or_false, or_self] at h
    rw [h]; exact ht
  have hS : showB (.lst [d, d, d, d, d, d]) = true := by
    unfold showB okR
    rw [o8, eR]
    have h1 : PyData.showable (.list [toP d, toP d, toP d, toP d, toP d, toP d]) = true := by simp only [PyData.showable, PyData.showableAll, hs, Bool.and_self]
    have h2 : fits (PyData.shown (.list [toP d, toP d, toP d, toP d, toP d, toP d])).length = true := by
      unfold fits
      exact decide_eq_true (Nat.le_trans hT.1 (by have : sizeLine = 16777216 := by decide
                                                  omega))
    have h3 : ((PyData.shown (.list [toP d, toP d, toP d, toP d, toP d, toP d])).cps.all (· < 0x110000)) = true := by
      rw [← Array.all_toList]
      exact List.all_eq_true.mpr fun c hc => decide_eq_true (hT.2 c hc)
    rw [h1, h2, h3]; rfl
  show (bif showB (.lst [d, d, d, d, d, d]) then _ else _) = _
  rw [hS]; rfl
theorem rq_int (n : Int) (h : n.natAbs < 10 ^ 40) : pf__law_right.f [exD (.int n), .int n] = some (.bl true, .non) :=
  right_of _ _ (shs 1921 (.int n) rfl (by simp only [toP, PyData.showable, log_le h, decide_true]) (by simp only [toP, PyData.shown]; exact tx_int (log_le h)) (by decide))
theorem rq_lst (n : Int) (h : n.natAbs < 10 ^ 40) : pf__law_right.f [exD (.lst [.int n]), .lst [.int n]] = some (.bl true, .non) :=
  right_of _ _ (shs (1 * (1921 + 2) + 2) (.lst [.int n]) rfl (by simp only [toP, toP.toPs, PyData.showable, PyData.showableAll, log_le h, decide_true, Bool.and_self]) (by
    simp only [toP, toP.toPs, PyData.shown, PyData.shownAll]
    refine tx_list _ fun t ht => ?_
    simp only [List.mem_cons, List.not_mem_nil, or_false] at ht
    rw [ht]; exact tx_int (log_le h)) (by decide))
theorem rq_lstm (n : Int) (h : n.natAbs < 10 ^ 40) : pf__law_right.f [exD (.lst [.int n, .str (Str.ofString "more")]), .lst [.int n, .str (Str.ofString "more")]] = some (.bl true, .non) :=
  right_of _ _ (shs (2 * (1921 + 2) + 2) (.lst [.int n, .str (Str.ofString "more")]) rfl (by simp only [toP, toP.toPs, PyData.showable, PyData.showableAll, log_le h, decide_true, Bool.and_self]) (by
    simp only [toP, toP.toPs, PyData.shown, PyData.shownAll]
    refine tx_list _ fun t ht => ?_
    simp only [List.mem_cons, List.not_mem_nil, or_false] at ht
    rcases ht with rfl | rfl
    · exact tx_int (log_le h)
    · have e : reprText (Str.ofString "more") = Str.ofString "'more'" := by decide +kernel
      rw [e]
      exact tx_mono (tx_str _) (by decide)) (by decide))
end FT

set_option Elab.async false
set_option linter.all false
set_option maxRecDepth 100000
set_option autoImplicit false
set_option maxHeartbeats 4000000
namespace FT
open PySem PySem.Spec PyProof.Rows L2
local macro_rules
  | `(tactic| erw [$[$ts:term],*]) => `(tactic| simp -implicitDefEqProofs only [↓e_kInt, ↓e_kStr, ↓e_kBl, ↓e_kNon, ↓e_loc, ↓e_bin, ↓e_neg, ↓e_cmp, ↓e_cmp2, ↓e_and, ↓e_or, ↓e_not, ↓e_ife, ↓e_sub, ↓e_slc, ↓e_rev, ↓e_tup, ↓e_lst, ↓e_dic0, ↓e_dic1, ↓e_call, ↓e_bi, ↓e_me, ↓e_mt, ↓e_fld, ↓e_prp, ↓e_eqT, ↓e_isi, ↓e_lc, ↓e_lc2, ↓e_dc, ↓f_kInt, ↓f_kStr, ↓f_kBl, ↓f_kNon, ↓f_loc, ↓f_bin, ↓f_neg, ↓f_cmp, ↓f_cmp2, ↓f_and, ↓f_or, ↓f_not, ↓f_ife, ↓f_sub, ↓f_slc, ↓f_rev, ↓f_tup, ↓f_lst, ↓f_dic0, ↓f_dic1, ↓f_call, ↓f_bi, ↓f_me, ↓f_mt, ↓f_fld, ↓f_prp, ↓f_eqT, ↓f_isi, ↓f_lc, ↓f_lc2, ↓f_dc, ↓r_kInt, ↓r_kStr, ↓r_kBl, ↓r_kNon, ↓r_loc, ↓r_bin, ↓r_neg, ↓r_cmp, ↓r_cmp2, ↓r_and, ↓r_or, ↓r_not, ↓r_ife, ↓r_sub, ↓r_slc, ↓r_rev, ↓r_tup, ↓r_lst, ↓r_dic0, ↓r_dic1, ↓r_call, ↓r_bi, ↓r_me, ↓r_mt, ↓r_fld, ↓r_prp, ↓r_eqT, ↓r_isi, ↓r_lc, ↓r_lc2, ↓r_dc, ↓o_no, ↓o_so, ↓c_no, ↓c_so, ↓a_nil, ↓a_cons, ↓i_val, ↓i_rng1, ↓i_rng2, ↓i_enum, ↓i_zip, ↓s_set, ↓s_setT, ↓s_par2, ↓s_par3, ↓s_put, ↓s_swap, ↓s_ex, ↓s_ret, ↓s_retN, ↓s_pass, ↓s_ifs, ↓s_for, ↓s_whl, ↓b_cons, ↓b_nil, ↓b_lcSt, ↓b_lcIn, ↓b_lcOut, ↓b_dcSt, ↓b_forSt, ↓b_whlT, ↓t_nm, ↓t_tp, ↓oc_nx, ↓oc_rt, ↓if_t, ↓if_f, ↓cs_c, bn_some, Kt.f, Th.v, KO.nx, KO.rt, bool_bl, int_int, lst_lst, grd_t, fh_i, fh_s, fh_t, fh_l, nott, notf, ↓lo_s0, ↓lo_o0, ↓cu_s0, ↓cu_o0, ↓fr_s0, ↓fr_o0, ↓ow_o0, ↓sh_s0, ↓un_s0, ↓un_o0, ↓se_0, ↓ba_0, ↓st_s0, ↓st_o0, ↓lo_s1, ↓lo_o1, ↓cu_s1, ↓cu_o1, ↓fr_s1, ↓fr_o1, ↓ow_o1, ↓sh_s1, ↓un_s1, ↓un_o1, ↓se_1, ↓ba_1, ↓st_s1, ↓st_o1, ↓lo_s2, ↓lo_o2, ↓cu_s2, ↓cu_o2, ↓fr_s2, ↓fr_o2, ↓ow_o2, ↓sh_s2, ↓un_s2, ↓un_o2, ↓se_2, ↓ba_2, ↓st_s2, ↓st_o2, ↓lo_s3, ↓lo_o3, ↓cu_s3, ↓cu_o3, ↓fr_s3, ↓fr_o3, ↓ow_o3, ↓sh_s3, ↓un_s3, ↓un_o3, ↓se_3, ↓ba_3, ↓st_s3, ↓st_o3, ↓lo_s4, ↓lo_o4, ↓cu_s4, ↓cu_o4, ↓fr_s4, ↓fr_o4, ↓ow_o4, ↓sh_s4, ↓un_s4, ↓un_o4, ↓se_4, ↓ba_4, ↓st_s4, ↓st_o4, ↓lo_s5, ↓lo_o5, ↓cu_s5, ↓cu_o5, ↓fr_s5, ↓fr_o5, ↓ow_o5, ↓sh_s5, ↓un_s5, ↓un_o5, ↓se_5, ↓ba_5, ↓st_s5, ↓st_o5, ↓lo_s6, ↓lo_o6, ↓cu_s6, ↓cu_o6, ↓fr_s6, ↓fr_o6, ↓ow_o6, ↓sh_s6, ↓un_s6, ↓un_o6, ↓se_6, ↓ba_6, ↓st_s6, ↓st_o6, ↓lo_s7, ↓lo_o7, ↓cu_s7, ↓cu_o7, ↓fr_s7, ↓fr_o7, ↓ow_o7, ↓sh_s7, ↓un_s7, ↓un_o7, ↓se_7, ↓ba_7, ↓st_s7, ↓st_o7, ↓lo_s8, ↓lo_o8, ↓cu_s8, ↓cu_o8, ↓fr_s8, ↓fr_o8, ↓ow_o8, ↓sh_s8, ↓un_s8, ↓un_o8, ↓se_8, ↓ba_8, ↓st_s8, ↓st_o8, ↓lo_s9, ↓lo_o9, ↓cu_s9, ↓cu_o9, ↓fr_s9, ↓fr_o9, ↓ow_o9, ↓sh_s9, ↓un_s9, ↓un_o9, ↓se_9, ↓ba_9, ↓st_s9, ↓st_o9, ↓lo_s10, ↓lo_o10, ↓cu_s10, ↓cu_o10, ↓fr_s10, ↓fr_o10, ↓ow_o10, ↓sh_s10, ↓un_s10, ↓un_o10, ↓se_10, ↓ba_10, ↓st_s10, ↓st_o10, ↓lo_s11, ↓lo_o11, ↓cu_s11, ↓cu_o11, ↓fr_s11, ↓fr_o11, ↓ow_o11, ↓sh_s11, ↓un_s11, ↓un_o11, ↓se_11, ↓ba_11, ↓st_s11, ↓st_o11, ↓lo_s12, ↓lo_o12, ↓cu_s12, ↓cu_o12, ↓fr_s12, ↓fr_o12, ↓ow_o12, ↓sh_s12, ↓un_s12, ↓un_o12, ↓se_12, ↓ba_12, ↓st_s12, ↓st_o12, ↓lo_s13, ↓lo_o13, ↓cu_s13, ↓cu_o13, ↓fr_s13, ↓fr_o13, ↓ow_o13, ↓sh_s13, ↓un_s13, ↓un_o13, ↓se_13, ↓ba_13, ↓st_s13, ↓st_o13, ↓lo_s14, ↓lo_o14, ↓cu_s14, ↓cu_o14, ↓fr_s14, ↓fr_o14, ↓ow_o14, ↓sh_s14, ↓un_s14, ↓un_o14, ↓se_14, ↓ba_14, ↓st_s14, ↓st_o14, ↓lo_s15, ↓lo_o15, ↓cu_s15, ↓cu_o15, ↓fr_s15, ↓fr_o15, ↓ow_o15, ↓sh_s15, ↓un_s15, ↓un_o15, ↓se_15, ↓ba_15, ↓st_s15, ↓st_o15, ↓lo_s16, ↓lo_o16, ↓cu_s16, ↓cu_o16, ↓fr_s16, ↓fr_o16, ↓ow_o16, ↓sh_s16, ↓un_s16, ↓un_o16, ↓se_16, ↓ba_16, ↓st_s16, ↓st_o16, ↓lo_s17, ↓lo_o17, ↓cu_s17, ↓cu_o17, ↓fr_s17, ↓fr_o17, ↓ow_o17, ↓sh_s17, ↓un_s17, ↓un_o17, ↓se_17, ↓ba_17, ↓st_s17, ↓st_o17, ↓lo_s18, ↓lo_o18, ↓cu_s18, ↓cu_o18, ↓fr_s18, ↓fr_o18, ↓ow_o18, ↓sh_s18, ↓un_s18, ↓un_o18, ↓se_18, ↓ba_18, ↓st_s18, ↓st_o18, ↓lo_s19, ↓lo_o19, ↓cu_s19, ↓cu_o19, ↓fr_s19, ↓fr_o19, ↓ow_o19, ↓sh_s19, ↓un_s19, ↓un_o19, ↓se_19, ↓ba_19, ↓st_s19, ↓st_o19, ↓lo_s20, ↓lo_o20, ↓cu_s20, ↓cu_o20, ↓fr_s20, ↓fr_o20, ↓ow_o20, ↓sh_s20, ↓un_s20, ↓un_o20, ↓se_20, ↓ba_20, ↓st_s20, ↓st_o20, ↓lo_s21, ↓lo_o21, ↓cu_s21, ↓cu_o21, ↓fr_s21, ↓fr_o21, ↓ow_o21, ↓sh_s21, ↓un_s21, ↓un_o21, ↓se_21, ↓ba_21, ↓st_s21, ↓st_o21, ↓lo_s22, ↓lo_o22, ↓cu_s22, ↓cu_o22, ↓fr_s22, ↓fr_o22, ↓ow_o22, ↓sh_s22, ↓un_s22, ↓un_o22, ↓se_22, ↓ba_22, ↓st_s22, ↓st_o22, ↓lo_s23, ↓lo_o23, ↓cu_s23, ↓cu_o23, ↓fr_s23, ↓fr_o23, ↓ow_o23, ↓sh_s23, ↓un_s23, ↓un_o23, ↓se_23, ↓ba_23, ↓st_s23, ↓st_o23, ↓lo_s24, ↓lo_o24, ↓cu_s24, ↓cu_o24, ↓fr_s24, ↓fr_o24, ↓ow_o24, ↓sh_s24, ↓un_s24, ↓un_o24, ↓se_24, ↓ba_24, ↓st_s24, ↓st_o24, ↓lo_s25, ↓lo_o25, ↓cu_s25, ↓cu_o25, ↓fr_s25, ↓fr_o25, ↓ow_o25, ↓sh_s25, ↓un_s25, ↓un_o25, ↓se_25, ↓ba_25, ↓st_s25, ↓st_o25, ↓cu_n, ↓fr_n, ↓ba_n, ↓wi_n, ↓wi_c, ↓sl_n, ↓sl_c, ↓cs_n, ↓fs_n, ↓fs_c, ↓st_n, ↓fl_nor, ↓fl_flt, ↓fl_lst, ↓fl_dic, ↓fl_non, ↓fl_bl, ↓fl_tup, ↓sd_s, ↓sd_o, ↓endf_rt, ↓endf_nx, ↓endt_rt, ↓endt_nx, ↓gu_t, ↓ok_nor, ↓ok_flt, ↓ok_fre_s, ↓ok_fre_o, ↓fl_1, ↓fl_2, ↓fl_3, ↓fl_4, ↓fl_5, ↓fl_6, ↓fl_7, ↓isi_own, ↓isi_str, ↓isi_lst, ↓isi_tup, ↓fields_ins, ↓keyD, ↓partD, ↓meTy, ↓mtTy, lenL, lenS, lenK, lenR, cIs, cIsN, cLt, cLe, cGt, cGe, bAdd, bSub, iter_lst, iter_tup, iter_mS, iterS_lst, iterS_mS, cE_str, cN_str, cE_int, cN_int, isNon, ↓xc__law_purse, ↓xc__law_draw, ↓ph__law_pick__law_draw, ↓xc__law_pick, ↓xc_is_name, ↓ph_are_names_is_name, ↓xc_are_names, ↓xc_in_order, ↓xc_is_sign, ↓ph_is_row_is_sign, ↓xc_is_row, ↓ph_are_fields_tables_are_names, ↓ph_are_fields_tables_is_row, ↓xc_are_fields_tables, ↓xc_Table, ↓xc_Table_kinds, ↓xc_Table_marks, ↓xc_Table_rows, ↓xc_Table_eq, ↓xc_check_table, ↓xc_check_name, ↓ph_check_names_are_names, ↓xc_check_names, ↓ph_table_with_Table, ↓xc_table_with, ↓ph_sign_check_name, ↓ph_sign_check_table, ↓xc_sign, ↓xc_put, ↓ph_unknown_check_table, ↓xc_unknown, ↓ph_part_check_names, ↓ph_part_check_table, ↓ph_part_table_with, ↓xc_part, ↓ph_joined_check_table, ↓ph_joined_table_with, ↓xc_joined, ↓ph_fills_check_table, ↓ph_fills_unknown, ↓xc_fills, ↓xc_owners, ↓xc_are_nested, ↓ph_is_nested_are_nested, ↓ph_is_nested_check_table, ↓ph_is_nested_owners, ↓ph_is_nested_unknown, ↓xc_is_nested, ↓ph_is_told_is_name, ↓xc_is_told, ↓ph_are_fields_trees_is_told, ↓xc_are_fields_trees, ↓xc_Tree, ↓xc_Tree_marks, ↓xc_Tree_kinds, ↓xc_Tree_eq, ↓xc_check_tree, ↓xc_up_from, ↓ph_above_check_name, ↓ph_above_check_tree, ↓ph_above_up_from, ↓xc_above, ↓ph_has_check_name, ↓ph_has_check_tree, ↓ph_has_up_from, ↓xc_has, ↓ph_meeting_check_name, ↓ph_meeting_check_tree, ↓ph_meeting_up_from, ↓xc_meeting, ↓ph_way_check_name, ↓ph_way_check_tree, ↓ph_way_up_from, ↓xc_way, ↓ph_table_of_Table, ↓ph_table_of_check_tree, ↓ph_table_of_up_from, ↓xc_table_of, ↓ph__law_names__law_draw, ↓ph__law_names__law_pick, ↓xc__law_names, ↓ph__law_tree_fields__law_pick, ↓xc__law_tree_fields, ↓xc__law_up, ↓ph__law_tree_rows__law_up, ↓xc__law_tree_rows, ↓ph__law_hidden__law_draw, ↓xc__law_hidden, ↓ph__law_table__law_draw, ↓ph__law_table__law_hidden, ↓ph__law_table__law_names, ↓ph__law_table__law_pick, ↓ph__law_table__law_tree_fields, ↓ph__law_table__law_tree_rows, ↓xc__law_table, ↓ph__law_made_Table, ↓xc__law_made, ↓xc__law_called, ↓ph__law_turned_about__law_draw, ↓xc__law_turned_about, ↓xc__law_sign, ↓xc__law_owners, ↓ph__law_are_nested__law_owners, ↓xc__law_are_nested, ↓ph__law_is_nested__law_are_nested, ↓xc__law_is_nested, ↓xc__law_sorted, ↓xc_piece_from, ↓ph_pieces_piece_from, ↓xc_pieces, ↓xc_free_marks, ↓ph_sets_or_lot_free_marks, ↓ph_sets_or_lot_pieces, ↓xc_sets_or_lot, ↓ph_can_fit_sets_or_lot, ↓xc_can_fit, ↓ph_fits_can_fit, ↓ph_fits_check_table, ↓ph_fits_Table_marks, ↓ph_fits_Table_rows, ↓xc_fits, ↓ph_tree_of_sets_Tree, ↓ph_tree_of_sets_Table_kinds, ↓ph_tree_of_sets_Table_marks, ↓xc_tree_of_sets, ↓ph_tree_or_lot_check_table, ↓ph_tree_or_lot_sets_or_lot, ↓ph_tree_or_lot_tree_of_sets, ↓ph_tree_or_lot_Table_kinds, ↓ph_tree_or_lot_Table_marks, ↓ph_tree_or_lot_Table_rows, ↓xc_tree_or_lot, ↓ph__law_due_rows__law_sign, ↓ph__law_due_rows__law_sorted, ↓xc__law_due_rows, ↓ph__law_plain__law_due_rows, ↓ph__law_plain__law_sorted, ↓xc__law_plain, ↓xc__law_few_unknown, ↓ph__law_small_table__law_few_unknown, ↓ph__law_small_table__law_table, ↓xc__law_small_table, ↓xc__law_fillings, ↓ph__law_good_fillings__law_fillings, ↓ph__law_good_fillings__law_is_nested, ↓xc__law_good_fillings, ↓xc__law_hangs, ↓ph__law_is_lot__law_hangs, ↓xc__law_is_lot, ↓ph_is_lot_check_names, ↓ph_is_lot_check_table, ↓ph_is_lot_piece_from, ↓ph_is_lot_Table_kinds, ↓ph_is_lot_Table_marks, ↓ph_is_lot_Table_rows, ↓xc_is_lot, ↓xc__law_sets, ↓xc_part_of, ↓ph_lot_within_can_fit, ↓ph_lot_within_part_of, ↓xc_lot_within, ↓ph_lean_lot_check_table, ↓ph_lean_lot_fits, ↓ph_lean_lot_lot_within, ↓ph_lean_lot_Table_kinds, ↓ph_lean_lot_Table_marks, ↓ph_lean_lot_Table_rows, ↓xc_lean_lot, ↓xc_changed, ↓xc_unknown_places, ↓ph_sure_can_fit, ↓ph_sure_changed, ↓ph_sure_check_table, ↓ph_sure_unknown_places, ↓ph_sure_Table_kinds, ↓ph_sure_Table_marks, ↓ph_sure_Table_rows, ↓xc_sure, ↓ph_takes_can_fit, ↓ph_takes_check_table, ↓ph_takes_is_row, ↓ph_takes_Table_marks, ↓ph_takes_Table_rows, ↓xc_takes, ↓xc_subsets, ↓ph_clashes_can_fit, ↓ph_clashes_check_table, ↓ph_clashes_part_of, ↓ph_clashes_subsets, ↓ph_clashes_Table_kinds, ↓ph_clashes_Table_marks, ↓ph_clashes_Table_rows, ↓xc_clashes, ↓xc_without, ↓ph_fewest_marks_can_fit, ↓ph_fewest_marks_check_table, ↓ph_fewest_marks_part_of, ↓ph_fewest_marks_subsets, ↓ph_fewest_marks_without, ↓ph_fewest_marks_Table_kinds, ↓ph_fewest_marks_Table_marks, ↓ph_fewest_marks_Table_rows, ↓xc_fewest_marks, ↓ph_fewest_kinds_can_fit, ↓ph_fewest_kinds_check_table, ↓ph_fewest_kinds_part_of, ↓ph_fewest_kinds_subsets, ↓ph_fewest_kinds_without, ↓ph_fewest_kinds_Table_kinds, ↓ph_fewest_kinds_Table_marks, ↓ph_fewest_kinds_Table_rows, ↓xc_fewest_kinds, ↓ph_counted_can_fit, ↓ph_counted_changed, ↓ph_counted_check_table, ↓ph_counted_unknown_places, ↓ph_counted_Table_marks, ↓ph_counted_Table_rows, ↓xc_counted, ↓ph_check_filled_check_table, ↓ph_check_filled_unknown_places, ↓ph_check_filled_Table_rows, ↓xc_check_filled, ↓ph_four_check_filled, ↓ph_four_part_of, ↓ph_four_subsets, ↓ph_four_Table_kinds, ↓ph_four_Table_marks, ↓ph_four_Table_rows, ↓xc_four, ↓ph_turned_Table, ↓ph_turned_check_filled, ↓ph_turned_check_name, ↓ph_turned_Table_kinds, ↓ph_turned_Table_marks, ↓ph_turned_Table_rows, ↓xc_turned, ↓xc__law_classes, ↓ph__law_right__law_classes, ↓xc__law_right, ↓ph_law__law_draw, ↓ph_law__law_pick, ↓ph_law__law_purse, ↓ph_law__law_right, $[$ts:term],*])
theorem xB_bn (Φ : Nat → Option PF) (s : Ss) (ρ : List Sl) : xB Φ s ρ = @bnI _ _ (xB Φ s ρ) ⟨fun r => some r⟩ := by unfold bnI; cases xB Φ s ρ <;> rfl
theorem v7 (s0 s1 s2 : Sl) (d : D) (h : pf__law_right.f [exD d, d] = some (.bl true, .non)) : xB (tab (entL T_law)) t701 [s0, s1, s2, .sh d, .sh (exD d), .sh (exD d), .sh (exD .non)] = some (.nx [s0, s1, s2, .sh d, .sh (exD d), .sh (exD d), .sh (exD .non)]) := by
  refine Ok.eq ?_
  rw [xB_bn]
  unfold t701
  erw [h, r_non]
  exact ⟨_, rfl, rfl⟩
theorem v10 (d : D) (h : pf__law_right.f [exD d, d] = some (.bl true, .non)) : xB (tab (entL T_law)) t1001 [.un, .un, .un, .sh d, .sh (exD d), .sh (exD d), .un] = some (.rt (.sh (.bl true)) [.un, .un, .un, .sh d, .sh (exD d), .sh (exD d), .un]) := by
  refine Ok.eq ?_
  rw [xB_bn]
  unfold t1001
  erw [h]
  exact ⟨_, rfl, rfl⟩
theorem strs_mul (k : Nat) (hk : k < 9) : ∃ s ∈ strs9, binD .Mult (.str (Str.ofString "x")) (dN k) = some (.str s) := by
  match k, hk with
  | 0, _ => exact ⟨_, by decide, rfl⟩
  | 1, _ => exact ⟨_, by decide, rfl⟩
  | 2, _ => exact ⟨_, by decide, rfl⟩
  | 3, _ => exact ⟨_, by decide, rfl⟩
  | 4, _ => exact ⟨_, by decide, rfl⟩
  | 5, _ => exact ⟨_, by decide, rfl⟩
  | 6, _ => exact ⟨_, by decide, rfl⟩
  | 7, _ => exact ⟨_, by decide, rfl⟩
  | 8, _ => exact ⟨_, by decide, rfl⟩
theorem law_data (ns : List Int) : Ok (xB (tab (entL T_law)) tA01 (initS false [.scr ns] 7)) fun r => ∃ (p : D) (n : Int) (k : Nat) (x : Str), x ∈ strs9 ∧ n.natAbs < 10 ^ 40 ∧ ([D.non, .bl true, .int n, .int (0 - n), .str x, .tup [], .lst [.int n], d_two, .dic []][k]?).map (fun d => Oc.nx (sl7 (.sh (.scr ns)) (.ow p) (.sh (.int n)) (.sh d) .un .un .un)) = some r := by
  rw [xB_bn]
  unfold tA01
  have ei : initS false [.scr ns] 7 = [.sh (.scr ns), .un, .un, .un, .un, .un, .un] := rfl
  rw [ei]
  have e0 : D.int 0 = dN 0 := rfl
  erw [e0]
  refine Ok.bn (purse_ok ns 0 (by decide)) ?_
  rintro _ ⟨p, rfl, hp⟩
  have e6 : binD .Pow (.int 10) (.int 6) = some (dN 1000000) := rfl
  have e33 : binD .Pow (.int 10) (.int 33) = some (.int (10 ^ 33)) := rfl
  erw [e6]
  refine Ok.bn (draw_ok (hp.le (show 999999 + 1 ≤ 1000000 by decide)) (by decide) (by decide)) ?_
  rintro _ ⟨k1, p1, rfl, hk1, hp1⟩
  erw [e6, e33, bMulL (i := (k1 : Int)) (j := 10 ^ 33) (by omega) (by omega)]
  refine Ok.bn (draw_ok (hp1.le (show 999998 + 1 ≤ 999999 by decide)) (by decide) (by decide)) ?_
  rintro _ ⟨k2, p2, rfl, hk2, hp2⟩
  erw []
  refine Ok.bn (draw_ok (n := 9) (hp2.le (show 999997 + 1 ≤ 999998 by decide)) (by decide) (by decide)) ?_
  rintro _ ⟨k3, p3, rfl, hk3, hp3⟩
  obtain ⟨x, hx, ex⟩ := strs_mul k3 hk3
  erw []
  have ex' : binD .Mult (.str (Str.ofString "x")) (.int (k3 : Int)) = some (.str x) := ex
  erw [ex']
  refine Ok.bn (pick_ok (hp3.le (show 999996 + 1 ≤ 999997 by decide)) (by exact List.cons_ne_nil _ _) (show 9 < 1073741824 by decide)) ?_
  rintro _ ⟨k4, p4, d, rfl, hd, hp4⟩
  erw []
  exact ⟨_, rfl, puD p4, (k1 : Int) * 10 ^ 33 + k2, k4, x, hx, by omega, Option.map_eq_some_iff.mpr ⟨d, hd, rfl⟩⟩
/-! ### the nine values -/
theorem g_a (ρ : List Sl) (d : D) (hρ : ∃ s0 s1 s2 s4 s5 s6, ρ = [s0, s1, s2, .sh d, s4, s5, s6]) (h : pf__law_right.f [exD d, d] = some (.bl true, .non)) : wB ΓL t701 (aft ρ d) ⟨fun ρ' => ρ' = aft ρ d, fun _ _ => False⟩ := by
  obtain ⟨s0, s1, s2, s4, s5, s6, rfl⟩ := hρ
  exact xB_ok t701 (v7 s0 s1 s2 d h) rfl
theorem g_r (d : D) (h : pf__law_right.f [exD d, d] = some (.bl true, .non)) : wB ΓL t1001 (sl7 .un .un .un (.sh d) (.sh (exD d)) (.sh (exD d)) .un) ⟨fun _ => False, fun s _ => s = .sh (.bl true)⟩ :=
  xB_ok t1001 (v10 d h) rfl
theorem g_m {s s' : List Sl} (h : xB (tab (entL T_law)) tM01 s = some (.nx s')) : wB ΓL tM01 s ⟨fun ρ' => ρ' = s', fun _ _ => False⟩ := xB_ok tM01 h rfl
theorem good_sh (s0 s1 s2 : Sl) (d : D) (h : pf__law_right.f [exD d, d] = some (.bl true, .non)) (m : xB (tab (entL T_law)) tM01 (sl7 .un .un .un (.sh d) .un .un .un) = some (.nx (sl7 .un .un .un (.sh d) .un .un .un))) : GoodD (sl7 s0 s1 s2 (.sh d) .un .un .un) d :=
  ⟨g_a _ d ⟨_, _, _, _, _, _, rfl⟩ h, .inr ⟨g_m m, g_r d h⟩⟩
theorem good_ow (s0 s1 s2 : Sl) (d d' : D) (o : ∀ g, OwnD g d) (h : pf__law_right.f [exD d, d] = some (.bl true, .non)) (h' : pf__law_right.f [exD d', d'] = some (.bl true, .non))
    (m : xB (tab (entL T_law)) tM01 (sl7 .un .un .un (.ow d) .un .un .un) = some (.nx (sl7 .un .un .un (.ow d') .un .un .un))) : GoodD (sl7 s0 s1 s2 (.sh d) .un .un .un) d :=
  ⟨g_a _ d ⟨_, _, _, _, _, _, rfl⟩ h, .inl ⟨o, d', g_m m, g_r d' h'⟩⟩
theorem good9 (s0 s1 s2 : Sl) (n : Int) (x : Str) (k : Nat) (d : D) (hx : x ∈ strs9) (hn : n.natAbs < 10 ^ 40) (hd : [D.non, .bl true, .int n, .int (0 - n), .str x, .tup [], .lst [.int n], d_two, .dic []][k]? = some d) : GoodD (sl7 s0 s1 s2 (.sh d) .un .un .un) d := by
  match k, hd with
  | 0, e => cases e; exact good_sh _ _ _ _ r_non m_non
  | 1, e => cases e; exact good_sh _ _ _ _ r_tru m_tru
  | 2, e => cases e; exact good_sh _ _ _ _ (rq_int n hn) (m_i n)
  | 3, e => cases e; exact good_sh _ _ _ _ (rq_int (0 - n) (by omega)) (m_i (0 - n))
  | 4, e => cases e; exact good_sh _ _ _ _ (r_str x hx) (m_s x)
  | 5, e => cases e; exact good_sh _ _ _ _ rr_tup m_tup
  | 6, e => cases e; exact good_ow _ _ _ _ _ (fun _ => own_int) (rq_lst n hn) (rq_lstm n hn) (m_int n)
  | 7, e => cases e; exact good_ow _ _ _ _ _ (fun _ => own_two) r_two r_twom m_two
  | 8, e => cases e; exact good_ow _ _ _ _ _ (fun _ => own_dic0) r_dic r_dicm m_dic
  | k + 9, e => cases e
theorem law_ok (ns : List Int) : LawD ns := by
  obtain ⟨r, hr, p, n, k, x, hx, hn, he⟩ := law_data ns
  obtain ⟨d, hd, he⟩ := Option.map_eq_some_iff.mp he
  refine xB_ok tA01 hr ?_
  rw [← he]
  exact ⟨p, .int n, d, rfl, good9 _ _ _ n x k d hx hn hd⟩
end FT

theorem PySem.Challenge.cw_fittrees_k01_errors_made_holds : PySem.Challenge.rw_fittrees_k01_errors_made.Holds :=
  FT.law_of FT.law_ok
