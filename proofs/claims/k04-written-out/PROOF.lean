import PyProof.Rows.All
import Wide.All
import OpenK.AllK
import Wide.FinOn
import HandS.ForMost
import HandS.ForExc
import HandS.HeadHook2
import HandS.Flow
import HandS.StrMore
import HandS.IsInst
import HandS.TupAny
import HandS.Dict
import HandS.Text
import HandS.HeadEnd
import HandS.EndBits
import HandS.Conv
import HandS.Replace
import HandS.ReplaceLit
import HandS.ReplaceList
import HandS.Head0
import HandS.Head1
import HandS.Head2
import HandS.HeadHook1
import HandS.HeadHook3
import HandS.HeadHook4
import KE.KStateDown
import Lean
import PySem.Challenge.RW_settledland_k04_things_written_out
set_option Elab.async false
set_option linter.all false
set_option maxRecDepth 100000
set_option maxHeartbeats 0
namespace Sm
open PySem PySem.Spec PyProof.Rows L2

/-! ### data -/
inductive Tg where
  | tup | lst | kl | dk (ks : List Key) | dt (ks : List (List Key)) | ins (C : Str) (fs : List Str)
  deriving DecidableEq
inductive D where
  | a (x : V)
  | n (t : Tg) (ds : List D)
  | sh (d : D)

abbrev D.non : D := .a .non
abbrev D.bl (b : Bool) : D := .a (.bl b)
abbrev D.int (i : Int) : D := .a (.int i)
abbrev D.str (x : Str) : D := .a (.str x)
abbrev D.tup (ds : List D) : D := .n .tup ds
abbrev D.lst (ds : List D) : D := .n .lst ds

/-- a tuple: tracked, or an object of the module -/
def TupAt (K : PySem.W.Frag) (F : Hp) (a : Addr) (xs : List V) : Prop :=
  F a = some (.tup xs) ∨ ∃ (o : Obj) (its : Array Value) (n : Nat), K.lookup a = some o ∧ o.cls = .type "tuple" ∧ o.data = .seq its n ∧ its.size ≤ sizeLine ∧ Vals xs its.toList
theorem TupAt.sq {K : PySem.W.Frag} {F : Hp} {a : Addr} {xs : List V} : TupAt K F a xs → SqT K F a xs
  | .inl h => .inl (.inl h)
  | .inr h => .inr h
/-- the object that stands for a node, read off a heap -/
def At (K : PySem.W.Frag) (F : Hp) (a : Addr) : Tg → List V → Prop
  | .tup, vs => TupAt K F a vs
  | .lst, vs => Rd F a (.lst vs)
  | .kl, vs => SqL K F a vs
  | .dk ks, vs => ks.length = vs.length ∧ ks.Nodup ∧ Rd F a (.dK (ks.zip vs))
  | .dt ks, vs => ks.length = vs.length ∧ ks.Nodup ∧ Rd F a (.dT (ks.zip vs))
  | .ins C fs, vs => fs.length = vs.length ∧ ∃ dx, Rd F a (.ins (He.ga K C) dx (fs.zip vs))
/-- a node that one may write -/
def Own (K : PySem.W.Frag) (H : Hp) (a : Addr) : Tg → List V → Prop
  | .tup, _ => False
  | .lst, vs => H a = some (.lst vs)
  | .kl, _ => False
  | .dk ks, vs => ks.length = vs.length ∧ ks.Nodup ∧ H a = some (.dK (ks.zip vs))
  | .dt ks, vs => ks.length = vs.length ∧ ks.Nodup ∧ H a = some (.dT (ks.zip vs))
  | .ins C fs, vs => fs.length = vs.length ∧ ∃ dx, H a = some (.ins (He.ga K C) dx (fs.zip vs))

mutual
/-- what a value stands for, by a heap -/
def Val (K : PySem.W.Frag) (F : Hp) : D → V → Prop
  | .a x, v => v = x
  | .n t ds, v => ∃ a vs, v = .ref a ∧ At K F a t vs ∧ Vls K F ds vs
  | .sh d, v => Val K F d v
def Vls (K : PySem.W.Frag) (F : Hp) : List D → List V → Prop
  | [], vs => vs = []
  | d :: ds, vs => ∃ v r, vs = v :: r ∧ Val K F d v ∧ Vls K F ds r
end
mutual
/-- .. with what is owned: F the frozen part, O the addresses that are owned -/
def Rep (K : PySem.W.Frag) (F H : Hp) : D → V → List Addr → Prop
  | .a x, v, O => v = x ∧ O = []
  | .n t ds, v, O => ∃ a vs O', v = .ref a ∧ Rps K F H ds vs O' ∧ ((t = .tup ∧ At K F a .tup vs ∧ O = O') ∨ (Own K H a t vs ∧ O = a :: O'))
  | .sh d, v, O => Val K F d v ∧ O = []
def Rps (K : PySem.W.Frag) (F H : Hp) : List D → List V → List Addr → Prop
  | [], vs, O => vs = [] ∧ O = []
  | d :: ds, vs, O => ∃ v r O1 O2, vs = v :: r ∧ O = O1 ++ O2 ∧ Rep K F H d v O1 ∧ Rps K F H ds r O2
end
mutual
def fre : D → Bool
  | .a _ => true
  | .n t ds => decide (t = .tup) && fres ds
  | .sh _ => true
def fres : List D → Bool
  | [] => true
  | d :: ds => fre d && fres ds
end
mutual
def cln : D → Bool
  | .a _ => true
  | .n _ ds => clns ds
  | .sh _ => false
def clns : List D → Bool
  | [] => true
  | d :: ds => cln d && clns ds
end
mutual
def shr : D → D
  | .a x => .a x
  | .n t ds => if t = .tup then .n .tup (shrs ds) else .sh (.n t ds)
  | .sh d => .sh d
def shrs : List D → List D
  | [] => []
  | d :: ds => shr d :: shrs ds
end
/-- one level of what is shared, opened -/
def un : D → D
  | .a x => .a x
  | .n t ds => .n t ds
  | .sh d => match d with
    | .a x => .a x
    | .n t ds => .n t (shrs ds)
    | .sh d' => un (.sh d')

theorem Rd.sub {F H : Hp} (h : ∀ a o, F a = some o → H a = some o) {a : Addr} {u : HO} : Rd F a u → Rd H a u
  | .inl e => .inl (h _ _ e)
  | .inr ⟨o, e⟩ => .inr ⟨o, h _ _ e⟩
/-- F is readable in H -/
structure Le (F H : Hp) : Prop where
  rd : ∀ a u, Rd F a u → Rd H a u
  tp : ∀ a xs, F a = some (.tup xs) → H a = some (.tup xs)
theorem Le.refl (F : Hp) : Le F F := ⟨fun _ _ h => h, fun _ _ h => h⟩
theorem Le.trans {F G H : Hp} (a : Le F G) (b : Le G H) : Le F H := ⟨fun _ _ h => b.rd _ _ (a.rd _ _ h), fun _ _ h => b.tp _ _ (a.tp _ _ h)⟩
theorem Le.of {F H : Hp} (h : ∀ a o, F a = some o → H a = some o) : Le F H := ⟨fun _ _ => Rd.sub h, fun a xs => h a _⟩
section
variable {K : PySem.W.Frag} {F F' G H H' : Hp} {a : Addr} {t : Tg} {vs : List V}
theorem TupAt.le {a : Addr} {xs : List V} (h : Le F F') : TupAt K F a xs → TupAt K F' a xs
  | .inl e => .inl (h.tp _ _ e)
  | .inr e => .inr e
theorem At.mono (h : Le F F') : At K F a t vs → At K F' a t vs := by
  cases t with
  | tup => exact TupAt.le h
  | lst => exact h.rd _ _
  | kl => exact fun z => z.imp (h.rd _ _) id
  | dk ks => exact fun ⟨l, n, r⟩ => ⟨l, n, h.rd _ _ r⟩
  | dt ks => exact fun ⟨l, n, r⟩ => ⟨l, n, h.rd _ _ r⟩
  | ins C fs => exact fun ⟨l, dx, r⟩ => ⟨l, dx, h.rd _ _ r⟩
theorem Own.at (h : Own K H a t vs) : At K H a t vs := by
  cases t with
  | tup => exact h.elim
  | lst => exact .inl h
  | kl => exact h.elim
  | dk ks => exact ⟨h.1, h.2.1, .inl h.2.2⟩
  | dt ks => exact ⟨h.1, h.2.1, .inl h.2.2⟩
  | ins C fs => exact ⟨h.1, h.2.choose, .inl h.2.choose_spec⟩
theorem Own.eqv (e : H' a = H a) (h : Own K H a t vs) : Own K H' a t vs := by
  cases t with
  | tup => exact h.elim
  | lst => exact e.trans h
  | kl => exact h.elim
  | dk ks => exact ⟨h.1, h.2.1, e.trans h.2.2⟩
  | dt ks => exact ⟨h.1, h.2.1, e.trans h.2.2⟩
  | ins C fs => exact ⟨h.1, h.2.choose, e.trans h.2.choose_spec⟩
theorem Own.ne (h : Own K H a t vs) : t ≠ .tup := by
  rintro rfl
  exact h
theorem Own.some (h : Own K H a t vs) : ∃ o, H a = some o := by
  cases t with
  | tup => exact h.elim
  | lst => exact ⟨_, h⟩
  | kl => exact h.elim
  | dk ks => exact ⟨_, h.2.2⟩
  | dt ks => exact ⟨_, h.2.2⟩
  | ins C fs => exact ⟨_, h.2.choose_spec⟩
theorem Own.notup (h : Own K H a t vs) (xs : List V) : H a ≠ Option.some (.tup xs) := by
  intro e
  cases t with
  | tup => exact h.elim
  | lst => rw [show H a = _ from h] at e; cases e
  | kl => exact h.elim
  | dk ks => rw [h.2.2] at e; cases e
  | dt ks => rw [h.2.2] at e; cases e
  | ins C fs => rw [h.2.choose_spec] at e; cases e
end

mutual
theorem Val.mono {K : PySem.W.Frag} {F F' : Hp} (h : Le F F') : ∀ (d : D) (v : V), Val K F d v → Val K F' d v
  | .a x, v, e => by unfold Val at *; exact e
  | .n t ds, v, e => by
    unfold Val at *
    obtain ⟨a, vs, e1, e2, e3⟩ := e
    exact ⟨a, vs, e1, e2.mono h, Vls.mono h ds vs e3⟩
  | .sh d, v, e => by
    unfold Val at *
    exact Val.mono h d v e
theorem Vls.mono {K : PySem.W.Frag} {F F' : Hp} (h : Le F F') : ∀ (ds : List D) (vs : List V), Vls K F ds vs → Vls K F' ds vs
  | [], vs, e => by unfold Vls at *; exact e
  | d :: ds, vs, e => by
    unfold Vls at *
    obtain ⟨v, r, e1, e2, e3⟩ := e
    exact ⟨v, r, e1, Val.mono h d v e2, Vls.mono h ds r e3⟩
end
mutual
theorem Rep.val {K : PySem.W.Frag} {F H : Hp} (h : Le F H) : ∀ (d : D) (v : V) (O : List Addr), Rep K F H d v O → Val K H d v
  | .a x, v, O, e => by unfold Rep at e; unfold Val; exact e.1
  | .n t ds, v, O, e => by
    unfold Rep at e
    unfold Val
    obtain ⟨a, vs, O', e1, e2, e3⟩ := e
    refine ⟨a, vs, e1, ?_, Rps.vls h ds vs O' e2⟩
    rcases e3 with ⟨rfl, e4, _⟩ | ⟨e4, _⟩
    · exact e4.mono h
    · exact e4.at
  | .sh d, v, O, e => by unfold Rep at e; unfold Val; exact Val.mono h d v e.1
theorem Rps.vls {K : PySem.W.Frag} {F H : Hp} (h : Le F H) : ∀ (ds : List D) (vs : List V) (O : List Addr), Rps K F H ds vs O → Vls K H ds vs
  | [], vs, O, e => by unfold Rps at e; unfold Vls; exact e.1
  | d :: ds, vs, O, e => by
    unfold Rps at e
    unfold Vls
    obtain ⟨v, r, O1, O2, e1, _, e3, e4⟩ := e
    exact ⟨v, r, e1, Rep.val h d v O1 e3, Rps.vls h ds r O2 e4⟩
end
mutual
theorem Rep.frame {K : PySem.W.Frag} {F F' H H' : Hp} (h : Le F F') : ∀ (d : D) (v : V) (O : List Addr), (∀ a ∈ O, H' a = H a) → Rep K F H d v O → Rep K F' H' d v O
  | .a x, v, O, _, e => by unfold Rep at *; exact e
  | .n t ds, v, O, k, e => by
    unfold Rep at *
    obtain ⟨a, vs, O', e1, e2, e3⟩ := e
    rcases e3 with ⟨e3, e4, e5⟩ | ⟨e4, e5⟩
    · exact ⟨a, vs, O', e1, Rps.frame h ds vs O' (fun b hb => k b (e5 ▸ hb)) e2, .inl ⟨e3, e4.mono h, e5⟩⟩
    · exact ⟨a, vs, O', e1, Rps.frame h ds vs O' (fun b hb => k b (e5 ▸ List.mem_cons_of_mem _ hb)) e2, .inr ⟨e4.eqv (k a (e5 ▸ List.mem_cons_self)), e5⟩⟩
  | .sh d, v, O, _, e => by unfold Rep at *; exact ⟨Val.mono h d v e.1, e.2⟩
theorem Rps.frame {K : PySem.W.Frag} {F F' H H' : Hp} (h : Le F F') : ∀ (ds : List D) (vs : List V) (O : List Addr), (∀ a ∈ O, H' a = H a) → Rps K F H ds vs O → Rps K F' H' ds vs O
  | [], vs, O, _, e => by unfold Rps at *; exact e
  | d :: ds, vs, O, k, e => by
    unfold Rps at *
    obtain ⟨v, r, O1, O2, e1, e2, e3, e4⟩ := e
    exact ⟨v, r, O1, O2, e1, e2, Rep.frame h d v O1 (fun b hb => k b (e2 ▸ List.mem_append_left _ hb)) e3, Rps.frame h ds r O2 (fun b hb => k b (e2 ▸ List.mem_append_right _ hb)) e4⟩
end
mutual
theorem Rep.nil {K : PySem.W.Frag} {F H : Hp} : ∀ (d : D) (v : V) (O : List Addr), fre d = true → Rep K F H d v O → O = []
  | .a x, v, O, _, e => by unfold Rep at e; exact e.2
  | .n t ds, v, O, k, e => by
    unfold Rep at e
    unfold fre at k
    obtain ⟨a, vs, O', e1, e2, e3⟩ := e
    obtain ⟨k1, k2⟩ := Bool.and_eq_true_iff.mp k
    rcases e3 with ⟨e3, e4, e5⟩ | ⟨e4, e5⟩
    · rw [e5]
      exact Rps.nil ds vs O' k2 e2
    · exact absurd (of_decide_eq_true k1) e4.ne
  | .sh d, v, O, _, e => by unfold Rep at e; exact e.2
theorem Rps.nil {K : PySem.W.Frag} {F H : Hp} : ∀ (ds : List D) (vs : List V) (O : List Addr), fres ds = true → Rps K F H ds vs O → O = []
  | [], vs, O, _, e => by unfold Rps at e; exact e.2
  | d :: ds, vs, O, k, e => by
    unfold Rps at e
    unfold fres at k
    obtain ⟨v, r, O1, O2, e1, e2, e3, e4⟩ := e
    obtain ⟨k1, k2⟩ := Bool.and_eq_true_iff.mp k
    rw [e2, Rep.nil d v O1 k1 e3, Rps.nil ds r O2 k2 e4]
    rfl
end
mutual
theorem Rep.share {K : PySem.W.Frag} {F H : Hp} : ∀ (d : D) (v : V), Val K F d v → Rep K F H (shr d) v []
  | .a x, v, e => by unfold Val at e; unfold shr Rep; exact ⟨e, rfl⟩
  | .n t ds, v, e => by
    unfold shr
    by_cases h : t = .tup
    · rw [if_pos h]
      subst h
      unfold Val at e
      unfold Rep
      obtain ⟨a, vs, e1, e2, e3⟩ := e
      exact ⟨a, vs, [], e1, Rps.shares ds vs e3, .inl ⟨rfl, e2, rfl⟩⟩
    · rw [if_neg h]
      unfold Rep
      exact ⟨e, rfl⟩
  | .sh d, v, e => by unfold Val at e; unfold shr Rep; exact ⟨e, rfl⟩
theorem Rps.shares {K : PySem.W.Frag} {F H : Hp} : ∀ (ds : List D) (vs : List V), Vls K F ds vs → Rps K F H (shrs ds) vs []
  | [], vs, e => by unfold Vls at e; unfold shrs Rps; exact ⟨e, rfl⟩
  | d :: ds, vs, e => by
    unfold Vls at e
    unfold shrs Rps
    obtain ⟨v, r, e1, e2, e3⟩ := e
    exact ⟨v, r, [], [], e1, rfl, Rep.share d v e2, Rps.shares ds r e3⟩
end
mutual
theorem fre_shr : ∀ d : D, fre (shr d) = true
  | .a _ => by unfold shr fre; rfl
  | .n t ds => by
    unfold shr
    by_cases h : t = .tup
    · rw [if_pos h]
      unfold fre
      rw [fres_shrs ds]
      rfl
    · rw [if_neg h]
      unfold fre
      rfl
  | .sh _ => by unfold shr fre; rfl
theorem fres_shrs : ∀ ds : List D, fres (shrs ds) = true
  | [] => by unfold shrs fres; rfl
  | d :: ds => by
    unfold shrs fres
    rw [fre_shr d, fres_shrs ds]
    rfl
end
mutual
theorem Val.share {K : PySem.W.Frag} {F : Hp} : ∀ (d : D) (v : V), Val K F (shr d) v ↔ Val K F d v
  | .a x, v => by unfold shr; exact Iff.rfl
  | .n t ds, v => by
    unfold shr
    by_cases h : t = .tup
    · rw [if_pos h, h]
      unfold Val
      exact ⟨fun ⟨a, vs, e1, e2, e3⟩ => ⟨a, vs, e1, e2, (Vls.shares ds vs).mp e3⟩, fun ⟨a, vs, e1, e2, e3⟩ => ⟨a, vs, e1, e2, (Vls.shares ds vs).mpr e3⟩⟩
    · rw [if_neg h]
      conv => lhs; unfold Val
  | .sh d, v => by unfold shr; exact Iff.rfl
theorem Vls.shares {K : PySem.W.Frag} {F : Hp} : ∀ (ds : List D) (vs : List V), Vls K F (shrs ds) vs ↔ Vls K F ds vs
  | [], vs => by unfold shrs; exact Iff.rfl
  | d :: ds, vs => by
    unfold shrs Vls
    exact ⟨fun ⟨v, r, e1, e2, e3⟩ => ⟨v, r, e1, (Val.share d v).mp e2, (Vls.shares ds r).mp e3⟩, fun ⟨v, r, e1, e2, e3⟩ => ⟨v, r, e1, (Val.share d v).mpr e2, (Vls.shares ds r).mpr e3⟩⟩
end
theorem Val.un {K : PySem.W.Frag} {F : Hp} : ∀ (d : D) (v : V), Val K F (Sm.un d) v ↔ Val K F d v
  | .a x, v => by unfold Sm.un; exact Iff.rfl
  | .n t ds, v => by unfold Sm.un; exact Iff.rfl
  | .sh (.a x), v => by
    unfold Sm.un
    conv => rhs; unfold Val
  | .sh (.n t ds), v => by
    unfold Sm.un
    conv => rhs; unfold Val
    unfold Val
    exact ⟨fun ⟨a, vs, e1, e2, e3⟩ => ⟨a, vs, e1, e2, (Vls.shares ds vs).mp e3⟩, fun ⟨a, vs, e1, e2, e3⟩ => ⟨a, vs, e1, e2, (Vls.shares ds vs).mpr e3⟩⟩
  | .sh (.sh d), v => by
    unfold Sm.un
    conv => rhs; unfold Val
    exact Val.un (.sh d) v
end Sm

namespace Sm
open PySem PySem.Spec PyProof.Rows L2

/-! ### items -/
abbrev It := D × V
def Its (K : PySem.W.Frag) (F H : Hp) : List It → List Addr → Prop
  | [], O => O = []
  | p :: I, O => ∃ O1 O2, O = O1 ++ O2 ∧ Rep K F H p.1 p.2 O1 ∧ Its K F H I O2
section
variable {K : PySem.W.Frag} {F F' H H' : Hp}
theorem Its.app : ∀ {I J : List It} {O : List Addr}, Its K F H (I ++ J) O ↔ ∃ O1 O2, O = O1 ++ O2 ∧ Its K F H I O1 ∧ Its K F H J O2
  | [], J, O => ⟨fun h => ⟨[], O, rfl, rfl, h⟩, fun ⟨O1, O2, e, e1, e2⟩ => by
      have e1' : O1 = [] := e1
      subst e e1'
      exact e2⟩
  | p :: I, J, O => ⟨fun h => by
      obtain ⟨O1, O2, e, r, t⟩ := h
      obtain ⟨O3, O4, e2, t1, t2⟩ := Its.app.mp t
      exact ⟨O1 ++ O3, O4, by rw [e, e2, List.append_assoc], ⟨O1, O3, rfl, r, t1⟩, t2⟩, fun ⟨O1, O2, e, ⟨O3, O4, e2, r, t⟩, t2⟩ =>
      ⟨O3, O4 ++ O2, by rw [e, e2, List.append_assoc], r, Its.app.mpr ⟨O4, O2, rfl, t, t2⟩⟩⟩
theorem Its.perm {I J : List It} (p : I.Perm J) : ∀ {O : List Addr}, Its K F H I O → ∃ O', O'.Perm O ∧ Its K F H J O' := by
  induction p with
  | nil => exact fun h => ⟨_, .refl _, h⟩
  | cons x _ ih =>
    rintro O ⟨O1, O2, rfl, r, t⟩
    obtain ⟨O', p, t'⟩ := ih t
    exact ⟨O1 ++ O', p.append_left _, ⟨O1, O', rfl, r, t'⟩⟩
  | swap x y l =>
    rintro O ⟨O1, _, rfl, r1, O2, O3, rfl, r2, t⟩
    refine ⟨O2 ++ (O1 ++ O3), ?_, ⟨O2, _, rfl, r2, O1, O3, rfl, r1, t⟩⟩
    rw [← List.append_assoc, ← List.append_assoc]
    exact List.perm_append_comm.append_right _
  | trans _ _ ih1 ih2 =>
    intro O h
    obtain ⟨O1, p1, h1⟩ := ih1 h
    obtain ⟨O2, p2, h2⟩ := ih2 h1
    exact ⟨O2, p2.trans p1, h2⟩
theorem Its.sublist {I J : List It} (p : J.Sublist I) : ∀ {O : List Addr}, Its K F H I O → ∃ O', O'.Sublist O ∧ Its K F H J O' := by
  induction p with
  | slnil => exact fun h => ⟨_, .refl _, h⟩
  | cons x _ ih =>
    rintro O ⟨O1, O2, rfl, r, t⟩
    obtain ⟨O', p, t'⟩ := ih t
    exact ⟨O', p.trans (List.sublist_append_right _ _), t'⟩
  | cons_cons x _ ih =>
    rintro O ⟨O1, O2, rfl, r, t⟩
    obtain ⟨O', p, t'⟩ := ih t
    exact ⟨O1 ++ O', p.append_left _, ⟨O1, O', rfl, r, t'⟩⟩
theorem Its.frame (h : Le F F') : ∀ {I : List It} {O : List Addr}, (∀ a ∈ O, H' a = H a) → Its K F H I O → Its K F' H' I O
  | [], O, _, e => e
  | p :: I, O, k, ⟨O1, O2, e, r, t⟩ => ⟨O1, O2, e, r.frame h _ _ _ fun a ha => k a (e ▸ List.mem_append_left _ ha), Its.frame h (fun a ha => k a (e ▸ List.mem_append_right _ ha)) t⟩
theorem Rps.its : ∀ {ds : List D} {vs : List V} {O : List Addr}, Rps K F H ds vs O ↔ ds.length = vs.length ∧ Its K F H (ds.zip vs) O
  | [], vs, O => by
    unfold Rps
    exact ⟨fun ⟨e1, e2⟩ => ⟨by rw [e1] <;> rfl, e2⟩, fun ⟨e1, e2⟩ => ⟨List.length_eq_zero_iff.mp e1.symm, e2⟩⟩
  | d :: ds, [], O => by
    unfold Rps
    exact ⟨fun ⟨_, _, _, _, e, _⟩ => (by cases e), fun ⟨e, _⟩ => (by cases e)⟩
  | d :: ds, v :: vs, O => by
    unfold Rps
    refine ⟨fun ⟨w, r, O1, O2, e1, e2, e3, e4⟩ => ?_, fun ⟨e, O1, O2, e2, e3, e4⟩ => ?_⟩
    · obtain ⟨rfl, rfl⟩ := List.cons.inj e1
      obtain ⟨l, t⟩ := Rps.its.mp e4
      exact ⟨congrArg Nat.succ l, O1, O2, e2, e3, t⟩
    · exact ⟨v, vs, O1, O2, rfl, e2, e3, Rps.its.mpr ⟨Nat.succ.inj e, e4⟩⟩
theorem Its.mem : ∀ {I : List It} {O : List Addr}, Its K F H I O → ∀ p ∈ I, ∃ O1, Rep K F H p.1 p.2 O1 ∧ ∀ a ∈ O1, a ∈ O
  | [], _, _, p, hp => by cases hp
  | q :: I, O, ⟨O1, O2, e, r, t⟩, p, hp => by
    rcases List.mem_cons.mp hp with rfl | hp
    · exact ⟨O1, r, fun a ha => e ▸ List.mem_append_left _ ha⟩
    · obtain ⟨O3, r3, k⟩ := Its.mem t p hp
      exact ⟨O3, r3, fun a ha => e ▸ List.mem_append_right _ (k a ha)⟩
/-- what a footprint holds is there, and no tuple -/
theorem foot {K : PySem.W.Frag} {F H : Hp} : (∀ (d : D) (v : V) (O : List Addr), Rep K F H d v O → ∀ a ∈ O, ∃ t vs, Own K H a t vs) := by
  intro d
  refine D.rec (motive_1 := fun d => ∀ (v : V) (O : List Addr), Rep K F H d v O → ∀ a ∈ O, ∃ t vs, Own K H a t vs) (motive_2 := fun ds => ∀ (vs : List V) (O : List Addr), Rps K F H ds vs O → ∀ a ∈ O, ∃ t vs, Own K H a t vs) ?_ ?_ ?_ ?_ ?_ d
  · intro x v O e a ha
    unfold Rep at e
    rw [e.2] at ha
    cases ha
  · intro t ds ih v O e a ha
    unfold Rep at e
    obtain ⟨b, vs, O', e1, e2, e3⟩ := e
    rcases e3 with ⟨_, _, e5⟩ | ⟨e4, e5⟩
    · exact ih vs O' e2 a (e5 ▸ ha)
    · rw [e5] at ha
      rcases List.mem_cons.mp ha with rfl | ha
      · exact ⟨t, vs, e4⟩
      · exact ih vs O' e2 a ha
  · intro d _ v O e a ha
    unfold Rep at e
    rw [e.2] at ha
    cases ha
  · intro vs O e a ha
    unfold Rps at e
    rw [e.2] at ha
    cases ha
  · intro d ds ih1 ih2 vs O e a ha
    unfold Rps at e
    obtain ⟨v, r, O1, O2, e1, e2, e3, e4⟩ := e
    rw [e2] at ha
    rcases List.mem_append.mp ha with ha | ha
    · exact ih1 v O1 e3 a ha
    · exact ih2 r O2 e4 a ha
theorem Its.foot : ∀ {I : List It} {O : List Addr}, Its K F H I O → ∀ a ∈ O, ∃ t vs, Own K H a t vs
  | [], O, e, a, ha => by
    have e' : O = [] := e
    rw [e'] at ha
    cases ha
  | p :: I, O, ⟨O1, O2, e, r, t⟩, a, ha => by
    rw [e] at ha
    rcases List.mem_append.mp ha with ha | ha
    · exact Sm.foot _ _ _ r a ha
    · exact Its.foot t a ha
end

/-- the entry of a def: its heap, what is frozen there, what may be changed -/
structure Bs where
  H0 : Hp
  F0 : Hp
  W : List Addr
/-- items are held: R addresses that are reserved besides -/
structure Gd (K : PySem.W.Frag) (B : Bs) (R : List Addr) (F H : Hp) (I : List It) : Prop where
  sub : ∀ a o, F a = some o → H a = some o
  tup : ∀ a xs, H a = some (.tup xs) → F a = some (.tup xs)
  ex : ∃ O, Its K F H I O ∧ (O ++ R).Nodup ∧ ∀ a ∈ O ++ R, F a = none ∧ (B.H0 a = none ∨ a ∈ B.W)
  res : ∀ a ∈ R, ∃ t vs, Own K H a t vs
  base : ∀ a o, B.F0 a = some o → F a = some o
  new : ∀ a o, F a = some o → B.F0 a = some o ∨ B.H0 a = none ∨ a ∈ B.W
  keep : ∀ a o, B.H0 a = some o → a ∉ B.W → H a = some o
section
variable {K : PySem.W.Frag} {B : Bs} {R : List Addr} {F F' H H' : Hp} {I J : List It}
theorem Gd.le (G : Gd K B R F H I) : Le F H := Le.of G.sub
theorem Gd.perm (G : Gd K B R F H I) (p : I.Perm J) : Gd K B R F H J := by
  obtain ⟨O, t, nd, k⟩ := G.ex
  obtain ⟨O', p', t'⟩ := t.perm p
  exact ⟨G.sub, G.tup, ⟨O', t', (p'.append_right R).nodup_iff.mpr nd, fun a ha => k a ((p'.append_right R).mem_iff.mp ha)⟩, G.res, G.base, G.new, G.keep⟩
theorem Gd.drop (G : Gd K B R F H I) (p : J.Sublist I) : Gd K B R F H J := by
  obtain ⟨O, t, nd, k⟩ := G.ex
  obtain ⟨O', p', t'⟩ := t.sublist p
  exact ⟨G.sub, G.tup, ⟨O', t', nd.sublist (p'.append_right R), fun a ha => k a ((p'.append_right R).subset ha)⟩, G.res, G.base, G.new, G.keep⟩
theorem Gd.tail {p : It} (G : Gd K B R F H (p :: I)) : Gd K B R F H I := G.drop (List.sublist_cons_self _ _)
theorem Gd.left (G : Gd K B R F H (I ++ J)) : Gd K B R F H I := G.drop (List.sublist_append_left _ _)
theorem Gd.right (G : Gd K B R F H (I ++ J)) : Gd K B R F H J := G.drop (List.sublist_append_right _ _)
/-- what an item stands for -/
theorem Gd.val {d : D} {v : V} (G : Gd K B R F H I) (h : (d, v) ∈ I) : Val K H d v := by
  obtain ⟨O, t, _, _⟩ := G.ex
  obtain ⟨O1, r, _⟩ := t.mem _ h
  exact r.val G.le _ _ _
theorem Gd.val0 {d : D} {v : V} (G : Gd K B R F H ((d, v) :: I)) : Val K H d v := G.val List.mem_cons_self
/-- a free item is in the frozen part -/
theorem Gd.fval {d : D} {v : V} (G : Gd K B R F H I) (h : (d, v) ∈ I) (f : fre d = true) : Rep K F H d v [] := by
  obtain ⟨O, t, _, _⟩ := G.ex
  obtain ⟨O1, r, _⟩ := t.mem _ h
  have e := r.nil _ _ _ f
  rw [e] at r
  exact r
/-- one more item that owns nothing -/
theorem Gd.add {d : D} {v : V} (G : Gd K B R F H I) (r : Rep K F H d v []) : Gd K B R F H ((d, v) :: I) := by
  obtain ⟨O, t, nd, k⟩ := G.ex
  exact ⟨G.sub, G.tup, ⟨O, ⟨[], O, rfl, r, t⟩, nd, k⟩, G.res, G.base, G.new, G.keep⟩
theorem Gd.atom {x : V} (G : Gd K B R F H I) : Gd K B R F H ((.a x, x) :: I) := G.add (by unfold Rep; exact ⟨rfl, rfl⟩)
theorem Gd.dup {d : D} {v : V} (G : Gd K B R F H I) (h : (d, v) ∈ I) (f : fre d = true) : Gd K B R F H ((d, v) :: I) := G.add (G.fval h f)
/-- a shared copy of what lies in the frozen part -/
theorem Gd.shared {d : D} {v : V} (G : Gd K B R F H I) (h : Val K F d v) : Gd K B R F H ((shr d, v) :: I) := G.add (Rep.share _ _ h)
/-- an object written anew at an owned, open address: the frame -/
theorem Gd.write {a : Addr} {o : HO} {t : Tg} {vs : List V} (G : Gd K B (a :: R) F H I) (own : Own K (upd H a o) a t vs) (nt : ∀ xs, o ≠ .tup xs) :
    Gd K B (a :: R) F (upd H a o) I := by
  obtain ⟨O, t', nd, k⟩ := G.ex
  have ha : F a = none ∧ (B.H0 a = none ∨ a ∈ B.W) := k a (List.mem_append_right _ List.mem_cons_self)
  have hO : ∀ b ∈ O, b ≠ a := fun b hb e => by
    subst e
    exact (List.nodup_append.mp nd).2.2 _ hb _ List.mem_cons_self rfl
  have hR : ∀ b ∈ R, b ≠ a := fun b hb e => by
    subst e
    exact (List.nodup_cons.mp (List.nodup_append.mp nd).2.1).1 hb
  refine ⟨fun b u e => ?_, fun b xs e => ?_, ⟨O, t'.frame (Le.refl _) fun b hb => upd_ne (hO b hb), nd, k⟩, fun b hb => ?_, G.base, G.new, fun b u e hb => ?_⟩
  · rw [upd_ne (show b ≠ a from fun z => by subst z; rw [ha.1] at e; cases e)]
    exact G.sub b u e
  · by_cases z : b = a
    · subst z
      rw [upd_same] at e
      cases e
      exact absurd rfl (nt _)
    · rw [upd_ne z] at e
      exact G.tup b xs e
  · rcases List.mem_cons.mp hb with rfl | hb
    · exact ⟨t, vs, own⟩
    · obtain ⟨t2, vs2, o2⟩ := G.res b (List.mem_cons_of_mem _ hb)
      exact ⟨t2, vs2, o2.eqv (upd_ne (hR b hb))⟩
  · have z : b ≠ a := fun z => by
      subst z
      rcases ha.2 with q | q
      · rw [q] at e; cases e
      · exact hb q
    rw [upd_ne z]
    exact G.keep b u e hb
/-- an owned node is opened -/
theorem Gd.open {t : Tg} {ds : List D} {v : V} (G : Gd K B R F H ((.n t ds, v) :: I)) (ht : t ≠ .tup) : ∃ a vs, v = .ref a ∧ Own K H a t vs ∧ ds.length = vs.length ∧ Gd K B (a :: R) F H (ds.zip vs ++ I) := by
  obtain ⟨O, ⟨O1, O2, e, r, t'⟩, nd, k⟩ := G.ex
  unfold Rep at r
  obtain ⟨a, vs, O', e1, e2, e3⟩ := r
  rcases e3 with ⟨z, _⟩ | ⟨own, e3⟩
  · exact absurd z ht
  · obtain ⟨hl, it⟩ := Rps.its.mp e2
    have e1' : v = V.ref a := e1
    have p : (O ++ R).Perm ((O' ++ O2) ++ (a :: R)) := by
      have e3' : O1 = a :: O' := e3
      rw [e, e3']
      show (a :: (O' ++ O2 ++ R)).Perm (O' ++ O2 ++ a :: R)
      exact List.perm_middle.symm
    refine ⟨a, vs, e1', own, hl, G.sub, G.tup, ⟨O' ++ O2, Its.app.mpr ⟨O', O2, rfl, it, t'⟩, p.nodup_iff.mp nd, fun b hb => k b (p.mem_iff.mpr hb)⟩, fun b hb => ?_, G.base, G.new, G.keep⟩
    rcases List.mem_cons.mp hb with rfl | hb
    · exact ⟨t, vs, own⟩
    · exact G.res b hb
/-- an opened node is closed -/
theorem Gd.close {a : Addr} {t : Tg} {ds : List D} {vs : List V} (G : Gd K B (a :: R) F H (ds.zip vs ++ I)) (own : Own K H a t vs) (hl : ds.length = vs.length) : Gd K B R F H ((.n t ds, .ref a) :: I) := by
  obtain ⟨O, t', nd, k⟩ := G.ex
  obtain ⟨O1, O2, rfl, it, t2⟩ := Its.app.mp t'
  have p : ((a :: O1 ++ O2) ++ R).Perm ((O1 ++ O2) ++ (a :: R)) := by
    show (a :: (O1 ++ O2 ++ R)).Perm (O1 ++ O2 ++ a :: R)
    exact List.perm_middle.symm
  refine ⟨G.sub, G.tup, ⟨a :: O1 ++ O2, ⟨a :: O1, O2, rfl, ?_, t2⟩, p.nodup_iff.mpr nd, fun b hb => k b (p.mem_iff.mp hb)⟩, fun b hb => G.res b (List.mem_cons_of_mem _ hb), G.base, G.new, G.keep⟩
  unfold Rep
  exact ⟨a, vs, O1, rfl, Rps.its.mpr ⟨hl, it⟩, .inr ⟨own, rfl⟩⟩
/-- a tuple is opened -/
theorem Gd.openT {ds : List D} {v : V} (G : Gd K B R F H ((.n .tup ds, v) :: I)) : ∃ a vs, v = .ref a ∧ TupAt K H a vs ∧ ds.length = vs.length ∧ Gd K B R F H (ds.zip vs ++ I) := by
  obtain ⟨O, ⟨O1, O2, e, r, t'⟩, nd, k⟩ := G.ex
  unfold Rep at r
  obtain ⟨a, vs, O', e1, e2, e3⟩ := r
  rcases e3 with ⟨_, h, e3⟩ | ⟨own, _⟩
  · obtain ⟨hl, it⟩ := Rps.its.mp e2
    refine ⟨a, vs, e1, h.le G.le, hl, G.sub, G.tup, ⟨O, Its.app.mpr ⟨O', O2, by rw [e, e3], it, t'⟩, nd, k⟩, G.res, G.base, G.new, G.keep⟩
  · exact own.elim
/-- a new object at a free place -/
theorem Gd.alloc {a : Addr} {o : HO} (G : Gd K B R F H I) (ha : H a = none) (nt : ∀ xs, o ≠ .tup xs) {t : Tg} {vs : List V} (own : Own K (upd H a o) a t vs) : Gd K B (a :: R) F (upd H a o) I := by
  obtain ⟨O, t', nd, k⟩ := G.ex
  have hF : F a = none := by
    cases e : F a with
    | none => rfl
    | some u =>
      rw [G.sub a u e] at ha
      cases ha
  have hO : ∀ b ∈ O ++ R, b ≠ a := fun b hb e => by
    subst e
    rcases List.mem_append.mp hb with hb | hb
    · obtain ⟨t2, vs2, o2⟩ := t'.foot b hb
      obtain ⟨u, e⟩ := o2.some
      rw [e] at ha
      cases ha
    · obtain ⟨t2, vs2, o2⟩ := G.res b hb
      obtain ⟨u, e⟩ := o2.some
      rw [e] at ha
      cases ha
  have h0 : B.H0 a = none ∨ a ∈ B.W := by
    cases e : B.H0 a with
    | none => exact .inl rfl
    | some u =>
      refine .inr ?_
      by_cases z : a ∈ B.W
      · exact z
      · rw [G.keep a u e z] at ha
        cases ha
  have p : (O ++ a :: R).Perm (a :: (O ++ R)) := List.perm_middle
  refine ⟨fun b u e => ?_, fun b xs e => ?_, ⟨O, t'.frame (Le.refl _) fun b hb => upd_ne (hO b (List.mem_append_left _ hb)), p.nodup_iff.mpr (List.nodup_cons.mpr ⟨fun hb => hO a hb rfl, nd⟩), fun b hb => ?_⟩, fun b hb => ?_, G.base, G.new, fun b u e hb => ?_⟩
  · rw [upd_ne (show b ≠ a from fun z => by subst z; rw [hF] at e; cases e)]
    exact G.sub b u e
  · by_cases z : b = a
    · subst z
      rw [upd_same] at e
      cases e
      exact absurd rfl (nt _)
    · rw [upd_ne z] at e
      exact G.tup b xs e
  · rcases List.mem_cons.mp (p.mem_iff.mp hb) with rfl | hb
    · exact ⟨hF, h0⟩
    · exact k b hb
  · rcases List.mem_cons.mp hb with rfl | hb
    · exact ⟨t, vs, own⟩
    · obtain ⟨t2, vs2, o2⟩ := G.res b hb
      exact ⟨t2, vs2, o2.eqv (upd_ne (hO b (List.mem_append_right _ hb)))⟩
  · have z : b ≠ a := fun z => by
      subst z
      rw [G.keep b u e hb] at ha
      cases ha
    rw [upd_ne z]
    exact G.keep b u e hb
/-- a new tuple of items -/
theorem Gd.allocT {a : Addr} {ds : List D} {vs : List V} (G : Gd K B R F H (ds.zip vs ++ I)) (hl : ds.length = vs.length) (ha : H a = none) :
    ∃ F', (∀ b u, F b = some u → F' b = some u) ∧ Gd K B R F' (upd H a (.tup vs)) ((.n .tup ds, .ref a) :: I) := by
  obtain ⟨O, t', nd, k⟩ := G.ex
  have hF : F a = none := by
    cases e : F a with
    | none => rfl
    | some u =>
      rw [G.sub a u e] at ha
      cases ha
  have hO : ∀ b ∈ O ++ R, b ≠ a := fun b hb e => by
    subst e
    rcases List.mem_append.mp hb with hb | hb
    · obtain ⟨t2, vs2, o2⟩ := t'.foot b hb
      obtain ⟨u, e⟩ := o2.some
      rw [e] at ha
      cases ha
    · obtain ⟨t2, vs2, o2⟩ := G.res b hb
      obtain ⟨u, e⟩ := o2.some
      rw [e] at ha
      cases ha
  have h0 : B.H0 a = none ∨ a ∈ B.W := by
    cases e : B.H0 a with
    | none => exact .inl rfl
    | some u =>
      refine .inr ?_
      by_cases z : a ∈ B.W
      · exact z
      · rw [G.keep a u e z] at ha
        cases ha
  have le : Le F (upd F a (.tup vs)) := Le.of fun b u e => by
    rw [upd_ne (show b ≠ a from fun z => by subst z; rw [hF] at e; cases e)]
    exact e
  obtain ⟨O1, O2, rfl, it, t2⟩ := Its.app.mp t'
  refine ⟨upd F a (.tup vs), fun b u e => (by
    rw [upd_ne (show b ≠ a from fun z => by subst z; rw [hF] at e; cases e)]
    exact e), fun b u e => ?_, fun b xs e => ?_, ⟨O1 ++ O2, ⟨O1, O2, rfl, ?_, ?_⟩, nd, fun b hb => ?_⟩, fun b hb => ?_, fun b u e => ?_, fun b u e => ?_, fun b u e hb => ?_⟩
  · by_cases z : b = a
    · subst z
      rw [upd_same] at *
      exact e
    · rw [upd_ne z] at *
      exact G.sub b u e
  · by_cases z : b = a
    · subst z
      rw [upd_same] at *
      exact e
    · rw [upd_ne z] at *
      exact G.tup b xs e
  · unfold Rep
    exact ⟨a, vs, O1, rfl, Rps.its.mpr ⟨hl, it.frame le fun b hb => upd_ne (hO b (List.mem_append_left _ (List.mem_append_left _ hb)))⟩, .inl ⟨rfl, .inl upd_same, rfl⟩⟩
  · exact t2.frame le fun b hb => upd_ne (hO b (List.mem_append_left _ (List.mem_append_right _ hb)))
  · rw [upd_ne (hO b hb)]
    exact k b hb
  · obtain ⟨t2, vs2, o2⟩ := G.res b hb
    exact ⟨t2, vs2, o2.eqv (upd_ne (hO b (List.mem_append_right _ hb)))⟩
  · have z : b ≠ a := fun z => by
      subst z
      rw [G.base b u e] at hF
      cases hF
    rw [upd_ne z]
    exact G.base b u e
  · by_cases z : b = a
    · subst z
      exact .inr h0
    · rw [upd_ne z] at e
      exact G.new b u e
  · have z : b ≠ a := fun z => by
      subst z
      rw [G.keep b u e hb] at ha
      cases ha
    rw [upd_ne z]
    exact G.keep b u e hb
end
end Sm

namespace Sm
open PySem PySem.Spec PyProof.Rows L2

/-! ### freezing -/
mutual
theorem Rep.froze {K : PySem.W.Frag} {F F' H : Hp} (h : Le F F') : ∀ (d : D) (v : V) (O : List Addr), (∀ a ∈ O, F' a = H a) → Rep K F H d v O → Val K F' d v
  | .a x, v, O, _, e => by unfold Rep at e; unfold Val; exact e.1
  | .n t ds, v, O, k, e => by
    unfold Rep at e
    unfold Val
    obtain ⟨a, vs, O', e1, e2, e3⟩ := e
    rcases e3 with ⟨e3, e4, e5⟩ | ⟨e4, e5⟩
    · exact ⟨a, vs, e1, by rw [e3]; exact e4.mono h, Rps.froze h ds vs O' (fun b hb => k b (e5 ▸ hb)) e2⟩
    · exact ⟨a, vs, e1, (e4.eqv (k a (e5 ▸ List.mem_cons_self))).at, Rps.froze h ds vs O' (fun b hb => k b (e5 ▸ List.mem_cons_of_mem _ hb)) e2⟩
  | .sh d, v, O, _, e => by
    unfold Rep at e
    unfold Val
    exact Val.mono h d v e.1
theorem Rps.froze {K : PySem.W.Frag} {F F' H : Hp} (h : Le F F') : ∀ (ds : List D) (vs : List V) (O : List Addr), (∀ a ∈ O, F' a = H a) → Rps K F H ds vs O → Vls K F' ds vs
  | [], vs, O, _, e => by unfold Rps at e; unfold Vls; exact e.1
  | d :: ds, vs, O, k, e => by
    unfold Rps at e
    unfold Vls
    obtain ⟨v, r, O1, O2, e1, e2, e3, e4⟩ := e
    exact ⟨v, r, e1, Rep.froze h d v O1 (fun b hb => k b (e2 ▸ List.mem_append_left _ hb)) e3, Rps.froze h ds r O2 (fun b hb => k b (e2 ▸ List.mem_append_right _ hb)) e4⟩
end
section
variable {K : PySem.W.Frag} {B : Bs} {R : List Addr} {F F' H H' : Hp} {I J : List It}
/-- pointwise -/
def Sub (F H : Hp) : Prop := ∀ a o, F a = some o → H a = some o
theorem Gd.freeze {d : D} {v : V} (G : Gd K B R F H ((d, v) :: I)) : ∃ F', Sub F F' ∧ Gd K B R F' H ((shr d, v) :: I) := by
  obtain ⟨O, ⟨O1, O2, e, r, t⟩, nd, k⟩ := G.ex
  have hO : ∀ a ∈ O1, a ∈ O ++ R := fun a ha => List.mem_append_left _ (e ▸ List.mem_append_left _ ha)
  have sb : Sub F (fun a => if a ∈ O1 then H a else F a) := fun a o ea => by
    show (if a ∈ O1 then H a else F a) = some o
    rw [if_neg fun ha => by rw [(k a (hO a ha)).1] at ea; cases ea]
    exact ea
  have le := Le.of sb
  have nd2 : (O1 ++ (O2 ++ R)).Nodup := by rw [← List.append_assoc, ← e]; exact nd
  refine ⟨fun a => if a ∈ O1 then H a else F a, sb, fun a o ea => ?_, fun a xs ea => ?_, ⟨O2, ⟨[], O2, rfl, Rep.share _ _ (r.froze le _ _ _ fun a ha => if_pos ha), t.frame le fun _ _ => rfl⟩, (List.nodup_append.mp nd2).2.1, fun a ha => ?_⟩, G.res, fun a o ea => sb a o (G.base a o ea), fun a o ea => ?_, G.keep⟩
  · have ea' : (if a ∈ O1 then H a else F a) = some o := ea
    by_cases ha : a ∈ O1
    · rw [if_pos ha] at ea'
      exact ea'
    · rw [if_neg ha] at ea'
      exact G.sub a o ea'
  · show (if a ∈ O1 then H a else F a) = _
    by_cases ha : a ∈ O1
    · rw [if_pos ha]
      exact ea
    · rw [if_neg ha]
      exact G.tup a xs ea
  · have hn : a ∉ O1 := fun z => (List.nodup_append.mp nd2).2.2 _ z _ ha rfl
    obtain ⟨k1, k2⟩ := k a (by
      rw [e]
      rcases List.mem_append.mp ha with z | z
      · exact List.mem_append_left _ (List.mem_append_right _ z)
      · exact List.mem_append_right _ z)
    exact ⟨by show (if a ∈ O1 then H a else F a) = none; rw [if_neg hn]; exact k1, k2⟩
  · have ea' : (if a ∈ O1 then H a else F a) = some o := ea
    by_cases ha : a ∈ O1
    · exact .inr (k a (hO a ha)).2
    · rw [if_neg ha] at ea'
      exact G.new a o ea'
/-- flat data lie in the frozen part -/
theorem Gd.rep {d : D} {v : V} (G : Gd K B R F H ((d, v) :: I)) : ∃ O, Rep K F H d v O := by
  obtain ⟨O, ⟨O1, _, _, r, _⟩, _, _⟩ := G.ex
  exact ⟨O1, r⟩
theorem Gd.repm {d : D} {v : V} (G : Gd K B R F H I) (h : (d, v) ∈ I) : ∃ O, Rep K F H d v O := by
  obtain ⟨O, t, _, _⟩ := G.ex
  obtain ⟨O1, r, _⟩ := t.mem _ h
  exact ⟨O1, r⟩
theorem Rep.addF {d : D} {v : V} {O : List Addr} (r : Rep K F H d v O) (f : fre d = true) : Rep K F H d v [] := by
  have e := r.nil _ _ _ f
  rw [e] at r
  exact r
/-- through a step that keeps all that is tracked -/
theorem Rep.same {d : D} {v : V} {O : List Addr} (r : Rep K F H d v O) (h : Sub F F') (s : Same H H') : Rep K F' H' d v O := by
  refine r.frame (Le.of h) _ _ _ fun a ha => ?_
  obtain ⟨t, vs, o⟩ := foot _ _ _ r a ha
  obtain ⟨u, e⟩ := o.some
  rw [e]
  exact s a u e
/-- the parts of a thing that is read -/
theorem Rep.parts {d : D} {v : V} {O : List Addr} {t : Tg} {ds : List D} (r : Rep K F H d v O) (e : un d = .n t ds) (le : Le F H) :
    ∃ a vs, v = .ref a ∧ At K H a t vs ∧ ds.length = vs.length ∧ ∀ p ∈ ds.zip vs, ∃ O', Rep K F H p.1 p.2 O' := by
  have key : ∀ (ds' : List D) (d' : D), d' = .n t ds' → Val K F d' v → ∃ a vs, v = .ref a ∧ At K H a t vs ∧ (shrs ds').length = vs.length ∧ ∀ p ∈ (shrs ds').zip vs, ∃ O', Rep K F H p.1 p.2 O' := by
    rintro ds' d' rfl h
    unfold Val at h
    obtain ⟨a, vs, e1, e2, e3⟩ := h
    obtain ⟨hl, it⟩ := Rps.its.mp (Rps.shares (H := H) ds' vs e3)
    refine ⟨a, vs, e1, e2.mono le, hl, fun p hp => ?_⟩
    obtain ⟨O1, r1, _⟩ := it.mem p hp
    exact ⟨O1, r1⟩
  have sh : ∀ d' : D, un (.sh d') = .n t ds → Val K F d' v → ∃ a vs, v = .ref a ∧ At K H a t vs ∧ ds.length = vs.length ∧ ∀ p ∈ ds.zip vs, ∃ O', Rep K F H p.1 p.2 O' := by
    intro d'
    induction d' using D.rec (motive_2 := fun _ => True) with
    | a x =>
      intro e1 _
      unfold un at e1
      cases e1
    | n t' ds' _ =>
      intro e1 h
      unfold un at e1
      injection e1 with e2 e3
      subst e2 e3
      exact key ds' _ rfl h
    | sh d'' ih =>
      intro e1 h
      unfold un at e1
      unfold Val at h
      exact ih e1 h
    | nil => trivial
    | cons _ _ _ _ => trivial
  cases d with
  | a x => unfold un at e; cases e
  | n t' ds' =>
    unfold un at e
    injection e with e1 e2
    subst e1 e2
    unfold Rep at r
    obtain ⟨a, vs, O', e1, e2, e3⟩ := r
    obtain ⟨hl, it⟩ := Rps.its.mp e2
    refine ⟨a, vs, e1, ?_, hl, fun p hp => ?_⟩
    · rcases e3 with ⟨rfl, e4, _⟩ | ⟨e4, _⟩
      · exact e4.mono le
      · exact e4.at
    · obtain ⟨O1, r1, _⟩ := it.mem p hp
      exact ⟨O1, r1⟩
  | sh d' =>
    unfold Rep at r
    exact sh d' e r.1
theorem Rep.atom {d : D} {v x : V} {O : List Addr} (r : Rep K F H d v O) (e : un d = .a x) : v = x := by
  have sh : ∀ d' : D, un (.sh d') = .a x → Val K F d' v → v = x := by
    intro d'
    induction d' using D.rec (motive_2 := fun _ => True) with
    | a y =>
      intro e1 h
      unfold un at e1
      cases e1
      unfold Val at h
      exact h
    | n t' ds' _ =>
      intro e1 h
      unfold un at e1
      cases e1
    | sh d'' ih =>
      intro e1 h
      unfold un at e1
      unfold Val at h
      exact ih e1 h
    | nil => trivial
    | cons _ _ _ _ => trivial
  cases d with
  | a y =>
    unfold un at e
    cases e
    unfold Rep at r
    exact r.1
  | n t' ds' => unfold un at e; cases e
  | sh d' =>
    unfold Rep at r
    exact sh d' e r.1
end

/-! ### the names' values -/
abbrev Env := List (Option D)
def slots : Env → L2.St → List It
  | some d :: ρ, some v :: σ => (d, v) :: slots ρ σ
  | _ :: ρ, _ :: σ => slots ρ σ
  | _, _ => []
def Fits : Env → L2.St → Prop
  | [], [] => True
  | none :: ρ, _ :: σ => Fits ρ σ
  | some _ :: ρ, some _ :: σ => Fits ρ σ
  | _, _ => False
theorem Fits.length : ∀ {ρ : Env} {σ : L2.St}, Fits ρ σ → ρ.length = σ.length
  | [], [], _ => rfl
  | [], _ :: _, h => h.elim
  | none :: ρ, [], h => h.elim
  | some _ :: ρ, [], h => h.elim
  | none :: ρ, _ :: σ, h => congrArg Nat.succ (Fits.length (ρ := ρ) (σ := σ) h)
  | some _ :: ρ, some _ :: σ, h => congrArg Nat.succ (Fits.length (ρ := ρ) (σ := σ) h)
  | some _ :: ρ, none :: σ, h => h.elim
/-- a slot's item is taken out -/
theorem slots_take : ∀ {ρ : Env} {σ : L2.St} {i : Nat} {d : D}, Fits ρ σ → ρ[i]? = some (some d) → ∃ v, σ[i]? = some (some v) ∧ (slots ρ σ).Perm ((d, v) :: slots (ρ.set i none) σ) ∧ Fits (ρ.set i none) σ
  | [], σ, i, d, _, e => by simp at e
  | none :: ρ, [], i, d, h, e => h.elim
  | some _ :: ρ, [], i, d, h, e => h.elim
  | some _ :: ρ, none :: σ, i, d, h, e => h.elim
  | none :: ρ, x :: σ, 0, d, h, e => by simp at e
  | some d' :: ρ, some v :: σ, 0, d, h, e => by
    have e' : d' = d := by simpa using e
    subst e'
    exact ⟨v, rfl, .refl _, h⟩
  | none :: ρ, x :: σ, i + 1, d, h, e => by
    obtain ⟨v, e1, p, f⟩ := slots_take (ρ := ρ) (σ := σ) (i := i) (d := d) h (by simpa using e)
    refine ⟨v, by simpa using e1, ?_, f⟩
    cases x <;> exact p
  | some d' :: ρ, some w :: σ, i + 1, d, h, e => by
    obtain ⟨v, e1, p, f⟩ := slots_take (ρ := ρ) (σ := σ) (i := i) (d := d) h (by simpa using e)
    exact ⟨v, by simpa using e1, (p.cons _).trans (List.Perm.swap _ _ _), f⟩
theorem slots_none : ∀ {ρ : Env} {σ : L2.St} {i : Nat}, Fits ρ σ → (slots (ρ.set i none) σ).Sublist (slots ρ σ) ∧ Fits (ρ.set i none) σ
  | [], σ, i, h => ⟨List.Sublist.refl _, h⟩
  | none :: ρ, [], i, h => h.elim
  | some _ :: ρ, [], i, h => h.elim
  | some _ :: ρ, none :: σ, i, h => h.elim
  | none :: ρ, x :: σ, 0, h => ⟨List.Sublist.refl _, h⟩
  | some d' :: ρ, some v :: σ, 0, h => ⟨List.sublist_cons_self _ _, h⟩
  | none :: ρ, x :: σ, i + 1, h => by
    obtain ⟨p, f⟩ := slots_none (ρ := ρ) (σ := σ) (i := i) h
    refine ⟨?_, f⟩
    cases x <;> exact p
  | some d' :: ρ, some w :: σ, i + 1, h => by
    obtain ⟨p, f⟩ := slots_none (ρ := ρ) (σ := σ) (i := i) h
    exact ⟨p.cons_cons _, f⟩
/-- a slot is filled -/
theorem slots_put : ∀ {ρ : Env} {σ : L2.St} {i : Nat} {d : D} {v : V}, Fits ρ σ → i < ρ.length →
    (slots (ρ.set i (some d)) (σ.set i (some v))).Perm ((d, v) :: slots (ρ.set i none) σ) ∧ Fits (ρ.set i (some d)) (σ.set i (some v))
  | [], σ, i, d, v, h, l => by simp at l
  | none :: ρ, [], i, d, v, h, l => h.elim
  | some _ :: ρ, [], i, d, v, h, l => h.elim
  | some _ :: ρ, none :: σ, i, d, v, h, l => h.elim
  | none :: ρ, x :: σ, 0, d, v, h, l => ⟨by cases x <;> exact .refl _, h⟩
  | some d' :: ρ, some v' :: σ, 0, d, v, h, l => ⟨.refl _, h⟩
  | none :: ρ, x :: σ, i + 1, d, v, h, l => by
    obtain ⟨p, f⟩ := slots_put (ρ := ρ) (σ := σ) (i := i) (d := d) (v := v) h (by simpa using l)
    refine ⟨?_, f⟩
    cases x <;> exact p
  | some d' :: ρ, some w :: σ, i + 1, d, v, h, l => by
    obtain ⟨p, f⟩ := slots_put (ρ := ρ) (σ := σ) (i := i) (d := d) (v := v) h (by simpa using l)
    exact ⟨(p.cons _).trans (List.Perm.swap _ _ _), f⟩
/-- .. with what stood there -/
theorem slots_back : ∀ {ρ : Env} {σ : L2.St} {i : Nat} {d : D} {v : V}, Fits ρ σ → σ[i]? = some (some v) →
    (slots (ρ.set i (some d)) σ).Perm ((d, v) :: slots (ρ.set i none) σ) ∧ Fits (ρ.set i (some d)) σ := by
  intro ρ σ i d v h e
  have hl : i < ρ.length := by
    rw [h.length]
    exact (List.getElem?_eq_some_iff.mp e).1
  have es : σ.set i (some v) = σ := by
    obtain ⟨h1, h2⟩ := List.getElem?_eq_some_iff.mp e
    rw [← h2]
    exact List.set_getElem_self h1
  have q := slots_put (d := d) (v := v) h hl
  rw [es] at q
  exact q
theorem slots_mem {ρ : Env} {σ : L2.St} {i : Nat} {d : D} (h : Fits ρ σ) (e : ρ[i]? = some (some d)) : ∃ v, σ[i]? = some (some v) ∧ (d, v) ∈ slots ρ σ := by
  obtain ⟨v, e1, p, _⟩ := slots_take h e
  exact ⟨v, e1, p.mem_iff.mpr List.mem_cons_self⟩
end Sm

namespace Sm
open PySem PySem.Spec PyProof.Rows L2

/-! ### readings -/
/-- an exception: its class, its fields -/
structure Ex where
  cls : Str
  fs : List (Str × D)
inductive Res (α : Type) where
  | ok (x : α) (ρ : Env)
  | exc (x : Ex) (ρ : Env)
  | bad
abbrev M (α : Type) := Env → Res α
def Res.bind {α β : Type} : Res α → (α → M β) → Res β
  | .ok x ρ, f => f x ρ
  | .exc e ρ, _ => .exc e ρ
  | .bad, _ => .bad
def mb {α β : Type} (m : M α) (f : α → M β) : M β := fun ρ => (m ρ).bind f
def mr {α : Type} (x : α) : M α := fun ρ => .ok x ρ
def mo {α : Type} (x : Option α) : M α := fun ρ => match x with
  | some x => .ok x ρ
  | none => .bad
/-- how an exception lies in the heap -/
def XAt (K : PySem.W.Frag) (x : Ex) (cls : Value) (dd : Option Addr) (H : Hp) : Prop :=
  cls = .ref (He.ga K x.cls) ∧ (x.fs = [] ∨ ∃ a vs, dd = some a ∧ H a = some (.xd ((x.fs.map (·.1)).zip vs)) ∧ Vls K H (x.fs.map (·.2)) vs)

/-- what a run of m from ρ, F, H is followed by; I: what is held besides -/
def Run {α : Type} (X : Cx) (B : Bs) (E : XK) (pr : Bool) (σ : L2.St) (F H : Hp) (I : List It) (r : Res α) (k : α → Env → Hp → Hp → Prop) : Prop :=
  match r with
  | .ok x ρ' => ∀ H' F', (pr = true → Same H H' ∧ Sub F F') → Fits ρ' σ → k x ρ' F' H'
  | .exc x ρ' => ∀ cls dd H' F', Fits ρ' σ → Gd X.K B [] F' H' (slots ρ' σ ++ I) → XAt X.K x cls dd H' → E cls dd H'
  | .bad => False
/-- a reading: the state is held, m is run -/
def Rdg {α : Type} (X : Cx) (B : Bs) (E : XK) (pr : Bool) (m : M α) (σ : L2.St) (H : Hp) (k : α → Env → List It → Hp → Hp → Prop) : Prop :=
  ∃ ρ F I, Fits ρ σ ∧ Gd X.K B [] F H (slots ρ σ ++ I) ∧ Run X B E pr σ F H I (m ρ) fun x ρ' F' H' => k x ρ' I F' H'
/-- a value that is held -/
def T (X : Cx) (B : Bs) (E : XK) (pr : Bool) (m : M D) : TE := fun σ H Q => Rdg X B E pr m σ H fun d ρ' I F' H' => ∀ v, Gd X.K B [] F' H' ((d, v) :: (slots ρ' σ ++ I)) → Q v H'
/-- a value that is looked at -/
def TV (X : Cx) (B : Bs) (E : XK) (pr : Bool) (m : M D) : TE := fun σ H Q => Rdg X B E pr m σ H fun d ρ' I F' H' => ∀ v O, Rep X.K F' H' d v O → Gd X.K B [] F' H' (slots ρ' σ ++ I) → Q v H'
/-- a test -/
def Tb (X : Cx) (B : Bs) (E : XK) (pr : Bool) (m : M Bool) : TT := fun σ H Q => Rdg X B E pr m σ H fun b ρ' I F' H' => Gd X.K B [] F' H' (slots ρ' σ ++ I) → Q b H'
/-- several values -/
def Ta (X : Cx) (B : Bs) (E : XK) (pr : Bool) (m : M (List D)) : TA := fun σ H Q => Rdg X B E pr m σ H fun ds ρ' I F' H' => ∀ vs, ds.length = vs.length → Gd X.K B [] F' H' (ds.zip vs ++ (slots ρ' σ ++ I)) → Q vs H'

section
variable {X : Cx} {B : Bs} {E : XK} {pr p1 p2 : Bool}
theorem PE.imp {e : Expr} {t t' : TE} (h : PE X e t) (i : ∀ σ H Q, t' σ H Q → t σ H Q) : PE X e t' := ⟨fun pins s σ H Q I hq => h.run pins s σ H Q I (i σ H Q hq)⟩
theorem PT.imp {e : Expr} {t t' : TT} (h : PT X e t) (i : ∀ σ H Q, t' σ H Q → t σ H Q) : PT X e t' := ⟨fun pins s σ H Q I hq => h.run pins s σ H Q I (i σ H Q hq)⟩
theorem PW.imp {e : Expr} {t t' : TT} (h : PW X e t) (i : ∀ σ H Q, t' σ H Q → t σ H Q) : PW X e t' := ⟨fun wh pins s σ H Q I hq => h.run wh pins s σ H Q I (i σ H Q hq)⟩
theorem PA.imp {es : List Expr} {t t' : TA} (h : PA X es t) (i : ∀ σ H Q, t' σ H Q → t σ H Q) : PA X es t' := ⟨fun pos pins s σ H Q I hq => h.run pos pins s σ H Q I (i σ H Q hq)⟩
theorem PS.imp {st : Stmt} {t t' : TS} (h : PS X st t) (i : ∀ D σ H, t' D σ H → t D σ H) : PS X st t' := ⟨fun pins s σ H D I hq => h.run pins s σ H D I (i D σ H hq)⟩
theorem PSs.imp {st : List Stmt} {t t' : TS} (h : PSs X st t) (i : ∀ D σ H, t' D σ H → t D σ H) : PSs X st t' := ⟨fun pins s σ H D I hq => h.run pins s σ H D I (i D σ H hq)⟩
theorem PI.imp {tg iter : Expr} {t t' : TI} (h : PI X tg iter t) (i : ∀ σ H R, t' σ H R → t σ H R) : PI X tg iter t' := ⟨fun pins s σ H R I hq => h.run pins s σ H R I (i σ H R hq)⟩

theorem Run.ok {α : Type} {σ : L2.St} {F H : Hp} {I : List It} {r : Res α} {k : α → Env → Hp → Hp → Prop} {x : α} {ρ : Env} (h : Run X B E pr σ F H I r k) (e : r = .ok x ρ) :
    ∀ H' F', (pr = true → Same H H' ∧ Sub F F') → Fits ρ σ → k x ρ F' H' := by
  subst e
  exact h
theorem Run.exc {α : Type} {σ : L2.St} {F H : Hp} {I : List It} {r : Res α} {k : α → Env → Hp → Hp → Prop} {x : Ex} {ρ : Env} (h : Run X B E pr σ F H I r k) (e : r = .exc x ρ) :
    ∀ cls dd H' F', Fits ρ σ → Gd X.K B [] F' H' (slots ρ σ ++ I) → XAt X.K x cls dd H' → E cls dd H' := by
  subst e
  exact h
theorem Run.bad {α : Type} {σ : L2.St} {F H : Hp} {I : List It} {r : Res α} {k : α → Env → Hp → Hp → Prop} (h : Run X B E pr σ F H I r k) (e : r = .bad) : False := by
  subst e
  exact h
/-- one run, then another -/
theorem Run.bind {α β : Type} {σ : L2.St} {F H : Hp} {I I' : List It} {r : Res α} {f : α → M β} {k : β → Env → Hp → Hp → Prop} {k1 : α → Env → Hp → Hp → Prop} (pq : pr = true → p1 = true)
    (h : Run X B E pr σ F H I (r.bind f) k) (sub : ∀ {ρ' : Env}, (slots ρ' σ ++ I).Sublist (slots ρ' σ ++ I'))
    (step : ∀ x ρ1 H1 F1, (p1 = true → Same H H1 ∧ Sub F F1) → Fits ρ1 σ → Run X B E pr σ F H I (f x ρ1) k → k1 x ρ1 F1 H1) : Run X B E p1 σ F H I' r k1 := by
  cases e : r with
  | ok x ρ1 =>
    rw [e] at h
    exact fun H1 F1 s1 f1 => step x ρ1 H1 F1 s1 f1 h
  | exc x ρ1 =>
    rw [e] at h
    intro cls dd H' F' f1 G x1
    exact h cls dd H' F' f1 (G.drop sub) x1
  | bad =>
    rw [e] at h
    exact h
theorem sub_refl {σ : L2.St} {I : List It} : ∀ {ρ' : Env}, (slots ρ' σ ++ I).Sublist (slots ρ' σ ++ I) := List.Sublist.refl _
theorem sub_cons {σ : L2.St} {I J : List It} : ∀ {ρ' : Env}, (slots ρ' σ ++ I).Sublist (slots ρ' σ ++ (J ++ I)) := (List.sublist_append_right _ _).append_left _
/-- the end's run, seen from a later state -/
theorem Run.later {α : Type} {σ : L2.St} {F F1 H H1 : Hp} {I I' : List It} {r : Res α} {k : α → Env → Hp → Hp → Prop} (pq : pr = true → p1 = true ∧ p2 = true) (s1 : p1 = true → Same H H1 ∧ Sub F F1) (h : Run X B E pr σ F H I r k)
    (sub : ∀ {ρ' : Env}, (slots ρ' σ ++ I).Sublist (slots ρ' σ ++ I')) {k1 : α → Env → Hp → Hp → Prop} (kk : ∀ x ρ' H' F', (p2 = true → Same H1 H' ∧ Sub F1 F') → Fits ρ' σ → k x ρ' F' H' → k1 x ρ' F' H') : Run X B E p2 σ F1 H1 I' r k1 := by
  cases e : r with
  | ok x ρ1 =>
    rw [e] at h
    intro H' F' s2 f
    refine kk x ρ1 H' F' s2 f (h H' F' (fun z => ?_) f)
    obtain ⟨q1, q2⟩ := pq z
    exact ⟨(s1 q1).1.trans (s2 q2).1, fun a o e => (s2 q2).2 a o ((s1 q1).2 a o e)⟩
  | exc x ρ1 =>
    rw [e] at h
    intro cls dd H' F' f1 G x1
    exact h cls dd H' F' f1 (G.drop sub) x1
  | bad =>
    rw [e] at h
    exact h
theorem Same.rfl2 {F H : Hp} : Same H H ∧ Sub F F := ⟨Same.refl H, fun _ _ h => h⟩
theorem perm3 {p q : It} {I J : List It} : (p :: (J ++ q :: I)).Perm (q :: p :: (J ++ I)) := (List.perm_middle.cons p).trans (List.Perm.swap _ _ _)

/-! ### from held to looked at, and back -/
theorem T.tv {e : Expr} {m : M D} (h : PE X e (T X B E pr m)) : PE X e (TV X B E pr m) := PE.imp h fun σ H Q ⟨ρ, F, I, f, G, r⟩ => by
  refine ⟨ρ, F, I, f, G, ?_⟩
  cases e : m ρ with
  | ok x ρ1 =>
    intro H' F' s1 f1 v G1
    obtain ⟨O, r1⟩ := G1.rep
    exact r.ok e H' F' s1 f1 v O r1 G1.tail
  | exc x ρ1 => exact r.exc e
  | bad => exact r.bad e
/-- what is free is held -/
def mFree (d : D) : M D := fun ρ => if fre d = true then .ok d ρ else .bad
theorem TV.t {e : Expr} {m : M D} (h : PE X e (TV X B E pr m)) : PE X e (T X B E pr (mb m mFree)) := PE.imp h fun σ H Q ⟨ρ, F, I, f, G, r⟩ => by
  refine ⟨ρ, F, I, f, G, ?_⟩
  refine Run.bind (fun z => z) r sub_refl fun x ρ1 H1 F1 s1 f1 r1 v O rp G1 => ?_
  by_cases hf : fre x = true
  · exact r1.ok (by unfold mFree; rw [if_pos hf]) H1 F1 s1 f1 v (G1.add (rp.addF hf))
  · exact (r1.bad (by unfold mFree; rw [if_neg hf])).elim
/-- a weaker reading -/
theorem T.weak {e : Expr} {m : M D} (h : PE X e (T X B E true m)) : PE X e (T X B E pr m) := PE.imp h fun σ H Q ⟨ρ, F, I, f, G, r⟩ => by
  refine ⟨ρ, F, I, f, G, ?_⟩
  cases e : m ρ with
  | ok x ρ1 => exact fun H' F' s1 f1 => r.ok e H' F' (fun _ => s1 rfl) f1
  | exc x ρ1 => exact r.exc e
  | bad => exact r.bad e

/-! ### names -/
def mLook (i : Nat) : M D := fun ρ => match ρ[i]? with
  | some (some d) => .ok d ρ
  | _ => .bad
def mVar (i : Nat) : M D := mb (mLook i) mFree
/-- the name's value is taken along: the name is forgotten -/
def mMove (i : Nat) : M D := fun ρ => match ρ[i]? with
  | some (some d) => .ok d (ρ.set i none)
  | _ => .bad
/-- the name's value is frozen -/
def mFrz (i : Nat) : M D := fun ρ => match ρ[i]? with
  | some (some d) => .ok (shr d) (ρ.set i (some (shr d)))
  | _ => .bad
theorem look_some {ρ : Env} {i : Nat} {x : D} {ρ1 : Env} (e : mLook i ρ = .ok x ρ1) : ρ[i]? = some (some x) ∧ ρ1 = ρ := by
  unfold mLook at e
  split at e
  · rename_i d h
    injection e with e1 e2
    exact ⟨e1 ▸ h, e2.symm⟩
  · cases e
theorem s_look (i : Nat) {x : Str} {pos : Pos} (hN : X.N[i]? = some x := by rfl) (hv : Vis X.env.scope x := by first | exact Or.inl rfl | exact Or.inr (Or.inl rfl) | exact Or.inr (Or.inr rfl))
    (hd : (x == ("__debug__" : Str)) = false := by decide) (hcd : (x == ("__classdict__" : Str)) = false := by decide) : PE X (.Name x pos) (TV X B E true (mLook i)) := PE.imp (pe_var hN hv hd hcd) fun σ H Q ⟨ρ, F, I, f, G, r⟩ => by
  cases e : mLook i ρ with
  | ok d ρ1 =>
    obtain ⟨e1, rfl⟩ := look_some e
    obtain ⟨v, e2, hm⟩ := slots_mem f e1
    obtain ⟨O, rp⟩ := G.repm (List.mem_append_left I hm)
    exact ⟨v, e2, r.ok e H F (fun _ => Same.rfl2) f v O rp G⟩
  | exc x ρ1 =>
    unfold mLook at e
    split at e <;> cases e
  | bad => exact (r.bad e).elim
theorem s_var (i : Nat) {x : Str} {pos : Pos} (hN : X.N[i]? = some x := by rfl) (hv : Vis X.env.scope x := by first | exact Or.inl rfl | exact Or.inr (Or.inl rfl) | exact Or.inr (Or.inr rfl))
    (hd : (x == ("__debug__" : Str)) = false := by decide) (hcd : (x == ("__classdict__" : Str)) = false := by decide) : PE X (.Name x pos) (T X B E true (mVar i)) := TV.t (s_look i hN hv hd hcd)
theorem s_move (i : Nat) {x : Str} {pos : Pos} (hN : X.N[i]? = some x := by rfl) (hv : Vis X.env.scope x := by first | exact Or.inl rfl | exact Or.inr (Or.inl rfl) | exact Or.inr (Or.inr rfl))
    (hd : (x == ("__debug__" : Str)) = false := by decide) (hcd : (x == ("__classdict__" : Str)) = false := by decide) : PE X (.Name x pos) (T X B E true (mMove i)) := PE.imp (pe_var hN hv hd hcd) fun σ H Q ⟨ρ, F, I, f, G, r⟩ => by
  cases e : ρ[i]? with
  | none => exact (r.bad (by unfold mMove; rw [e])).elim
  | some o =>
    cases o with
    | none => exact (r.bad (by unfold mMove; rw [e])).elim
    | some d =>
      obtain ⟨v, e2, p, f2⟩ := slots_take f e
      exact ⟨v, e2, r.ok (by unfold mMove; rw [e]) H F (fun _ => Same.rfl2) f2 v (G.perm (p.append_right I))⟩
theorem s_frz (i : Nat) {x : Str} {pos : Pos} (hN : X.N[i]? = some x := by rfl) (hv : Vis X.env.scope x := by first | exact Or.inl rfl | exact Or.inr (Or.inl rfl) | exact Or.inr (Or.inr rfl))
    (hd : (x == ("__debug__" : Str)) = false := by decide) (hcd : (x == ("__classdict__" : Str)) = false := by decide) : PE X (.Name x pos) (T X B E true (mFrz i)) := PE.imp (pe_var hN hv hd hcd) fun σ H Q ⟨ρ, F, I, f, G, r⟩ => by
  cases e : ρ[i]? with
  | none => exact (r.bad (by unfold mFrz; rw [e])).elim
  | some o =>
    cases o with
    | none => exact (r.bad (by unfold mFrz; rw [e])).elim
    | some d =>
      obtain ⟨v, e2, p, f2⟩ := slots_take f e
      obtain ⟨F', sb, G'⟩ := (G.perm (p.append_right I)).freeze
      obtain ⟨p', f'⟩ := slots_back (d := shr d) f e2
      have G2 : Gd X.K B [] F' H (slots (ρ.set i (some (shr d))) σ ++ I) := G'.perm (p'.append_right I).symm
      exact ⟨v, e2, r.ok (by unfold mFrz; rw [e]) H F' (fun _ => ⟨Same.refl H, sb⟩) f' v (G2.dup (List.mem_append_left _ (p'.mem_iff.mpr List.mem_cons_self)) (fre_shr d))⟩

/-! ### constants -/
theorem s_const {e : Expr} {x : V} (h : PE X e (tC x)) : PE X e (T X B E true (mr (.a x))) := PE.imp h fun σ H Q ⟨ρ, F, I, f, G, r⟩ => r.ok rfl H F (fun _ => Same.rfl2) f x G.atom
theorem s_int {i j pos} : PE X (.Constant (.int i) j pos) (T X B E true (mr (.int i))) := s_const pe_int
theorem s_bl {b j pos} : PE X (.Constant (.bool b) j pos) (T X B E true (mr (.bl b))) := s_const pe_bl
theorem s_non {j pos} : PE X (.Constant .none j pos) (T X B E true (mr .non)) := s_const pe_non
theorem s_str {x j pos} : PE X (.Constant (.str x) j pos) (T X B E true (mr (.str x))) := s_const pe_str
theorem s_gint {x : Str} {i : Int} {pos : Pos} (hg : Gl X x) (hm : ∃ t, X.mg x = some (.int i t)) (hd : (x == ("__debug__" : Str)) = false := by decide) : PE X (.Name x pos) (T X B E true (mr (.int i))) := by
  obtain ⟨t, hm⟩ := hm
  exact s_const (pe_glob hg hm ⟨t, rfl⟩ hd)
theorem s_gstr {x z : Str} {pos : Pos} (hg : Gl X x) (hm : ∃ t, X.mg x = some (.str z t)) (hd : (x == ("__debug__" : Str)) = false := by decide) : PE X (.Name x pos) (T X B E true (mr (.str z))) := by
  obtain ⟨t, hm⟩ := hm
  exact s_const (pe_glob hg hm ⟨t, rfl⟩ hd)
/-- a module's tuple of constants -/
theorem s_gtup {x : Str} {a : Addr} {xs : List V} {pos : Pos} (hg : Gl X x) (hm : X.mg x = some (.ref a)) (hs : ∀ H : Hp, TupAt X.K H a xs) (hd : (x == ("__debug__" : Str)) = false := by decide) :
    PE X (.Name x pos) (T X B E true (mr (.tup (xs.map .a)))) := PE.imp (pe_glob (v := .ref a) hg hm rfl hd) fun σ H Q ⟨ρ, F, I, f, G, r⟩ => by
  refine r.ok rfl H F (fun _ => Same.rfl2) f (.ref a) (G.add ?_)
  unfold Rep
  refine ⟨a, xs, [], rfl, Rps.its.mpr ⟨by simp, ?_⟩, .inl ⟨rfl, hs F, rfl⟩⟩
  have go : ∀ ys : List V, Its X.K F H ((ys.map D.a).zip ys) [] := fun ys => by
    induction ys with
    | nil => rfl
    | cons y ys ih => exact ⟨[], [], rfl, by unfold Rep; exact ⟨rfl, rfl⟩, ih⟩
  exact go xs
end
end Sm

namespace Sm
open PySem PySem.Spec PyProof.Rows L2

/-! ### operations that only read -/
/-- a result that is made at most anew: what stood stands -/
def Fin (X : Cx) (B : Bs) (R : List Addr) (F H : Hp) (I : List It) (d : D) (Q : VK) : Prop := ∀ v H' F', Same H H' → Sub F F' → Gd X.K B R F' H' ((d, v) :: I) → Q v H'
def Rd1 (X : Cx) (r : V → Hp → VK → Prop) (f : D → Option D) : Prop :=
  ∀ (B : Bs) (R : List Addr) (F H : Hp) (I : List It) (v1 : V) (O1 : List Addr) (d1 d : D) (Q : VK), Gd X.K B R F H I → Rep X.K F H d1 v1 O1 → f d1 = some d → Fin X B R F H I d Q → r v1 H Q
def Rd2 (X : Cx) (r : R2) (f : D → D → Option D) : Prop :=
  ∀ (B : Bs) (R : List Addr) (F H : Hp) (I : List It) (v1 v2 : V) (O1 O2 : List Addr) (d1 d2 d : D) (Q : VK), Gd X.K B R F H I → Rep X.K F H d1 v1 O1 → Rep X.K F H d2 v2 O2 → f d1 d2 = some d → Fin X B R F H I d Q → r v1 v2 H Q
/-- looked at, one by one -/
def Vws (K : PySem.W.Frag) (F H : Hp) (ds : List D) (vs : List V) : Prop := ds.length = vs.length ∧ ∀ p ∈ ds.zip vs, ∃ O, Rep K F H p.1 p.2 O
def Rda (X : Cx) (r : List V → Hp → VK → Prop) (f : List D → Option D) : Prop :=
  ∀ (B : Bs) (R : List Addr) (F H : Hp) (I : List It) (vs : List V) (ds : List D) (d : D) (Q : VK), Gd X.K B R F H I → Vws X.K F H ds vs → f ds = some d → Fin X B R F H I d Q → r vs H Q
def mUn (f : D → Option D) (m : M D) : M D := mb m fun x => mo (f x)
def mBin (f : D → D → Option D) (m1 m2 : M D) : M D := mb m1 fun x => mb m2 fun y => mo (f x y)
def mArgs (f : List D → Option D) (m : M (List D)) : M D := mb m fun xs => mo (f xs)
def TVa (X : Cx) (B : Bs) (E : XK) (pr : Bool) (m : M (List D)) : TA := fun σ H Q => Rdg X B E pr m σ H fun ds ρ' I F' H' => ∀ vs, Vws X.K F' H' ds vs → Gd X.K B [] F' H' (slots ρ' σ ++ I) → Q vs H'
def mNil : M (List D) := mr []
def mCons (m : M D) (ms : M (List D)) : M (List D) := mb m fun x => mb ms fun xs => mr (x :: xs)

section
variable {X : Cx} {B : Bs} {E : XK} {pr p1 p2 : Bool} {σ : L2.St} {F H : Hp} {I : List It}
theorem Run.mo {x : Option D} {ρ : Env} {k : D → Env → Hp → Hp → Prop} (h : Run X B E pr σ F H I (mo x ρ) k) : ∃ d, x = some d ∧ ∀ H' F', (pr = true → Same H H' ∧ Sub F F') → Fits ρ σ → k d ρ F' H' := by
  cases x with
  | none => exact h.elim
  | some d => exact ⟨d, rfl, h⟩
theorem Run.mr {α : Type} {x : α} {ρ : Env} {k : α → Env → Hp → Hp → Prop} (h : Run X B E pr σ F H I (mr x ρ) k) : ∀ H' F', (pr = true → Same H H' ∧ Sub F F') → Fits ρ σ → k x ρ F' H' := h
theorem tun {r : V → Hp → VK → Prop} {f : D → Option D} (h : Rd1 X r f) {m : M D} (σ : L2.St) (H : Hp) (Q : VK) (q : T X B E pr (mUn f m) σ H Q) : TV X B E pr m σ H (fun x H1 => r x H1 Q) := by
  obtain ⟨ρ, F, I, f0, G, r0⟩ := q
  refine ⟨ρ, F, I, f0, G, ?_⟩
  refine Run.bind (fun z => z) r0 sub_refl fun x ρ1 H1 F1 s1 f1 r1 v O rp G1 => ?_
  obtain ⟨d, e, k⟩ := r1.mo
  refine h _ _ _ _ _ v O x d Q G1 rp e fun w H' F' s' sb G' => k H' F' (fun z => ⟨(s1 z).1.trans s', fun a o e => sb a o ((s1 z).2 a o e)⟩) f1 w G'
theorem tbin {r : R2} {f : D → D → Option D} (h : Rd2 X r f) {m1 m2 : M D} (σ : L2.St) (H : Hp) (Q : VK) (q : T X B E (p1 && p2) (mBin f m1 m2) σ H Q) : tOp r (T X B E p1 m1) (TV X B E p2 m2) σ H Q := by
  obtain ⟨ρ, F, I, f0, G, r0⟩ := q
  refine ⟨ρ, F, I, f0, G, ?_⟩
  refine Run.bind (fun z => (Bool.and_eq_true_iff.mp z).1) r0 sub_refl fun x ρ1 H1 F1 s1 f1 r1 v G1 => ?_
  refine ⟨ρ1, F1, (x, v) :: I, f1, G1.perm List.perm_middle.symm, ?_⟩
  have r2 := Run.later (p2 := p1 && p2) (I' := (x, v) :: I) (fun z => ⟨(Bool.and_eq_true_iff.mp z).1, z⟩) s1 r1 (fun {ρ'} => sub_cons (J := [(x, v)])) fun x ρ' H' F' _ _ k => k
  refine Run.bind (fun z => (Bool.and_eq_true_iff.mp z).2) r2 sub_refl fun y ρ2 H2 F2 s2 f2 r3 w O rp G2 => ?_
  obtain ⟨d, e, k⟩ := r3.mo
  have G3 : Gd X.K B [] F2 H2 ((x, v) :: (slots ρ2 σ ++ I)) := G2.perm List.perm_middle
  obtain ⟨O1, rp1⟩ := G3.rep
  refine h _ _ _ _ _ v w O1 O x y d Q G3.tail rp1 rp e fun u H' F' s' sb G' => k H' F' (fun z => ?_) f2 u G'
  obtain ⟨z1, z2⟩ := Bool.and_eq_true_iff.mp z
  exact ⟨(s2 z2).1.trans s', fun a o e => sb a o ((s2 z2).2 a o e)⟩
/-- .. the first one only looked at: the second one is to change nothing -/
theorem tbinV {r : R2} {f : D → D → Option D} (h : Rd2 X r f) {m1 m2 : M D} (σ : L2.St) (H : Hp) (Q : VK) (q : T X B E p1 (mBin f m1 m2) σ H Q) : tOp r (TV X B E p1 m1) (TV X B E true m2) σ H Q := by
  obtain ⟨ρ, F, I, f0, G, r0⟩ := q
  refine ⟨ρ, F, I, f0, G, ?_⟩
  refine Run.bind (fun z => z) r0 sub_refl fun x ρ1 H1 F1 s1 f1 r1 v O1 rp1 G1 => ?_
  refine ⟨ρ1, F1, I, f1, G1, ?_⟩
  have r2 := Run.later (p2 := true) (I' := I) (fun z => ⟨z, rfl⟩) s1 r1 sub_refl fun x ρ' H' F' _ _ k => k
  refine Run.bind (fun _ => rfl) (show Run X B E true σ F1 H1 I _ _ from r2) sub_refl fun y ρ2 H2 F2 s2 f2 r3 w O rp G2 => ?_
  obtain ⟨d, e, k⟩ := r3.mo
  obtain ⟨s2a, s2b⟩ := s2 rfl
  refine h _ _ _ _ _ v w O1 O x y d Q G2 (rp1.same s2b s2a) rp e fun u H' F' s' sb G' => k H' F' (fun _ => ⟨s2a.trans s', fun a o e => sb a o (s2b a o e)⟩) f2 u G'
theorem Vws.nil : Vws X.K F H [] [] := ⟨rfl, fun p hp => by cases hp⟩
theorem Vws.cons {d : D} {v : V} {ds : List D} {vs : List V} {O : List Addr} (r : Rep X.K F H d v O) (h : Vws X.K F H ds vs) : Vws X.K F H (d :: ds) (v :: vs) :=
  ⟨congrArg Nat.succ h.1, fun p hp => by
    rcases List.mem_cons.mp (show p ∈ (d, v) :: ds.zip vs from hp) with rfl | hp
    · exact ⟨O, r⟩
    · exact h.2 p hp⟩
theorem sa_nil : PA X [] (TVa X B E true mNil) := PA.imp pa_nil fun σ H Q ⟨ρ, F, I, f, G, r⟩ => r.mr H F (fun _ => Same.rfl2) f [] Vws.nil G
theorem tacons {m : M D} {ms : M (List D)} (σ : L2.St) (H : Hp) (Q : List V → Hp → Prop) (q : TVa X B E p1 (mCons m ms) σ H Q) : tCons (TV X B E p1 m) (TVa X B E true ms) σ H Q := by
  obtain ⟨ρ, F, I, f0, G, r0⟩ := q
  refine ⟨ρ, F, I, f0, G, ?_⟩
  refine Run.bind (fun z => z) r0 sub_refl fun x ρ1 H1 F1 s1 f1 r1 v O1 rp1 G1 => ?_
  refine ⟨ρ1, F1, I, f1, G1, ?_⟩
  have r2 := Run.later (p2 := true) (I' := I) (fun z => ⟨z, rfl⟩) s1 r1 sub_refl fun x ρ' H' F' _ _ k => k
  refine Run.bind (fun _ => rfl) r2 sub_refl fun y ρ2 H2 F2 s2 f2 r3 ws rp G2 => ?_
  obtain ⟨s2a, s2b⟩ := s2 rfl
  exact r3.mr H2 F2 (fun _ => ⟨s2a, s2b⟩) f2 (v :: ws) (Vws.cons (rp1.same s2b s2a) rp) G2
theorem sa_cons {e : Expr} {es : List Expr} {m : M D} {ms : M (List D)} (h : PE X e (TV X B E p1 m)) (hr : PA X es (TVa X B E true ms)) (hs : starEach (e :: es) X.env = (false, eval e X.env) :: starEach es X.env := by rfl) :
    PA X (e :: es) (TVa X B E p1 (mCons m ms)) := PA.imp (pa_cons h hr hs) tacons
theorem targs {r : List V → Hp → VK → Prop} {f : List D → Option D} (h : Rda X r f) {ms : M (List D)} (σ : L2.St) (H : Hp) (Q : VK) (q : T X B E pr (mArgs f ms) σ H Q) : tCB r (TVa X B E pr ms) σ H Q := by
  obtain ⟨ρ, F, I, f0, G, r0⟩ := q
  refine ⟨ρ, F, I, f0, G, ?_⟩
  refine Run.bind (fun z => z) r0 sub_refl fun x ρ1 H1 F1 s1 f1 r1 vs rp G1 => ?_
  obtain ⟨d, e, k⟩ := r1.mo
  exact h _ _ _ _ _ vs x d Q G1 rp e fun w H' F' s' sb G' => k H' F' (fun z => ⟨(s1 z).1.trans s', fun a o e => sb a o ((s1 z).2 a o e)⟩) f1 w G'

/-! ### the forms -/
variable {a b c e : Expr} {pos p : Pos}
theorem s_bin {op : Operator} {r : R2} {f : D → D → Option D} {m1 m2 : M D} (ho : OpR X (binaryOp op) r) (h : Rd2 X r f) (ha : PE X a (T X B E p1 m1)) (hb : PE X b (TV X B E p2 m2)) : PE X (.BinOp a op b pos) (T X B E (p1 && p2) (mBin f m1 m2)) :=
  PE.imp (pe_op ho ha hb) (tbin h)
theorem s_binV {op : Operator} {r : R2} {f : D → D → Option D} {m1 m2 : M D} (ho : OpR X (binaryOp op) r) (h : Rd2 X r f) (ha : PE X a (TV X B E p1 m1)) (hb : PE X b (TV X B E true m2)) : PE X (.BinOp a op b pos) (T X B E p1 (mBin f m1 m2)) :=
  PE.imp (pe_op ho ha hb) (tbinV h)
theorem s_un {op : UnaryOp} {r : V → Hp → VK → Prop} {f : D → Option D} {m : M D} (ho : UnR X (unaryOp op) r) (h : Rd1 X r f) (ha : PE X a (TV X B E pr m)) : PE X (.UnaryOp op a pos) (T X B E pr (mUn f m)) := PE.imp (pe_un ho ha) (tun h)
/-- a comparison as a value -/
theorem s_cmp {op : CmpOp} {r : R2} {f : D → D → Option D} {m1 m2 : M D} (ho : OpR X (compareOp op) r) (h : Rd2 X r f) (ha : PE X a (T X B E p1 m1)) (hb : PE X b (TV X B E p2 m2)) (hm : behindInMarks op b = false := by first | exact nomark _ | rfl) :
    PE X (.Compare a [op] [b] pos) (T X B E (p1 && p2) (mBin f m1 m2)) := PE.imp (pe_cmpR ho ha hb hm) (tbin h)
theorem s_cmpV {op : CmpOp} {r : R2} {f : D → D → Option D} {m1 m2 : M D} (ho : OpR X (compareOp op) r) (h : Rd2 X r f) (ha : PE X a (TV X B E p1 m1)) (hb : PE X b (TV X B E true m2)) (hm : behindInMarks op b = false := by first | exact nomark _ | rfl) :
    PE X (.Compare a [op] [b] pos) (T X B E p1 (mBin f m1 m2)) := PE.imp (pe_cmpR ho ha hb hm) (tbinV h)
/-- .. as a test -/
def mBl : D → M Bool
  | .a (.bl b) => mr b
  | _ => fun _ => .bad
theorem ttest {t : TE} {m : M D} (h : ∀ σ H Q, T X B E pr m σ H Q → t σ H Q) (σ : L2.St) (H : Hp) (Q : Bool → Hp → Prop) (q : Tb X B E pr (mb m mBl) σ H Q) : tTest t σ H Q := by
  refine h σ H _ ?_
  obtain ⟨ρ, F, I, f0, G, r0⟩ := q
  refine ⟨ρ, F, I, f0, G, ?_⟩
  refine Run.bind (fun z => z) r0 sub_refl fun x ρ1 H1 F1 s1 f1 r1 v G1 => ?_
  have go : ∀ b, x = .bl b → ∃ k, v = .bl k ∧ Q k H1 := fun b e => by
    subst e
    have ev : v = V.bl b := by
      have z := G1.val0
      unfold Val at z
      exact z
    exact ⟨b, ev, r1.mr H1 F1 s1 f1 G1.tail⟩
  have no : mBl x ρ1 = .bad → ∃ k, v = .bl k ∧ Q k H1 := fun e => (r1.bad e).elim
  cases x with
  | a y => cases y with
    | bl b => exact go b rfl
    | _ => exact no rfl
  | n t ds => exact no rfl
  | sh d => exact no rfl
theorem t_cmp {op : CmpOp} {r : R2} {f : D → D → Option D} {m1 m2 : M D} (ho : OpR X (compareOp op) r) (h : Rd2 X r f) (ha : PE X a (T X B E p1 m1)) (hb : PE X b (TV X B E p2 m2)) (hm : behindInMarks op b = false := by first | exact nomark _ | rfl) :
    PT X (.Compare a [op] [b] pos) (Tb X B E (p1 && p2) (mb (mBin f m1 m2) mBl)) := PT.imp (pt_cmpR ho ha hb hm) (ttest (tbin h))
theorem t_cmpV {op : CmpOp} {r : R2} {f : D → D → Option D} {m1 m2 : M D} (ho : OpR X (compareOp op) r) (h : Rd2 X r f) (ha : PE X a (TV X B E p1 m1)) (hb : PE X b (TV X B E true m2)) (hm : behindInMarks op b = false := by first | exact nomark _ | rfl) :
    PT X (.Compare a [op] [b] pos) (Tb X B E p1 (mb (mBin f m1 m2) mBl)) := PT.imp (pt_cmpR ho ha hb hm) (ttest (tbinV h))
/-- truth of a value -/
def TruD (f : D → Option Bool) : Prop := ∀ (X : Cx) (B : Bs) (R : List Addr) (F H : Hp) (I : List It) (v : V) (O : List Addr) (d : D) (k : Bool), Gd X.K B R F H I → Rep X.K F H d v O → f d = some k → TruV X.K v H k
def tru (d : D) : Option Bool := match un d with
  | .a .non => some false
  | .a (.bl b) => some b
  | .a (.int i) => some (i != 0)
  | .a (.str y) => if y.length ≤ sizeLine then some ((y.length : Int) != 0) else none
  | .n .tup ds => some (!ds.isEmpty)
  | .n .lst ds => some (!ds.isEmpty)
  | _ => none
theorem emp_len {α β : Type} {xs : List α} {ys : List β} (h : xs.length = ys.length) : xs.isEmpty = ys.isEmpty := by
  cases xs <;> cases ys <;> first | rfl | cases h
theorem tru_ok : TruD tru := fun X B R F H I v O d k G rp e => by
  unfold tru at e
  cases u : un d with
  | a x =>
    rw [u] at e
    have ev := rp.atom u
    subst ev
    cases v with
    | non => cases e; rfl
    | bl b => cases e; rfl
    | int i => cases e; rfl
    | str y =>
      have e' : (if y.length ≤ sizeLine then some ((y.length : Int) != 0) else none) = some k := e
      split at e'
      · rename_i hl
        cases e'
        exact ⟨hl, rfl⟩
      · cases e'
    | byt b => cases e
    | flt b => cases e
    | ref a => cases e
    | ty n => cases e
  | n t ds =>
    rw [u] at e
    obtain ⟨a, vs, rfl, h2, hl, _⟩ := rp.parts u G.le
    cases t with
    | tup =>
      cases e
      exact .inr (.inl ⟨vs, TupAt.sq h2, by rw [emp_len hl]⟩)
    | lst =>
      cases e
      exact .inl ⟨vs, .inl h2, by rw [emp_len hl]⟩
    | kl => cases e
    | dk ks => cases e
    | dt ks => cases e
    | ins C fs => cases e
  | sh d' => rw [u] at e; cases e
def mTru (d : D) : M Bool := mo (tru d)
theorem ttru {m : M D} (σ : L2.St) (H : Hp) (Q : Bool → Hp → Prop) (q : Tb X B E pr (mb m mTru) σ H Q) : TV X B E pr m σ H (fun x H' => ∃ k, TruV X.K x H' k ∧ Q k H') := by
  obtain ⟨ρ, F, I, f0, G, r0⟩ := q
  refine ⟨ρ, F, I, f0, G, ?_⟩
  refine Run.bind (fun z => z) r0 sub_refl fun x ρ1 H1 F1 s1 f1 r1 v O rp G1 => ?_
  unfold mTru at r1
  cases e : tru x with
  | none =>
    rw [e] at r1
    exact r1.elim
  | some k =>
    rw [e] at r1
    exact ⟨k, tru_ok X B [] F1 H1 _ v O x k G1 rp e, r1 H1 F1 s1 f1 G1⟩
theorem t_tru {m : M D} (ha : PE X a (TV X B E pr m)) (he : ∀ whole, isTrue a X.env whole = (do let v ← whole; standAt a.pos; holding [v] (truthy v)) := by intro _; rfl) : PT X a (Tb X B E pr (mb m mTru)) := PT.imp (pt_truth ha he) ttru
/-! ### and, or, not -/
variable {rest : List Expr}
def mNot (m : M Bool) : M Bool := mb m fun b => mr (!b)
def mAnd (m1 m2 : M Bool) : M Bool := mb m1 fun b => if b = true then m2 else mr false
def mOr (m1 m2 : M Bool) : M Bool := mb m1 fun b => if b = true then mr true else m2
theorem t_not {m : M Bool} (ha : PT X a (Tb X B E pr m)) : PT X (.UnaryOp .Not a pos) (Tb X B E pr (mNot m)) := PT.imp (pt_not ha) fun σ H Q ⟨ρ, F, I, f0, G, r0⟩ => by
  refine ⟨ρ, F, I, f0, G, ?_⟩
  refine Run.bind (fun z => z) r0 sub_refl fun x ρ1 H1 F1 s1 f1 r1 G1 => ?_
  exact r1.mr H1 F1 s1 f1 G1
/-- the second of two runs -/
theorem Run.next {α : Type} {F1 H1 : Hp} {r : Res α} {k : α → Env → Hp → Hp → Prop} (s1 : p1 = true → Same H H1 ∧ Sub F F1) (h : Run X B E (p1 && p2) σ F H I r k) {k1 : α → Env → Hp → Hp → Prop}
    (kk : ∀ x ρ' H' F', Fits ρ' σ → k x ρ' F' H' → k1 x ρ' F' H') : Run X B E p2 σ F1 H1 I r k1 := by
  refine Run.later (p1 := p1) (p2 := p2) (fun z => Bool.and_eq_true_iff.mp z) s1 h sub_refl fun x ρ' H' F' _ f k => kk x ρ' H' F' f k
theorem w_one {m : M Bool} (ha : PT X a (Tb X B E pr m)) {op : BoolOp} (h : ∀ {tA : TT}, PT X a tA → PW X (.BoolOp op [a] pos) tA) : PW X (.BoolOp op [a] pos) (Tb X B E pr m) := h ha
theorem w_and1 {m : M Bool} (ha : PT X a (Tb X B E pr m)) : PW X (.BoolOp .And [a] pos) (Tb X B E pr m) := pw_and1 ha
theorem w_or1 {m : M Bool} (ha : PT X a (Tb X B E pr m)) : PW X (.BoolOp .Or [a] pos) (Tb X B E pr m) := pw_or1 ha
theorem w_and {m1 m2 : M Bool} (ha : PT X a (Tb X B E p1 m1)) (hb : PW X (.BoolOp .And (b :: rest) pos) (Tb X B E p2 m2)) : PW X (.BoolOp .And (a :: b :: rest) pos) (Tb X B E (p1 && p2) (mAnd m1 m2)) := PW.imp (pw_and ha hb) fun σ H Q ⟨ρ, F, I, f0, G, r0⟩ => by
  refine ⟨ρ, F, I, f0, G, ?_⟩
  refine Run.bind (fun z => (Bool.and_eq_true_iff.mp z).1) r0 sub_refl fun x ρ1 H1 F1 s1 f1 r1 G1 => ?_
  cases x with
  | true =>
    rw [if_pos rfl]
    exact ⟨ρ1, F1, I, f1, G1, Run.next s1 (show Run X B E (p1 && p2) σ F H I (m2 ρ1) _ from r1) fun _ _ _ _ _ k => k⟩
  | false =>
    rw [if_neg Bool.false_ne_true]
    exact Run.mr (show Run X B E (p1 && p2) σ F H I (Sm.mr false ρ1) _ from r1) H1 F1 (fun z => s1 (Bool.and_eq_true_iff.mp z).1) f1 G1
theorem w_or {m1 m2 : M Bool} (ha : PT X a (Tb X B E p1 m1)) (hb : PW X (.BoolOp .Or (b :: rest) pos) (Tb X B E p2 m2)) : PW X (.BoolOp .Or (a :: b :: rest) pos) (Tb X B E (p1 && p2) (mOr m1 m2)) := PW.imp (pw_or ha hb) fun σ H Q ⟨ρ, F, I, f0, G, r0⟩ => by
  refine ⟨ρ, F, I, f0, G, ?_⟩
  refine Run.bind (fun z => (Bool.and_eq_true_iff.mp z).1) r0 sub_refl fun x ρ1 H1 F1 s1 f1 r1 G1 => ?_
  cases x with
  | true =>
    rw [if_pos rfl]
    exact Run.mr (show Run X B E (p1 && p2) σ F H I (Sm.mr true ρ1) _ from r1) H1 F1 (fun z => s1 (Bool.and_eq_true_iff.mp z).1) f1 G1
  | false =>
    rw [if_neg Bool.false_ne_true]
    exact ⟨ρ1, F1, I, f1, G1, Run.next s1 (show Run X B E (p1 && p2) σ F H I (m2 ρ1) _ from r1) fun _ _ _ _ _ k => k⟩
theorem t_w {e : Expr} {m : M Bool} (h : PW X e (Tb X B E pr m)) : PT X e (Tb X B E pr m) := h.pt
/-- a if t else b -/
def mIte {α : Type} (c : M Bool) (m1 m2 : M α) : M α := mb c fun b => if b = true then m1 else m2
theorem s_ite {mc : M Bool} {m1 m2 : M D} (hc : PT X c (Tb X B E p1 mc)) (ha : PE X a (T X B E p2 m1)) (hb : PE X b (T X B E p2 m2)) : PE X (.IfExp c a b pos) (T X B E (p1 && p2) (mIte mc m1 m2)) := PE.imp (pe_ifExp hc ha hb) fun σ H Q ⟨ρ, F, I, f0, G, r0⟩ => by
  refine ⟨ρ, F, I, f0, G, ?_⟩
  refine Run.bind (fun z => (Bool.and_eq_true_iff.mp z).1) r0 sub_refl fun x ρ1 H1 F1 s1 f1 r1 G1 => ?_
  cases x with
  | true =>
    rw [if_pos rfl]
    exact ⟨ρ1, F1, I, f1, G1, Run.next s1 (show Run X B E (p1 && p2) σ F H I (m1 ρ1) _ from r1) fun _ _ _ _ _ k => k⟩
  | false =>
    rw [if_neg Bool.false_ne_true]
    exact ⟨ρ1, F1, I, f1, G1, Run.next s1 (show Run X B E (p1 && p2) σ F H I (m2 ρ1) _ from r1) fun _ _ _ _ _ k => k⟩
end
end Sm

namespace Sm
open PySem PySem.Spec PyProof.Rows L2

/-! ### several values that are held; displays -/
section
variable {X : Cx} {B : Bs} {E : XK} {pr p1 p2 : Bool}
theorem sh_nil : PA X [] (Ta X B E true mNil) := PA.imp pa_nil fun σ H Q ⟨ρ, F, I, f, G, r⟩ => r.mr H F (fun _ => Same.rfl2) f [] rfl G
theorem tacons2 {m : M D} {ms : M (List D)} (σ : L2.St) (H : Hp) (Q : List V → Hp → Prop) (q : Ta X B E (p1 && p2) (mCons m ms) σ H Q) : tCons (T X B E p1 m) (Ta X B E p2 ms) σ H Q := by
  obtain ⟨ρ, F, I, f0, G, r0⟩ := q
  refine ⟨ρ, F, I, f0, G, ?_⟩
  refine Run.bind (fun z => (Bool.and_eq_true_iff.mp z).1) r0 sub_refl fun x ρ1 H1 F1 s1 f1 r1 v G1 => ?_
  refine ⟨ρ1, F1, (x, v) :: I, f1, G1.perm List.perm_middle.symm, ?_⟩
  have r2 := Run.later (p2 := p1 && p2) (I' := (x, v) :: I) (fun z => ⟨(Bool.and_eq_true_iff.mp z).1, z⟩) s1 r1 (fun {ρ'} => sub_cons (J := [(x, v)])) fun x ρ' H' F' _ _ k => k
  refine Run.bind (fun z => (Bool.and_eq_true_iff.mp z).2) r2 sub_refl fun y ρ2 H2 F2 s2 f2 r3 ws hl G2 => ?_
  refine r3.mr H2 F2 (fun z => s2 (Bool.and_eq_true_iff.mp z).2) f2 (v :: ws) (congrArg Nat.succ hl) (G2.perm ?_)
  show (y.zip ws ++ (slots ρ2 σ ++ (x, v) :: I)).Perm ((x, v) :: (y.zip ws ++ (slots ρ2 σ ++ I)))
  rw [← List.append_assoc, ← List.append_assoc]
  exact List.perm_middle
theorem sh_cons {e : Expr} {es : List Expr} {m : M D} {ms : M (List D)} (h : PE X e (T X B E p1 m)) (hr : PA X es (Ta X B E p2 ms)) (hs : starEach (e :: es) X.env = (false, eval e X.env) :: starEach es X.env := by rfl) :
    PA X (e :: es) (Ta X B E (p1 && p2) (mCons m ms)) := PA.imp (pa_cons h hr hs) tacons2
def mTupN (ds : List D) : M D := fun ρ => if ds.length ≤ sizeLine then .ok (.tup ds) ρ else .bad
def mLstN (ds : List D) : M D := fun ρ => if ds.length ≤ sizeLine then .ok (.lst ds) ρ else .bad
theorem Same.alloc {H : Hp} {p : Addr} {o : HO} (h : H p = none) : Same H (upd H p o) := fun b u e => by
  rw [upd_ne (ne_of_none e h)]
  exact e
theorem s_tup {es : List Expr} {x1 : Nat} {pos : Pos} {ms : M (List D)} (h : PA X es (Ta X B E pr ms)) : PE X (.Tuple es x1 pos) (T X B E pr (mb ms mTupN)) := PE.imp (pe_tup h) fun σ H Q ⟨ρ, F, I, f, G, r0⟩ => by
  refine ⟨ρ, F, I, f, G, ?_⟩
  refine Run.bind (fun z => z) r0 sub_refl fun ds ρ1 H1 F1 s1 f1 r1 vs hl G1 => ?_
  unfold mTupN at r1
  by_cases hd : ds.length ≤ sizeLine
  · rw [if_pos hd] at r1
    refine ⟨hl ▸ hd, fun p hp => ?_⟩
    obtain ⟨F', sb, G'⟩ := G1.allocT hl hp
    exact r1 _ F' (fun z => ⟨(s1 z).1.trans (Same.alloc hp), fun a o e => sb a o ((s1 z).2 a o e)⟩) f1 (.ref p) G'
  · rw [if_neg hd] at r1
    exact r1.elim
theorem Gd.newLst {K : PySem.W.Frag} {R : List Addr} {F H : Hp} {I : List It} {ds : List D} {vs : List V} {p : Addr} (G : Gd K B R F H (ds.zip vs ++ I)) (hl : ds.length = vs.length) (hp : H p = none) :
    Gd K B R F (upd H p (.lst vs)) ((.lst ds, .ref p) :: I) := (G.alloc hp (fun _ e => by cases e) (t := .lst) (vs := vs) upd_same).close upd_same hl
theorem s_lst {es : List Expr} {pos : Pos} {ms : M (List D)} (h : PA X es (Ta X B E pr ms)) : PE X (.List es pos) (T X B E pr (mb ms mLstN)) := PE.imp (pe_lst h) fun σ H Q ⟨ρ, F, I, f, G, r0⟩ => by
  refine ⟨ρ, F, I, f, G, ?_⟩
  refine Run.bind (fun z => z) r0 sub_refl fun ds ρ1 H1 F1 s1 f1 r1 vs hl G1 => ?_
  unfold mLstN at r1
  by_cases hd : ds.length ≤ sizeLine
  · rw [if_pos hd] at r1
    refine ⟨hl ▸ hd, fun p hp => ?_⟩
    exact r1 _ F1 (fun z => ⟨(s1 z).1.trans (Same.alloc hp), (s1 z).2⟩) f1 (.ref p) (G1.newLst hl hp)
  · rw [if_neg hd] at r1
    exact r1.elim
end

/-! ### statements -/
inductive SRes where
  | next (ρ : Env)
  | ret (d : D) (ρ : Env)
  | brk (ρ : Env)
  | cont (ρ : Env)
  | exc (x : Ex) (ρ : Env)
  | bad
abbrev MS := Env → SRes
def Res.s {α : Type} : Res α → (α → Env → SRes) → SRes
  | .ok x ρ, f => f x ρ
  | .exc e ρ, _ => .exc e ρ
  | .bad, _ => .bad
/-- the slots of a def: fx tells those that keep their value (parameters that are changed in place) -/
structure Fx where
  n : Nat
  fx : Nat → Option V
def OkS (Y : Fx) (σ : L2.St) : Prop := σ.length = Y.n ∧ ∀ i v, Y.fx i = some v → σ[i]? = some (some v)
theorem OkS.set {Y : Fx} {σ : L2.St} {i : Nat} {x : Option V} (h : OkS Y σ) (hi : Y.fx i = none) : OkS Y (σ.set i x) := ⟨by rw [List.length_set]; exact h.1, fun j v e => by
  have ne : i ≠ j := fun z => by
    subst z
    rw [hi] at e
    cases e
  rw [List.getElem?_set_ne ne]
  exact h.2 j v e⟩
section
variable {X : Cx} {B : Bs} {E : XK} {Y : Fx} {pr p1 p2 : Bool}
def SRun (X : Cx) (B : Bs) (Y : Fx) (E : XK) (I : List It) (D : Ends) (r : SRes) : Prop :=
  match r with
  | .next ρ => ∀ σ H F, OkS Y σ → Fits ρ σ → Gd X.K B [] F H (slots ρ σ ++ I) → D.nx σ H
  | .ret d ρ => ∀ v σ H F, OkS Y σ → Fits ρ σ → Gd X.K B [] F H ((d, v) :: (slots ρ σ ++ I)) → D.rt v H
  | .brk ρ => ∀ σ H F, OkS Y σ → Fits ρ σ → Gd X.K B [] F H (slots ρ σ ++ I) → D.bk σ H
  | .cont ρ => ∀ σ H F, OkS Y σ → Fits ρ σ → Gd X.K B [] F H (slots ρ σ ++ I) → D.ct σ H
  | .exc x ρ => ∀ cls dd σ H F, OkS Y σ → Fits ρ σ → Gd X.K B [] F H (slots ρ σ ++ I) → XAt X.K x cls dd H → E cls dd H
  | .bad => False
def TSt (X : Cx) (B : Bs) (Y : Fx) (E : XK) (m : MS) : TS := fun D σ H => ∃ ρ F I, OkS Y σ ∧ Fits ρ σ ∧ Gd X.K B [] F H (slots ρ σ ++ I) ∧ SRun X B Y E I D (m ρ)
/-- an expression's run within a statement -/
theorem SRun.run {α : Type} {σ : L2.St} {F H : Hp} {I I' : List It} {r : Res α} {f : α → Env → SRes} {D : Ends} (ok : OkS Y σ) (h : SRun X B Y E I D (r.s f)) {k : α → Env → Hp → Hp → Prop}
    (sub : ∀ {ρ' : Env}, (slots ρ' σ ++ I).Sublist (slots ρ' σ ++ I')) (step : ∀ x ρ1 H1 F1, (pr = true → Same H H1 ∧ Sub F F1) → Fits ρ1 σ → SRun X B Y E I D (f x ρ1) → k x ρ1 F1 H1) : Run X B E pr σ F H I' r k := by
  cases e : r with
  | ok x ρ1 =>
    rw [e] at h
    exact fun H1 F1 s1 f1 => step x ρ1 H1 F1 s1 f1 h
  | exc x ρ1 =>
    rw [e] at h
    intro cls dd H' F' f1 G x1
    exact h cls dd σ H' F' ok f1 (G.drop sub) x1
  | bad =>
    rw [e] at h
    exact h
def mSkip : MS := .next
def SRes.seq : SRes → MS → SRes
  | .next ρ, m => m ρ
  | r, _ => r
def mSeq (m1 m2 : MS) : MS := fun ρ => (m1 ρ).seq m2
theorem SRun.mono {I I' : List It} {D D' : Ends} {r : SRes} (h : SRun X B Y E I D r) (sub : ∀ {ρ : Env} {σ : L2.St}, (slots ρ σ ++ I).Sublist (slots ρ σ ++ I')) (h1 : ∀ σ H, D.nx σ H → D'.nx σ H) (h2 : ∀ v H, D.rt v H → D'.rt v H) (h3 : ∀ σ H, D.bk σ H → D'.bk σ H) (h4 : ∀ σ H, D.ct σ H → D'.ct σ H) : SRun X B Y E I' D' r := by
  cases r with
  | next ρ => exact fun σ H F ok f G => h1 σ H (h σ H F ok f (G.drop sub))
  | ret d ρ => exact fun v σ H F ok f G => h2 v H (h v σ H F ok f (G.drop (sub.cons_cons _)))
  | brk ρ => exact fun σ H F ok f G => h3 σ H (h σ H F ok f (G.drop sub))
  | cont ρ => exact fun σ H F ok f G => h4 σ H (h σ H F ok f (G.drop sub))
  | exc x ρ => exact fun cls dd σ H F ok f G => h cls dd σ H F ok f (G.drop sub)
  | bad => exact h
theorem SRun.seq {I : List It} {D : Ends} {r : SRes} {m : MS} (h : SRun X B Y E I D (r.seq m)) : SRun X B Y E I { D with nx := TSt X B Y E m D } r := by
  cases r with
  | next ρ => exact fun σ H F ok f G => ⟨ρ, F, I, ok, f, G, h⟩
  | ret d ρ => exact h
  | brk ρ => exact h
  | cont ρ => exact h
  | exc x ρ => exact h
  | bad => exact h
theorem tseq {m1 m2 : MS} (D : Ends) (σ : L2.St) (H : Hp) (q : TSt X B Y E (mSeq m1 m2) D σ H) : tSeq (TSt X B Y E m1) (TSt X B Y E m2) D σ H := by
  obtain ⟨ρ, F, I, ok, f, G, r⟩ := q
  exact ⟨ρ, F, I, ok, f, G, SRun.seq r⟩
theorem b_nil : PSs X [] (TSt X B Y E mSkip) := PSs.imp pss_nil fun D σ H ⟨ρ, F, I, ok, f, G, r⟩ => r σ H F ok f G
theorem b_cons {st : Stmt} {sts : List Stmt} {m1 m2 : MS} (h1 : PS X st (TSt X B Y E m1)) (h2 : PSs X sts (TSt X B Y E m2)) : PSs X (st :: sts) (TSt X B Y E (mSeq m1 m2)) := PSs.imp (pss_cons h1 h2) tseq
theorem b_one {st : Stmt} {m1 : MS} (h1 : PS X st (TSt X B Y E m1)) : PSs X [st] (TSt X B Y E m1) := pss_one h1
variable {e c : Expr} {pos : Pos}
def mBrk : MS := .brk
def mCont : MS := .cont
theorem c_pass : PS X (.Pass pos) (TSt X B Y E mSkip) := PS.imp ps_pass fun D σ H ⟨ρ, F, I, ok, f, G, r⟩ => r σ H F ok f G
theorem c_break : PS X (.Break pos) (TSt X B Y E mBrk) := PS.imp ps_break fun D σ H ⟨ρ, F, I, ok, f, G, r⟩ => r σ H F ok f G
theorem c_continue : PS X (.Continue pos) (TSt X B Y E mCont) := PS.imp ps_continue fun D σ H ⟨ρ, F, I, ok, f, G, r⟩ => r σ H F ok f G
theorem c_doc {x j p2} : PS X (.Expr (.Constant (.str x) j p2) pos) (TSt X B Y E mSkip) := PS.imp ps_doc fun D σ H ⟨ρ, F, I, ok, f, G, r⟩ => r σ H F ok f G
def mDrop (m : M D) : MS := fun ρ => (m ρ).s fun _ ρ => .next ρ
theorem c_expr {m : M D} (h : PE X e (T X B E pr m)) (hs : swapsWith e none pos.line X.env = pure false := by rfl) : PS X (.Expr e pos) (TSt X B Y E (mDrop m)) := PS.imp (ps_expr h hs) fun D σ H ⟨ρ, F, I, ok, f, G, r⟩ => by
  refine ⟨ρ, F, I, f, G, ?_⟩
  exact SRun.run ok r sub_refl fun x ρ1 H1 F1 _ f1 r1 v G1 => r1 σ H1 F1 ok f1 G1.tail
def mRet (m : M D) : MS := fun ρ => (m ρ).s .ret
theorem c_ret {m : M D} (h : PE X e (T X B E pr m)) : PS X (.Return (some e) pos) (TSt X B Y E (mRet m)) := PS.imp (ps_ret h) fun D σ H ⟨ρ, F, I, ok, f, G, r⟩ => by
  refine ⟨ρ, F, I, f, G, ?_⟩
  exact SRun.run ok r sub_refl fun x ρ1 H1 F1 _ f1 r1 v G1 => r1 v σ H1 F1 ok f1 G1
def mRetN : MS := .ret .non
theorem c_retN : PS X (.Return none pos) (TSt X B Y E mRetN) := PS.imp ps_retN fun D σ H ⟨ρ, F, I, ok, f, G, r⟩ => r .non σ H F ok f G.atom
def mIf (c : M Bool) (m1 m2 : MS) : MS := fun ρ => (c ρ).s fun b => if b = true then m1 else m2
theorem c_if {a b : List Stmt} {mc : M Bool} {m1 m2 : MS} (hc : PT X c (Tb X B E pr mc)) (ha : PSs X a (TSt X B Y E m1)) (hb : PSs X b (TSt X B Y E m2)) : PS X (.If c a b pos) (TSt X B Y E (mIf mc m1 m2)) := PS.imp (ps_if hc ha hb) fun D σ H ⟨ρ, F, I, ok, f, G, r⟩ => by
  refine ⟨ρ, F, I, f, G, ?_⟩
  refine SRun.run ok r sub_refl fun x ρ1 H1 F1 _ f1 r1 G1 => ?_
  cases x with
  | true =>
    rw [if_pos rfl]
    exact ⟨ρ1, F1, I, ok, f1, G1, r1⟩
  | false =>
    rw [if_neg Bool.false_ne_true]
    exact ⟨ρ1, F1, I, ok, f1, G1, r1⟩

/-! ### targets -/
abbrev MG := D → Env → Option Env
def TGt (X : Cx) (B : Bs) (Y : Fx) (mg : MG) : TG := fun v σ H Q => ∃ d ρ F I, OkS Y σ ∧ Fits ρ σ ∧ Gd X.K B [] F H ((d, v) :: (slots ρ σ ++ I)) ∧ ∃ ρ', mg d ρ = some ρ' ∧ ∀ σ' H' F', OkS Y σ' → Fits ρ' σ' → Gd X.K B [] F' H' (slots ρ' σ' ++ I) → Q σ' H'
abbrev MGs := List D → Env → Option Env
def TGts (X : Cx) (B : Bs) (Y : Fx) (mg : MGs) : TGs := fun vs σ H Q => ∃ ds ρ F I, ds.length = vs.length ∧ OkS Y σ ∧ Fits ρ σ ∧ Gd X.K B [] F H (ds.zip vs ++ (slots ρ σ ++ I)) ∧ ∃ ρ', mg ds ρ = some ρ' ∧ ∀ σ' H' F', OkS Y σ' → Fits ρ' σ' → Gd X.K B [] F' H' (slots ρ' σ' ++ I) → Q σ' H'
theorem PG.imp {tg : Expr} {t t' : TG} (h : PG X tg t) (i : ∀ v σ H Q, t' v σ H Q → t v σ H Q) : PG X tg t' := ⟨fun pins s σ H v u Q I r hq => h.run pins s σ H v u Q I r (i v σ H Q hq)⟩
theorem PGs.imp {tg : List Expr} {t t' : TGs} (h : PGs X tg t) (i : ∀ v σ H Q, t' v σ H Q → t v σ H Q) : PGs X tg t' := ⟨fun pins s σ H v u Q I r hq => h.run pins s σ H v u Q I r (i v σ H Q hq)⟩
def gSet (i : Nat) : MG := fun d ρ => some (ρ.set i (some d))
theorem put_ok {ρ : Env} {σ : L2.St} {F H : Hp} {I : List It} {i : Nat} {d : D} {v : V} (f : Fits ρ σ) (hi : i < σ.length) (G : Gd X.K B [] F H ((d, v) :: (slots ρ σ ++ I))) :
    Fits (ρ.set i (some d)) (σ.set i (some v)) ∧ Gd X.K B [] F H (slots (ρ.set i (some d)) (σ.set i (some v)) ++ I) := by
  obtain ⟨p, f'⟩ := slots_put (d := d) (v := v) f (by rw [f.length]; exact hi)
  refine ⟨f', (G.drop (J := (d, v) :: (slots (ρ.set i none) σ ++ I)) ?_).perm (p.append_right I).symm⟩
  exact ((slots_none f).1.append_right I).cons_cons _
theorem g_set {i : Nat} {x : Str} (hi : X.N[i]? = some x) (hx : Loc X.env.scope x) (hN : X.N.Nodup) (hY : Y.n = X.N.length) (hfx : Y.fx i = none) (hf : X.fn x = true ∨ X.env.scope.names.lookup x = some .local := by first | exact .inl rfl | exact .inr rfl | assumption) :
    PG X (.Name x pos) (TGt X B Y (gSet i)) := PG.imp (pg_name hN hi hx hf) fun v σ H Q ⟨d, ρ, F, I, ok, f, G, ρ', e, k⟩ => by
  have hl : i < σ.length := by
    rw [ok.1, hY]
    exact (List.getElem?_eq_some_iff.mp hi).1
  obtain ⟨f', G'⟩ := put_ok f hl G
  injection e with e
  subst e
  exact k _ H F (ok.set hfx) f' G'
def gsNil : MGs := fun ds ρ => match ds with
  | [] => some ρ
  | _ :: _ => none
def gsCons (g : MG) (gs : MGs) : MGs := fun ds ρ => match ds with
  | [] => none
  | d :: ds => (g d ρ).bind (gs ds)
theorem gs_nil : PGs X [] (TGts X B Y gsNil) := PGs.imp pgs_nil fun vs σ H Q ⟨ds, ρ, F, I, hl, ok, f, G, ρ', e, k⟩ => by
  cases ds with
  | nil =>
    injection e with e
    subst e
    exact ⟨List.length_eq_zero_iff.mp hl.symm, k σ H F ok f (by cases vs <;> first | exact G | cases hl)⟩
  | cons d ds => cases e
theorem gs_cons {t : Expr} {ts : List Expr} {g : MG} {gs : MGs} (h1 : PG X t (TGt X B Y g)) (h2 : PGs X ts (TGts X B Y gs)) (hs : (assignEach (t :: ts) X.env).map (·.2) = assign t X.env :: (assignEach ts X.env).map (·.2) := by rfl) :
    PGs X (t :: ts) (TGts X B Y (gsCons g gs)) := PGs.imp (pgs_cons h1 h2 hs) fun vs σ H Q ⟨ds, ρ, F, I, hl, ok, f, G, ρ', e, k⟩ => by
  cases ds with
  | nil => cases e
  | cons d ds =>
    cases vs with
    | nil => cases hl
    | cons v vs =>
      have e' : (g d ρ).bind (gs ds) = some ρ' := e
      cases e1 : g d ρ with
      | none => rw [e1] at e'; cases e'
      | some ρ1 =>
        rw [e1] at e'
        refine ⟨v, vs, rfl, d, ρ, F, ds.zip vs ++ I, ok, f, G.perm ?_, ρ1, e1, fun σ1 H1 F1 ok1 f1 G1 => ⟨ds, ρ1, F1, I, Nat.succ.inj hl, ok1, f1, G1.perm ?_, ρ', e', k⟩⟩
        · show ((d, v) :: (ds.zip vs ++ (slots ρ σ ++ I))).Perm ((d, v) :: (slots ρ σ ++ (ds.zip vs ++ I)))
          rw [← List.append_assoc, ← List.append_assoc]
          exact (List.perm_append_comm.append_right I).cons _
        · rw [← List.append_assoc, ← List.append_assoc]
          exact List.perm_append_comm.append_right I
def gTupN (n : Nat) (gs : MGs) : MG := fun d ρ => match d with
  | .n .tup ds => if ds.length = n then gs ds ρ else none
  | _ => none
theorem g_tup {es : List Expr} {k n : Nat} {gs : MGs} (hc : X.calm = true) (h : PGs X es (TGts X B Y gs)) (hn : (assignEach es X.env).length = n := by rfl) (hst : (assignEach es X.env).findIdx? (·.1) = none := by rfl) :
    PG X (.Tuple es k pos) (TGt X B Y (gTupN n gs)) := PG.imp (pg_tup hc h hn hst) fun v σ H Q ⟨d, ρ, F, I, ok, f, G, ρ', e, kk⟩ => by
  unfold gTupN at e
  split at e
  · rename_i ds
    by_cases hl : ds.length = n
    · rw [if_pos hl] at e
      obtain ⟨a, vs, rfl, sq, hlen, G'⟩ := G.openT
      exact ⟨a, vs, rfl, sq.sq, hlen ▸ hl, ds, ρ, F, I, hlen, ok, f, G', ρ', e, kk⟩
    · rw [if_neg hl] at e
      cases e
  · cases e
def mAsg (m : M D) (mg : MG) : MS := fun ρ => (m ρ).s fun d ρ => match mg d ρ with
  | some ρ' => .next ρ'
  | none => .bad
theorem asg_ok {σ : L2.St} {F H : Hp} {I : List It} {d : D} {v : V} {ρ : Env} {mg : MG} {D : Ends} (ok : OkS Y σ) (f : Fits ρ σ) (G : Gd X.K B [] F H ((d, v) :: (slots ρ σ ++ I)))
    (r : SRun X B Y E I D (match mg d ρ with | some ρ' => .next ρ' | none => .bad)) : TGt X B Y mg v σ H D.nx := by
  cases e : mg d ρ with
  | none =>
    rw [e] at r
    exact r.elim
  | some ρ' =>
    rw [e] at r
    exact ⟨d, ρ, F, I, ok, f, G, ρ', e, r⟩
theorem c_asg {tg : Expr} {m : M D} {mg : MG} (he : PE X e (T X B E pr m)) (hg : PG X tg (TGt X B Y mg)) (hs : swapsWithSole [tg] e pos.line X.env = pure false := by rfl) (hw : swappedStores [tg] e X.env = pure none := by rfl)
    (h1 : (assignEach [tg] X.env).map (·.2) = [assign tg X.env] := by rfl) : PS X (.Assign [tg] e pos) (TSt X B Y E (mAsg m mg)) := PS.imp (ps_asg he hg hs hw h1) fun D σ H ⟨ρ, F, I, ok, f, G, r⟩ => by
  refine ⟨ρ, F, I, f, G, ?_⟩
  exact SRun.run ok r sub_refl fun x ρ1 H1 F1 _ f1 r1 v G1 => asg_ok ok f1 G1 r1
theorem tset {i : Nat} {x : Str} {m : M D} (hi : X.N[i]? = some x) (hY : Y.n = X.N.length) (hfx : Y.fx i = none) (D : Ends) (σ : L2.St) (H : Hp) (q : TSt X B Y E (mAsg m (gSet i)) D σ H) : T X B E pr m σ H (fun v H' => gName i v σ H' D.nx) := by
  obtain ⟨ρ, F, I, ok, f, G, r⟩ := q
  refine ⟨ρ, F, I, f, G, ?_⟩
  refine SRun.run ok r sub_refl fun x ρ1 H1 F1 _ f1 r1 v G1 => ?_
  have hl : i < σ.length := by
    rw [ok.1, hY]
    exact (List.getElem?_eq_some_iff.mp hi).1
  obtain ⟨f', G'⟩ := put_ok f1 hl G1
  exact r1 _ H1 F1 (ok.set hfx) f' G'
theorem c_set {i : Nat} {x : Str} {m : M D} {pos' : Pos} (he : PE X e (T X B E pr m)) (hi : X.N[i]? = some x) (hx : Loc X.env.scope x) (hN : X.N.Nodup) (hY : Y.n = X.N.length) (hfx : Y.fx i = none)
    (hs : swapsWith e (some (.Name x pos')) pos.line X.env = pure false := by rfl) (hf : X.fn x = true ∨ X.env.scope.names.lookup x = some .local := by first | exact .inl rfl | exact .inr rfl | assumption) :
    PS X (.Assign [.Name x pos'] e pos) (TSt X B Y E (mAsg m (gSet i))) := PS.imp (ps_set hN hi hx he hs hf) (tset hi hY hfx)
/-- name op= e -/
def mAug (i : Nat) (g : D → D → Option D) (m : M D) : MS := fun ρ => match ρ[i]? with
  | some (some x) => if fre x = true then (m ρ).s fun y ρ => match g x y with
    | some z => .next (ρ.set i (some z))
    | none => .bad
    else .bad
  | _ => .bad
theorem c_aug {i : Nat} {x : Str} {m : M D} {op : Operator} {ti : TIp} {g : D → D → Option D} {pos' : Pos} (ho : PIp X op ti) (h : Rd2 X ti g) (he : PE X e (TV X B E pr m)) (hi : X.N[i]? = some x) (hx : Loc X.env.scope x) (hN : X.N.Nodup) (hY : Y.n = X.N.length) (hfx : Y.fx i = none)
    (hf : X.fn x = true ∨ X.env.scope.names.lookup x = some .local := by first | exact .inl rfl | exact .inr rfl | assumption) :
    PS X (.AugAssign (.Name x pos') op e pos) (TSt X B Y E (mAug i g m)) := PS.imp (ps_aug hN hi hx he ho hf) fun D σ H ⟨ρ, F, I, ok, f, G, r⟩ => by
  unfold mAug at r
  cases e1 : ρ[i]? with
  | none => rw [e1] at r; exact r.elim
  | some o =>
    cases o with
    | none => rw [e1] at r; exact r.elim
    | some d =>
      rw [e1] at r
      by_cases hfr : fre d = true
      · have r' : SRun X B Y E I D ((m ρ).s fun y ρ => match g d y with
          | some z => .next (ρ.set i (some z))
          | none => .bad) := by
          have z := r
          simp only [hfr, if_true] at z
          exact z
        obtain ⟨v, e2, hm⟩ := slots_mem f e1
        refine ⟨v, e2, ρ, F, (d, v) :: I, f, (G.dup (List.mem_append_left I hm) hfr).perm List.perm_middle.symm, ?_⟩
        refine SRun.run ok r' (fun {ρ'} => sub_cons (J := [(d, v)])) fun y ρ1 H1 F1 _ f1 r1 w O rp G1 => ?_
        have G2 : Gd X.K B [] F1 H1 ((d, v) :: (slots ρ1 σ ++ I)) := G1.perm List.perm_middle
        obtain ⟨O1, rp1⟩ := G2.rep
        cases e3 : g d y with
        | none =>
          rw [e3] at r1
          exact r1.elim
        | some z =>
          rw [e3] at r1
          refine h _ _ _ _ _ v w O1 O d y z _ G2.tail rp1 rp e3 fun u H' F' _ _ G' => ?_
          have hl : i < σ.length := by
            rw [ok.1, hY]
            exact (List.getElem?_eq_some_iff.mp hi).1
          obtain ⟨f', G''⟩ := put_ok f1 hl G'
          exact r1 _ H' F' (ok.set hfx) f' G''
      · have z := r
        simp only [hfr] at z
        exact z.elim
end
end Sm

namespace Sm
open PySem PySem.Spec PyProof.Rows L2

/-! ### while -/
def wRun (c : M Bool) (b : MS) : Nat → Env → Option SRes
  | 0, _ => none
  | n + 1, ρ => match c ρ with
    | .ok true ρ1 => match b ρ1 with
      | .next ρ2 => wRun c b n ρ2
      | .cont ρ2 => wRun c b n ρ2
      | .brk ρ2 => some (.next ρ2)
      | .ret d ρ2 => some (.ret d ρ2)
      | .exc x ρ2 => some (.exc x ρ2)
      | .bad => some .bad
    | .ok false ρ1 => some (.next ρ1)
    | .exc x ρ1 => some (.exc x ρ1)
    | .bad => some .bad
theorem wRun_mono {c : M Bool} {b : MS} : ∀ {n : Nat} {ρ : Env} {r : SRes}, wRun c b n ρ = some r → ∀ m, n ≤ m → wRun c b m ρ = some r
  | 0, _, _, h, _, _ => by cases h
  | n + 1, ρ, r, h, 0, l => absurd l (Nat.not_succ_le_zero n)
  | n + 1, ρ, r, h, m + 1, l => by
    have l' : n ≤ m := Nat.le_of_succ_le_succ l
    unfold wRun at h ⊢
    cases e : c ρ with
    | ok x ρ1 =>
      rw [e] at h
      cases x with
      | true =>
        cases e2 : b ρ1 with
        | next ρ2 =>
          simp only [e2] at h ⊢
          exact wRun_mono h m l'
        | cont ρ2 =>
          simp only [e2] at h ⊢
          exact wRun_mono h m l'
        | brk ρ2 => simp only [e2] at h ⊢; exact h
        | ret d ρ2 => simp only [e2] at h ⊢; exact h
        | exc x ρ2 => simp only [e2] at h ⊢; exact h
        | bad => simp only [e2] at h ⊢; exact h
      | false => exact h
    | exc x ρ1 => rw [e] at h; exact h
    | bad => rw [e] at h; exact h
theorem wRun_one {c : M Bool} {b : MS} {n m : Nat} {ρ : Env} {r r' : SRes} (h : wRun c b n ρ = some r) (h' : wRun c b m ρ = some r') : r = r' := by
  have a := wRun_mono h (max n m) (Nat.le_max_left _ _)
  have b := wRun_mono h' (max n m) (Nat.le_max_right _ _)
  rw [a] at b
  exact Option.some.inj b
open Classical in
noncomputable def mWhile (c : M Bool) (b : MS) : MS := fun ρ => if h : ∃ r n, wRun c b n ρ = some r then h.choose else .bad
theorem mWhile_of {c : M Bool} {b : MS} {n : Nat} {ρ : Env} {r : SRes} (h : wRun c b n ρ = some r) : mWhile c b ρ = r := by
  have q : ∃ r n, wRun c b n ρ = some r := ⟨r, n, h⟩
  unfold mWhile
  rw [dif_pos q]
  obtain ⟨m, e⟩ := q.choose_spec
  exact wRun_one e h
theorem mWhile_some {c : M Bool} {b : MS} {ρ : Env} (h : mWhile c b ρ ≠ .bad) : ∃ n, wRun c b n ρ = some (mWhile c b ρ) := by
  by_cases q : ∃ r n, wRun c b n ρ = some r
  · obtain ⟨r, n, e⟩ := q
    exact ⟨n, by rw [mWhile_of e]; exact e⟩
  · exact absurd (by unfold mWhile; rw [dif_neg q]) h
/-- one turn -/
theorem mWhile_eq (c : M Bool) (b : MS) (ρ : Env) : mWhile c b ρ = (match c ρ with
    | .ok true ρ1 => match b ρ1 with
      | .next ρ2 => mWhile c b ρ2
      | .cont ρ2 => mWhile c b ρ2
      | .brk ρ2 => .next ρ2
      | .ret d ρ2 => .ret d ρ2
      | .exc x ρ2 => .exc x ρ2
      | .bad => .bad
    | .ok false ρ1 => .next ρ1
    | .exc x ρ1 => .exc x ρ1
    | .bad => .bad) := by
  have one : ∀ {r : SRes} {n : Nat}, wRun c b n ρ = some r → mWhile c b ρ = r := fun h => mWhile_of h
  have rec_ : ∀ ρ2, (∀ n, wRun c b (n + 1) ρ = wRun c b n ρ2) → mWhile c b ρ = mWhile c b ρ2 := fun ρ2 h => by
    by_cases q : ∃ r n, wRun c b n ρ2 = some r
    · obtain ⟨r, n, e⟩ := q
      rw [mWhile_of e]
      exact mWhile_of (n := n + 1) (by rw [h]; exact e)
    · have q' : ¬ ∃ r n, wRun c b n ρ = some r := fun ⟨r, n, e⟩ => by
        cases n with
        | zero => cases e
        | succ n => rw [h] at e; exact q ⟨r, n, e⟩
      unfold mWhile
      rw [dif_neg q, dif_neg q']
  cases e : c ρ with
  | ok x ρ1 =>
    cases x with
    | true =>
      cases e2 : b ρ1 with
      | next ρ2 =>
        simp only [e2]
        refine rec_ ρ2 fun n => ?_
        rw [wRun.eq_def]
        simp only [e, e2]
      | cont ρ2 =>
        simp only [e2]
        refine rec_ ρ2 fun n => ?_
        rw [wRun.eq_def]
        simp only [e, e2]
      | brk ρ2 => simp only [e2]; exact one (n := 1) (by unfold wRun; simp only [e, e2])
      | ret d ρ2 => simp only [e2]; exact one (n := 1) (by unfold wRun; simp only [e, e2])
      | exc x ρ2 => simp only [e2]; exact one (n := 1) (by unfold wRun; simp only [e, e2])
      | bad => simp only [e2]; exact one (n := 1) (by unfold wRun; simp only [e, e2])
    | false => exact one (n := 1) (by unfold wRun; simp only [e])
  | exc x ρ1 => exact one (n := 1) (by unfold wRun; simp only [e])
  | bad => exact one (n := 1) (by unfold wRun; simp only [e])
section
variable {X : Cx} {B : Bs} {E : XK} {Y : Fx} {pr p1 p2 : Bool} {e c : Expr} {pos : Pos}
theorem c_while {body : List Stmt} {mc : M Bool} {m : MS} (hp : PassesOwn (model X.prog X.w) X.A X.env X.xe) (hc : PT X c (Tb X B E pr mc)) (hb : PSs X body (TSt X B Y E m)) : PS X (.While c body [] pos) (TSt X B Y E (mWhile mc m)) := PS.imp (ps_while hp hc hb) fun D σ H ⟨ρ, F, I, ok, f, G, r⟩ => by
  have nb : mWhile mc m ρ ≠ .bad := fun e => by
    rw [e] at r
    exact r
  obtain ⟨n0, e0⟩ := mWhile_some nb
  refine ⟨fun n σ H => ∃ ρ F r, OkS Y σ ∧ Fits ρ σ ∧ Gd X.K B [] F H (slots ρ σ ++ I) ∧ wRun mc m n ρ = some r ∧ SRun X B Y E I D r, ⟨n0, ρ, F, _, ok, f, G, e0, r⟩, ?_⟩
  rintro n σ H ⟨ρ, F, r, ok, f, G, e, r0⟩
  cases n with
  | zero => cases e
  | succ n =>
    refine ⟨ρ, F, I, f, G, ?_⟩
    unfold wRun at e
    cases ec : mc ρ with
    | exc x ρ1 =>
      simp only [ec] at e
      cases e
      intro cls dd H' F' f1 G1 x1
      exact r0 cls dd σ H' F' ok f1 G1 x1
    | bad =>
      simp only [ec] at e
      cases e
      exact r0.elim
    | ok x ρ1 =>
      simp only [ec] at e
      intro H1 F1 _ f1 G1
      cases x with
      | false =>
        rw [if_neg Bool.false_ne_true]
        cases e
        exact r0 σ H1 F1 ok f1 G1
      | true =>
        rw [if_pos rfl]
        refine ⟨fun σ' H' => ∃ ρ F r, OkS Y σ' ∧ Fits ρ σ' ∧ Gd X.K B [] F H' (slots ρ σ' ++ I) ∧ wRun mc m n ρ = some r ∧ SRun X B Y E I D r, fun σ' H' h => ⟨n, Nat.lt_succ_self n, h⟩, ρ1, F1, I, ok, f1, G1, ?_⟩
        cases eb : m ρ1 with
        | next ρ2 =>
          simp only [eb] at e
          exact fun σ' H' F' ok' f' G' => ⟨ρ2, F', r, ok', f', G', e, r0⟩
        | cont ρ2 =>
          simp only [eb] at e
          exact fun σ' H' F' ok' f' G' => ⟨ρ2, F', r, ok', f', G', e, r0⟩
        | brk ρ2 =>
          simp only [eb] at e
          cases e
          exact r0
        | ret d ρ2 =>
          simp only [eb] at e
          cases e
          exact r0
        | exc x ρ2 =>
          simp only [eb] at e
          cases e
          exact r0
        | bad =>
          simp only [eb] at e
          cases e
          exact r0
/-! ### for -/
def mFor (g : MG) (b : MS) : List D → MS
  | [], ρ => .next ρ
  | d :: ds, ρ => match g d ρ with
    | none => .bad
    | some ρ1 => match b ρ1 with
      | .next ρ2 => mFor g b ds ρ2
      | .cont ρ2 => mFor g b ds ρ2
      | .brk ρ2 => .next ρ2
      | .ret d ρ2 => .ret d ρ2
      | .exc x ρ2 => .exc x ρ2
      | .bad => .bad
/-- what a walk yields, while I0 is held -/
structure Src (X : Cx) (J : L2.It) (I0 : List It) (ds : List D) : Prop where
  go : ∀ (B : Bs) (F H : Hp) (I : List It), Gd X.K B [] F H (I0 ++ I) → ∀ (i : Nat) (d : D), ds[i]? = some d → J.go i H ∧ ∀ x H', J.yld i H x H' → Same H H' ∧ ∃ F', Sub F F' ∧ Gd X.K B [] F' H' ((d, x) :: (I0 ++ I))
  stop : ∀ (B : Bs) (F H : Hp) (I : List It), Gd X.K B [] F H (I0 ++ I) → J.stop ds.length H
def TIt (X : Cx) (B : Bs) (E : XK) (pr : Bool) (m : M (List D)) : TI := fun σ H R => Rdg X B E pr m σ H fun ds ρ' I F' H' => ∀ J I0, Src X J I0 ds → Gd X.K B [] F' H' (I0 ++ (slots ρ' σ ++ I)) → R J H'
def mForS (m : M (List D)) (g : MG) (b : MS) : MS := fun ρ => (m ρ).s (mFor g b)
theorem perm_mid {A C I : List It} : (A ++ (C ++ I)).Perm (C ++ (A ++ I)) := by
  rw [← List.append_assoc, ← List.append_assoc]
  exact List.perm_append_comm.append_right I
theorem c_for {tg iter : Expr} {body : List Stmt} {mi : M (List D)} {g : MG} {m : MS} (hp : PassesOwn (model X.prog X.w) X.A X.env X.xe) (hc : X.calm = true) (hi : PI X tg iter (TIt X B E pr mi)) (hg : PG X tg (TGt X B Y g)) (hb : PSs X body (TSt X B Y E m))
    (hs : ∀ x, foldedSetIterable iter X.env x = pure x := by intro _; rfl) : PS X (.For tg iter body [] pos) (TSt X B Y E (mForS mi g m)) := PS.imp (ps_for hp hc hi hg hb hs) fun D σ H ⟨ρ, F, I, ok, f, G, r⟩ => by
  refine ⟨ρ, F, I, f, G, ?_⟩
  refine SRun.run ok r sub_refl fun ds ρ1 H1 F1 _ f1 r1 J I0 S G1 => ?_
  refine ⟨fun i n σ H => ∃ ρ F, OkS Y σ ∧ Fits ρ σ ∧ Gd X.K B [] F H (slots ρ σ ++ (I0 ++ I)) ∧ n = ds.length - i ∧ i ≤ ds.length ∧ SRun X B Y E I D (mFor g m (ds.drop i) ρ), ⟨ds.length, ρ1, F1, ok, f1, G1.perm perm_mid, rfl, Nat.zero_le _, r1⟩, ?_⟩
  rintro i n σ H ⟨ρ, F, ok, f, G, rfl, hi, r⟩
  by_cases hlt : i < ds.length
  · refine .inr ?_
    have ed : ds[i]? = some ds[i] := by simp [hlt]
    obtain ⟨hgo, hy⟩ := S.go B F H _ (G.perm perm_mid) i _ ed
    refine ⟨hgo, fun σ' H' => ∃ ρ F, OkS Y σ' ∧ Fits ρ σ' ∧ Gd X.K B [] F H' (slots ρ σ' ++ (I0 ++ I)) ∧ SRun X B Y E I D (mFor g m (ds.drop (i + 1)) ρ), fun σ' H' ⟨ρ', F', h1, h2, h3, h4⟩ => ⟨ds.length - (i + 1), by omega, ρ', F', h1, h2, h3, rfl, hlt, h4⟩, fun x H' y => ?_⟩
    obtain ⟨_, F', _, G'⟩ := hy x H' y
    rw [List.drop_eq_getElem_cons hlt] at r
    unfold mFor at r
    cases eg : g ds[i] ρ with
    | none =>
      simp only [eg] at r
      exact r.elim
    | some ρ1 =>
      simp only [eg] at r
      refine ⟨ds[i], ρ, F', I0 ++ I, ok, f, G'.perm (perm_mid.cons _), ρ1, eg, fun σ' H'' F'' ok' f' G'' => ⟨ρ1, F'', I0 ++ I, ok', f', G'', ?_⟩⟩
      have sb : ∀ {ρ : Env} {σ : L2.St}, (slots ρ σ ++ I).Sublist (slots ρ σ ++ (I0 ++ I)) := (List.sublist_append_right _ _).append_left _
      cases em : m ρ1 with
      | next ρ2 =>
        simp only [em] at r
        exact fun σ2 H2 F2 ok2 f2 G2 => ⟨ρ2, F2, ok2, f2, G2, r⟩
      | cont ρ2 =>
        simp only [em] at r
        exact fun σ2 H2 F2 ok2 f2 G2 => ⟨ρ2, F2, ok2, f2, G2, r⟩
      | brk ρ2 =>
        simp only [em] at r
        exact fun σ2 H2 F2 ok2 f2 G2 => r σ2 H2 F2 ok2 f2 (G2.drop sb)
      | ret d ρ2 =>
        simp only [em] at r
        exact fun v σ2 H2 F2 ok2 f2 G2 => r v σ2 H2 F2 ok2 f2 (G2.drop (sb.cons_cons _))
      | exc x ρ2 =>
        simp only [em] at r
        exact fun cls dd σ2 H2 F2 ok2 f2 G2 x2 => r cls dd σ2 H2 F2 ok2 f2 (G2.drop sb) x2
      | bad =>
        simp only [em] at r
        exact r
  · have e : i = ds.length := by omega
    subst e
    refine .inl ⟨S.stop B F H _ (G.perm perm_mid), ?_⟩
    rw [List.drop_length] at r
    exact r σ H F ok f (G.drop ((List.sublist_append_right _ _).append_left _))

/-! ### what is walked -/
def mIterL (d : D) : M (List D) := fun ρ => match un d with
  | .n .lst ds => if fres ds = true then .ok ds ρ else .bad
  | .n .kl ds => if fres ds = true then .ok ds ρ else .bad
  | _ => .bad
def mIterT (d : D) : M (List D) := fun ρ => match d with
  | .n .tup ds => if fres ds = true then .ok ds ρ else .bad
  | _ => .bad
theorem fres_get : ∀ {ds : List D} {i : Nat} {d : D}, fres ds = true → ds[i]? = some d → fre d = true
  | [], i, d, _, e => by simp at e
  | x :: ds, 0, d, h, e => by
    unfold fres at h
    have e' : x = d := by simpa using e
    rw [← e']
    exact (Bool.and_eq_true_iff.mp h).1
  | x :: ds, i + 1, d, h, e => by
    unfold fres at h
    exact fres_get (Bool.and_eq_true_iff.mp h).2 (by simpa using e)
theorem zip_get {ds : List D} {vs : List V} (hl : ds.length = vs.length) {i : Nat} {d : D} (e : ds[i]? = some d) : ∃ v, vs[i]? = some v ∧ (d, v) ∈ ds.zip vs := by
  obtain ⟨hi, e1⟩ := List.getElem?_eq_some_iff.mp e
  have hv : i < vs.length := hl ▸ hi
  refine ⟨vs[i], by simp [hv], ?_⟩
  refine List.mem_iff_getElem.mpr ⟨i, by rw [List.length_zip]; omega, ?_⟩
  rw [List.getElem_zip, e1]
theorem i_list {l tg : Expr} {m : M D} (h : PE X l (T X B E pr m)) : PI X tg l (TIt X B E pr (mb m mIterL)) := PI.imp (pi_list h) fun σ H R ⟨ρ, F, I, f, G, r⟩ => by
  refine ⟨ρ, F, I, f, G, ?_⟩
  refine Run.bind (fun z => z) r sub_refl fun x ρ1 H1 F1 s1 f1 r1 v G1 => ?_
  unfold mIterL at r1
  cases u : un x with
  | a y => simp only [u] at r1; exact r1.elim
  | sh y => simp only [u] at r1; exact r1.elim
  | n t ds =>
    cases t with
    | lst =>
      simp only [u] at r1
      by_cases hf : fres ds = true
      · rw [if_pos hf] at r1
        obtain ⟨O, rp⟩ := G1.rep
        obtain ⟨a, vs, e1, hA, hl, hk⟩ := rp.parts u G1.le
        subst e1
        refine ⟨a, rfl, ⟨vs, .inl hA⟩, r1 H1 F1 s1 f1 (Itl X.K a) [(x, .ref a)] ⟨fun B' F' H' I' G' i d ed => ?_, fun B' F' H' I' G' => ?_⟩ G1⟩
        · obtain ⟨O', rp'⟩ := G'.rep
          obtain ⟨a', vs', e1', hA', hl', hk'⟩ := rp'.parts u G'.le
          cases e1'
          obtain ⟨w, ew, hm⟩ := zip_get hl' ed
          refine ⟨⟨vs', w, .inl hA', ew⟩, fun y H'' hy => ?_⟩
          obtain ⟨rfl, hy⟩ := hy
          have ey : w = y := Option.some.inj (ew.symm.trans (hy vs' (.inl hA')))
          subst ey
          obtain ⟨O'', rp''⟩ := hk' _ hm
          exact ⟨Same.refl _, F', fun _ _ h => h, G'.add (rp''.addF (fres_get hf ed))⟩
        · obtain ⟨O', rp'⟩ := G'.rep
          obtain ⟨a', vs', e1', hA', hl', hk'⟩ := rp'.parts u G'.le
          cases e1'
          exact ⟨vs', .inl hA', Nat.le_of_eq hl'.symm⟩
      · rw [if_neg hf] at r1
        exact r1.elim
    | kl =>
      simp only [u] at r1
      by_cases hf : fres ds = true
      · rw [if_pos hf] at r1
        obtain ⟨O, rp⟩ := G1.rep
        obtain ⟨a, vs, e1, hA, hl, hk⟩ := rp.parts u G1.le
        subst e1
        refine ⟨a, rfl, ⟨vs, hA⟩, r1 H1 F1 s1 f1 (Itl X.K a) [(x, .ref a)] ⟨fun B' F' H' I' G' i d ed => ?_, fun B' F' H' I' G' => ?_⟩ G1⟩
        · obtain ⟨O', rp'⟩ := G'.rep
          obtain ⟨a', vs', e1', hA', hl', hk'⟩ := rp'.parts u G'.le
          cases e1'
          obtain ⟨w, ew, hm⟩ := zip_get hl' ed
          refine ⟨⟨vs', w, hA', ew⟩, fun y H'' hy => ?_⟩
          obtain ⟨rfl, hy⟩ := hy
          have ey : w = y := Option.some.inj (ew.symm.trans (hy vs' hA'))
          subst ey
          obtain ⟨O'', rp''⟩ := hk' _ hm
          exact ⟨Same.refl _, F', fun _ _ h => h, G'.add (rp''.addF (fres_get hf ed))⟩
        · obtain ⟨O', rp'⟩ := G'.rep
          obtain ⟨a', vs', e1', hA', hl', hk'⟩ := rp'.parts u G'.le
          cases e1'
          exact ⟨vs', hA', Nat.le_of_eq hl'.symm⟩
      · rw [if_neg hf] at r1
        exact r1.elim
    | tup => simp only [u] at r1; exact r1.elim
    | dk ks => simp only [u] at r1; exact r1.elim
    | dt ks => simp only [u] at r1; exact r1.elim
    | ins C fs => simp only [u] at r1; exact r1.elim
theorem i_tup {l tg : Expr} {m : M D} (h : PE X l (T X B E pr m)) : PI X tg l (TIt X B E pr (mb m mIterT)) := PI.imp (pi_tup h) fun σ H R ⟨ρ, F, I, f, G, r⟩ => by
  refine ⟨ρ, F, I, f, G, ?_⟩
  refine Run.bind (fun z => z) r sub_refl fun x ρ1 H1 F1 s1 f1 r1 v G1 => ?_
  unfold mIterT at r1
  split at r1
  · rename_i ds
    by_cases hf : fres ds = true
    · rw [if_pos hf] at r1
      have u : un (D.n .tup ds) = .n .tup ds := by unfold un; rfl
      obtain ⟨O, rp⟩ := G1.rep
      obtain ⟨a, vs, e1, hA, hl, hk⟩ := rp.parts u G1.le
      subst e1
      refine ⟨a, rfl, ⟨vs, TupAt.sq hA⟩, r1 H1 F1 s1 f1 (Itt X.K a) [(D.n .tup ds, .ref a)] ⟨fun B' F' H' I' G' i d ed => ?_, fun B' F' H' I' G' => ?_⟩ G1⟩
      · obtain ⟨O', rp'⟩ := G'.rep
        obtain ⟨a', vs', e1', hA', hl', hk'⟩ := rp'.parts u G'.le
        cases e1'
        obtain ⟨w, ew, hm⟩ := zip_get hl' ed
        refine ⟨⟨vs', w, TupAt.sq hA', ew⟩, fun y H'' hy => ?_⟩
        obtain ⟨rfl, hy⟩ := hy
        have ey : w = y := Option.some.inj (ew.symm.trans (hy vs' (TupAt.sq hA')))
        subst ey
        obtain ⟨O'', rp''⟩ := hk' _ hm
        exact ⟨Same.refl _, F', fun _ _ h => h, G'.add (rp''.addF (fres_get hf ed))⟩
      · obtain ⟨O', rp'⟩ := G'.rep
        obtain ⟨a', vs', e1', hA', hl', hk'⟩ := rp'.parts u G'.le
        cases e1'
        exact ⟨vs', TupAt.sq hA', Nat.le_of_eq hl'.symm⟩
    · rw [if_neg hf] at r1
      exact r1.elim
  · exact r1.elim
end
end Sm

namespace Sm
open PySem PySem.Spec PyProof.Rows L2

/-! ### what a def does -/
inductive FRes where
  | ok (r : D) (os : List D)
  | exc (x : Ex) (os : List D)
  | bad
abbrev FM := List D → FRes
/-- the parameters that are changed in place -/
def sel {α : Type} : List Bool → List α → List α
  | true :: m, x :: xs => x :: sel m xs
  | false :: m, _ :: xs => sel m xs
  | _, _ => []
/-- a def's promise by what it does -/
def spF (K : PySem.W.Frag) (md : List Bool) (f : FM) : Sp := fun vs H Q E => ∃ ds F O, ds.length = vs.length ∧ md.length = vs.length ∧ Gd K ⟨H, F, O⟩ [] F H (ds.zip vs) ∧ match f ds with
  | .ok r os => ∀ v H' F', os.length = (sel md vs).length → Gd K ⟨H, F, O⟩ [] F' H' ((r, v) :: os.zip (sel md vs)) → Q v H'
  | .exc x os => ∀ cls dd H' F', os.length = (sel md vs).length → Gd K ⟨H, F, O⟩ [] F' H' (os.zip (sel md vs)) → XAt K x cls dd H' → E cls dd H'
  | .bad => False
/-- the values of the parameters that are changed, behind a body -/
def outs : List Bool → Env → Option (List D)
  | true :: m, some d :: ρ => (outs m ρ).map (d :: ·)
  | true :: _, _ => none
  | false :: m, _ :: ρ => outs m ρ
  | false :: _, [] => none
  | [], _ => some []
def env0 (n : Nat) (ds : List D) : Env := ds.map some ++ List.replicate (n - ds.length) none
def fRun (md : List Bool) (n : Nat) (m : MS) : FM := fun ds => match m (env0 n ds) with
  | .next ρ => match outs md ρ with
    | some os => .ok .non os
    | none => .bad
  | .ret d ρ => match outs md ρ with
    | some os => .ok d os
    | none => .bad
  | .exc x ρ => match outs md ρ with
    | some os => .exc x os
    | none => .bad
  | .brk _ => .bad
  | .cont _ => .bad
  | .bad => .bad
theorem slots_rep {k : Nat} {σ : L2.St} : slots (List.replicate k none) σ = [] := by
  induction k generalizing σ with
  | zero => cases σ <;> rfl
  | succ k ih =>
    cases σ with
    | nil => rfl
    | cons x σ =>
      rw [List.replicate_succ]
      cases x <;> exact ih
theorem fits_rep {k : Nat} {σ : L2.St} (h : σ.length = k) : Fits (List.replicate k none) σ := by
  induction k generalizing σ with
  | zero =>
    cases σ with
    | nil => trivial
    | cons _ _ => cases h
  | succ k ih =>
    cases σ with
    | nil => cases h
    | cons x σ => exact ih (Nat.succ.inj h)
theorem slots_start : ∀ {ds : List D} {vs : List V} {k : Nat}, ds.length = vs.length → slots (ds.map some ++ List.replicate k none) (vs.map some ++ List.replicate k none) = ds.zip vs ∧ Fits (ds.map some ++ List.replicate k none) (vs.map some ++ List.replicate k none)
  | [], [], k, _ => ⟨slots_rep, fits_rep (by simp)⟩
  | [], _ :: _, k, h => by cases h
  | _ :: _, [], k, h => by cases h
  | d :: ds, v :: vs, k, h => by
    obtain ⟨a, b⟩ := slots_start (ds := ds) (vs := vs) (k := k) (Nat.succ.inj h)
    exact ⟨congrArg ((d, v) :: ·) a, b⟩
/-- what of the slots is handed back -/
theorem outs_ok : ∀ {md : List Bool} {ρ : Env} {σ : L2.St} {vs : List V} {os : List D}, Fits ρ σ → md.length = vs.length → (∀ (i : Nat) (v : V), md[i]? = some true → vs[i]? = some v → σ[i]? = some (some v)) → outs md ρ = some os →
    os.length = (sel md vs).length ∧ (os.zip (sel md vs)).Sublist (slots ρ σ)
  | [], ρ, σ, vs, os, f, hl, h, e => by
    cases e
    exact ⟨rfl, List.nil_sublist _⟩
  | _ :: _, ρ, σ, [], os, f, hl, h, e => by cases hl
  | true :: m, [], σ, v :: vs, os, f, hl, h, e => by cases e
  | true :: m, none :: ρ, σ, v :: vs, os, f, hl, h, e => by cases e
  | true :: m, some d :: ρ, [], v :: vs, os, f, hl, h, e => f.elim
  | true :: m, some d :: ρ, none :: σ, v :: vs, os, f, hl, h, e => f.elim
  | true :: m, some d :: ρ, some w :: σ, v :: vs, os, f, hl, h, e => by
    have e' : (outs m ρ).map (d :: ·) = some os := e
    cases eo : outs m ρ with
    | none => rw [eo] at e'; cases e'
    | some os' =>
      rw [eo] at e'
      cases e'
      have ew : w = v := by
        have q := h 0 v rfl rfl
        simpa using q
      subst ew
      obtain ⟨a, b⟩ := outs_ok (md := m) (ρ := ρ) (σ := σ) (vs := vs) f (Nat.succ.inj hl) (fun i v h1 h2 => by simpa using h (i + 1) v (by simpa using h1) (by simpa using h2)) eo
      exact ⟨congrArg Nat.succ a, b.cons_cons _⟩
  | false :: m, [], σ, v :: vs, os, f, hl, h, e => by cases e
  | false :: m, some d :: ρ, [], v :: vs, os, f, hl, h, e => f.elim
  | false :: m, none :: ρ, [], v :: vs, os, f, hl, h, e => f.elim
  | false :: m, some d :: ρ, none :: σ, v :: vs, os, f, hl, h, e => f.elim
  | false :: m, some d :: ρ, some w :: σ, v :: vs, os, f, hl, h, e => by
    obtain ⟨a, b⟩ := outs_ok (md := m) (ρ := ρ) (σ := σ) (vs := vs) f (Nat.succ.inj hl) (fun i v h1 h2 => by simpa using h (i + 1) v (by simpa using h1) (by simpa using h2)) e
    exact ⟨a, b.trans (List.sublist_cons_self _ _)⟩
  | false :: m, none :: ρ, x :: σ, v :: vs, os, f, hl, h, e => by
    obtain ⟨a, b⟩ := outs_ok (md := m) (ρ := ρ) (σ := σ) (vs := vs) f (Nat.succ.inj hl) (fun i v h1 h2 => by simpa using h (i + 1) v (by simpa using h1) (by simpa using h2)) e
    refine ⟨a, ?_⟩
    cases x <;> exact b
def fxOf (md : List Bool) (vs : List V) (n : Nat) : Fx := ⟨n, fun i => if md[i]? = some true then vs[i]? else none⟩
section
variable {P : Program} {w : World} {K : PySem.W.Frag} {mg : Str → Option Value} {base : Heap} {x qual : Str} {params : Arguments} {body : List Stmt} {scope : Scope} {dvs : List V} {kws : List (Str × V)} {f : Addr} {fd : FuncData}
/-- the entry of a def -/
theorem fn_start {N ps : List Str} {md : List Bool} {m : MS} {X : Cx} {vs : List V} {H : Hp} {Q : VK} {E : XK} (pre : N.take ps.length = ps) (hmd : md.length = ps.length) (h : spF X.K md (fRun md N.length m) vs H Q E) :
    ∃ B, TSt X B (fxOf md vs N.length) E m { nx := fun _ H' => Q .non H', rt := Q } (L2.start N vs) H := by
  obtain ⟨ds, F0, O, h1, h2, G, h3⟩ := h
  have hpl : ps.length ≤ N.length := by
    have := congrArg List.length pre
    rw [List.length_take] at this
    omega
  have hvl : vs.length = ps.length := by rw [← h2, hmd]
  refine ⟨⟨H, F0, O⟩, env0 N.length ds, F0, [], ⟨?_, fun i v e => ?_⟩, ?_, ?_, ?_⟩
  · show (L2.start N vs).length = N.length
    unfold L2.start
    rw [List.length_append, List.length_map, List.length_replicate]
    omega
  · have e' : (if md[i]? = some true then vs[i]? else none) = some v := e
    by_cases z : md[i]? = some true
    · rw [if_pos z] at e'
      unfold L2.start
      have hi := (List.getElem?_eq_some_iff.mp e').1
      rw [List.getElem?_append_left (by simpa using hi), List.getElem?_map, e']
      rfl
    · rw [if_neg z] at e'
      cases e'
  · unfold env0 L2.start
    rw [h1]
    exact (slots_start h1).2
  · unfold env0 L2.start
    rw [List.append_nil, h1, (slots_start h1).1]
    exact G
  · have fin : ∀ {ρ : Env} {σ : L2.St} {os : List D}, OkS (fxOf md vs N.length) σ → Fits ρ σ → outs md ρ = some os → os.length = (sel md vs).length ∧ (os.zip (sel md vs)).Sublist (slots ρ σ) := fun {ρ σ os} ok f e =>
      outs_ok f h2 (fun i v e1 e2 => ok.2 i v (by show (if md[i]? = some true then vs[i]? else none) = some v; rw [if_pos e1]; exact e2)) e
    unfold fRun at h3
    cases em : m (env0 N.length ds) with
    | next ρ =>
      simp only [em] at h3
      intro σ H' F' ok f G'
      cases eo : outs md ρ with
      | none => rw [eo] at h3; exact h3.elim
      | some os =>
        rw [eo] at h3
        obtain ⟨a, b⟩ := fin ok f eo
        rw [List.append_nil] at G'
        exact h3 .non H' F' a ((G'.drop b).atom)
    | ret d ρ =>
      simp only [em] at h3
      intro v σ H' F' ok f G'
      cases eo : outs md ρ with
      | none => rw [eo] at h3; exact h3.elim
      | some os =>
        rw [eo] at h3
        obtain ⟨a, b⟩ := fin ok f eo
        rw [List.append_nil] at G'
        exact h3 v H' F' a (G'.drop (b.cons_cons _))
    | brk ρ => simp only [em] at h3
    | cont ρ => simp only [em] at h3
    | exc e ρ =>
      simp only [em] at h3
      intro cls dd σ H' F' ok f G' x'
      cases eo : outs md ρ with
      | none => rw [eo] at h3; exact h3.elim
      | some os =>
        rw [eo] at h3
        obtain ⟨a, b⟩ := fin ok f eo
        rw [List.append_nil] at G'
        exact h3 cls dd H' F' a (G'.drop b) x'
    | bad => simp only [em] at h3
/-- THE RULE: a def by its body -/
theorem fn_ok {N ps : List Str} {k : Nat} {md : List Bool} {m : MS} (F : FunD K x qual params body scope dvs kws f fd) (S : FnScope N ps scope) (hmd : md.length = ps.length)
    (hbody : ∀ (cdv : Value) (A : Around) (outer : List PySem.Env) (s : Shared) (H : Hp) (E : XK) (B : Bs) (vs : List V), Room k (A.deeper (envOfC qual scope s.heap.objs.size f cdv)) →
      PSs (cxOf (CX P w) P w K mg base N qual scope f cdv A outer s H E) body (TSt (cxOf (CX P w) P w K mg base N qual scope f cdv A outer s H E) B (fxOf md vs N.length) E m)) :
    FnOk P w K mg base (CX P w) (k + 1) f fd ps (spF K md (fRun md N.length m)) := by
  refine F.ok S (fun vs H Q E h => ?_) fun cdv A outer s H vs Q E hr h => ?_
  · obtain ⟨ds, F0, O, h1, h2, _⟩ := h
    rw [← h2, hmd]
  · obtain ⟨B, q⟩ := fn_start (X := cxOf (CX P w) P w K mg base N qual scope f cdv A outer s H E) S.pre hmd h
    exact ⟨_, hbody cdv A outer s H E B vs hr, q⟩

end

/-! ### calling -/
mutual
/-- data without shared parts lean on the tuples alone -/
theorem Rep.cln {K : PySem.W.Frag} {F F' H : Hp} (h : ∀ a xs, F a = some (.tup xs) → F' a = some (.tup xs)) : ∀ (d : D) (v : V) (O : List Addr), Sm.cln d = true → Rep K F H d v O → Rep K F' H d v O
  | .a x, v, O, _, e => by unfold Rep at *; exact e
  | .n t ds, v, O, c, e => by
    unfold Rep at *
    unfold Sm.cln at c
    obtain ⟨a, vs, O', e1, e2, e3⟩ := e
    refine ⟨a, vs, O', e1, Rps.clns h ds vs O' c e2, ?_⟩
    rcases e3 with ⟨e3, e4, e5⟩ | e3
    · refine .inl ⟨e3, ?_, e5⟩
      rcases e4 with e4 | e4
      · exact .inl (h _ _ e4)
      · exact .inr e4
    · exact .inr e3
  | .sh d, v, O, c, e => by unfold Sm.cln at c; cases c
theorem Rps.clns {K : PySem.W.Frag} {F F' H : Hp} (h : ∀ a xs, F a = some (.tup xs) → F' a = some (.tup xs)) : ∀ (ds : List D) (vs : List V) (O : List Addr), Sm.clns ds = true → Rps K F H ds vs O → Rps K F' H ds vs O
  | [], vs, O, _, e => by unfold Rps at *; exact e
  | d :: ds, vs, O, c, e => by
    unfold Rps at *
    unfold Sm.clns at c
    obtain ⟨v, r, O1, O2, e1, e2, e3, e4⟩ := e
    obtain ⟨c1, c2⟩ := Bool.and_eq_true_iff.mp c
    exact ⟨v, r, O1, O2, e1, e2, Rep.cln h d v O1 c1 e3, Rps.clns h ds r O2 c2 e4⟩
end

theorem Its.cln {K : PySem.W.Frag} {F F' H : Hp} (h : ∀ a xs, F a = some (.tup xs) → F' a = some (.tup xs)) : ∀ {I : List It} {O : List Addr}, (∀ p ∈ I, Sm.cln p.1 = true) → Its K F H I O → Its K F' H I O
  | [], _, _, e => e
  | p :: I, O, c, ⟨O1, O2, e, r, t⟩ => ⟨O1, O2, e, Rep.cln h _ _ _ (c p List.mem_cons_self) r, Its.cln h (fun q hq => c q (List.mem_cons_of_mem _ hq)) t⟩
def shI (I : List It) : List It := I.map fun p => (shr p.1, p.2)
section
variable {K : PySem.W.Frag} {B : Bs} {R : List Addr} {F H : Hp} {A Bo C : List It}
theorem Its.froze {F' : Hp} (h : Le F F') : ∀ {I : List It} {O : List Addr}, (∀ a ∈ O, F' a = H a) → Its K F H I O → Its K F' H (shI I) []
  | [], O, _, e => rfl
  | p :: I, O, k, ⟨O1, O2, e, r, t⟩ => ⟨[], [], rfl, Rep.share _ _ (r.froze h _ _ _ fun a ha => k a (e ▸ List.mem_append_left _ ha)), Its.froze h (fun a ha => k a (e ▸ List.mem_append_right _ ha)) t⟩
theorem Its.nilF : ∀ {I : List It} {O : List Addr}, I.all (fun p => fre p.1) = true → Its K F H I O → O = []
  | [], O, _, e => e
  | p :: I, O, hA, ⟨O1, O2, e, r, t⟩ => by
    rw [List.all_cons] at hA
    obtain ⟨h1, h2⟩ := Bool.and_eq_true_iff.mp hA
    rw [e, Its.nilF h2 t, r.nil _ _ _ h1]
    rfl
/-- THE CORE OF A CALL: A is handed in, Bo is lent, C stays -/
theorem call_core (G : Gd K B R F H (A ++ (Bo ++ C))) : ∃ Fc O, Gd K ⟨H, Fc, O⟩ [] Fc H (A ++ shI Bo) ∧ (A.all (fun p => fre p.1) = true → O = []) ∧
    (∀ H' F' J, Gd K ⟨H, Fc, O⟩ [] F' H' J → (∀ p ∈ J, cln p.1 = true) → ∃ F'', Sub F F'' ∧ Gd K B R F'' H' (J ++ (Bo ++ C))) ∧
    (∀ H' F' J, Gd K ⟨H, Fc, O⟩ [] F' H' J → ∃ F'', Sub F F'' ∧ Gd K B R F'' H' (J ++ (shI Bo ++ C))) ∧ (O = [] → ∀ H' F' J, Gd K ⟨H, Fc, O⟩ [] F' H' J → Same H H') := by
  obtain ⟨O0, t0, nd0, k0⟩ := G.ex
  obtain ⟨OA, OBC, rfl, tA, tBC⟩ := Its.app.mp t0
  obtain ⟨OB, OC, rfl, tB, tC⟩ := Its.app.mp tBC
  have kA : ∀ a ∈ OA, F a = none ∧ (B.H0 a = none ∨ a ∈ B.W) := fun a ha => k0 a (by simp [ha])
  have kB : ∀ a ∈ OB, F a = none ∧ (B.H0 a = none ∨ a ∈ B.W) := fun a ha => k0 a (by simp [ha])
  have kR : ∀ a ∈ OB ++ OC ++ R, F a = none ∧ (B.H0 a = none ∨ a ∈ B.W) := fun a ha => k0 a (by
    rcases List.mem_append.mp ha with z | z
    · rcases List.mem_append.mp z with z | z <;> simp [z]
    · simp [z])
  have nd1 : (OA ++ (OB ++ OC ++ R)).Nodup := by
    have q := nd0
    simp only [List.append_assoc] at q ⊢
    exact q
  have ndA : OA.Nodup := (List.nodup_append.mp nd1).1
  have ndR : (OB ++ OC ++ R).Nodup := (List.nodup_append.mp nd1).2.1
  have disA : ∀ a ∈ OB ++ OC ++ R, a ∉ OA := fun a ha z => (List.nodup_append.mp nd1).2.2 a z a ha rfl
  have own2 : ∀ a ∈ OB ++ OC ++ R, ∃ t vs, Own K H a t vs := fun a ha => by
    rcases List.mem_append.mp ha with ha | ha
    · exact tBC.foot a ha
    · exact G.res a ha
  obtain ⟨Fc, hFc⟩ : ∃ Fc : Hp, Fc = fun a => if a ∈ OB then H a else F a := ⟨_, rfl⟩
  have fcB : ∀ a ∈ OB, Fc a = H a := fun a ha => by rw [hFc]; exact if_pos ha
  have fcN : ∀ a, a ∉ OB → Fc a = F a := fun a ha => by rw [hFc]; exact if_neg ha
  have sb : Sub F Fc := fun a o e => by
    rw [fcN a fun ha => by rw [(kB a ha).1] at e; cases e]
    exact e
  have le := Le.of sb
  have fcH : Sub Fc H := fun a o e => by
    by_cases ha : a ∈ OB
    · rw [fcB a ha] at e; exact e
    · rw [fcN a ha] at e; exact G.sub a o e
  have tS : Its K Fc H (shI Bo) [] := tB.froze le fcB
  have Pre : Gd K ⟨H, Fc, OA⟩ [] Fc H (A ++ shI Bo) := by
    refine ⟨fcH, fun a xs e => ?_, ⟨OA, Its.app.mpr ⟨OA, [], by simp, tA.frame le fun _ _ => rfl, tS⟩, by simpa using ndA, fun a ha => ?_⟩, fun a ha => (by cases ha), fun a o e => e, fun a o e => .inl e, fun a o e _ => e⟩
    · by_cases ha : a ∈ OB
      · rw [fcB a ha]; exact e
      · rw [fcN a ha]; exact G.tup a xs e
    · have ha' : a ∈ OA := by simpa using ha
      refine ⟨?_, .inr ha'⟩
      rw [fcN a fun z => disA a (by simp [z]) ha']
      exact (kA a ha').1
  -- behind the call
  have after : ∀ {H' F' : Hp} {J : List It}, Gd K ⟨H, Fc, OA⟩ [] F' H' J → (∀ a ∈ OB ++ OC ++ R, H' a = H a) ∧ (∀ a o, B.H0 a = some o → a ∉ B.W → H' a = some o) ∧
      (∀ a, (H a = none ∨ a ∈ OA) → B.H0 a = none ∨ a ∈ B.W) ∧ (∀ a ∈ OB ++ OC ++ R, ¬ (H a = none ∨ a ∈ OA)) := fun {H' F' J} GJ => by
    refine ⟨fun a ha => ?_, fun a o e hw => ?_, fun a h => ?_, fun a ha h => ?_⟩
    · obtain ⟨t, vs, o⟩ := own2 a ha
      obtain ⟨u, e⟩ := o.some
      rw [e]
      exact GJ.keep a u e (disA a ha)
    · refine GJ.keep a o (G.keep a o e hw) fun z => ?_
      rcases (kA a z).2 with q | q
      · rw [q] at e; cases e
      · exact hw q
    · rcases h with h | h
      · cases e : B.H0 a with
        | none => exact .inl rfl
        | some u =>
          by_cases z : a ∈ B.W
          · exact .inr z
          · rw [G.keep a u e z] at h; cases h
      · exact (kA a h).2
    · rcases h with h | h
      · obtain ⟨t, vs, o⟩ := own2 a ha
        obtain ⟨u, e⟩ := o.some
        rw [e] at h; cases h
      · exact disA a ha h
  refine ⟨Fc, OA, Pre, fun hA => Its.nilF hA tA, ?_, ?_, ?_⟩
  · intro H' F' J GJ hJ
    obtain ⟨OJ, tJ, ndJ, kJ⟩ := GJ.ex
    have ndJ' : OJ.Nodup := by simpa using ndJ
    have kJ' : ∀ a ∈ OJ, F' a = none ∧ (H a = none ∨ a ∈ OA) := fun a ha => kJ a (by simpa using ha)
    obtain ⟨eqv, kp, nw, no⟩ := after GJ
    have same : ∀ a u, F a = some u → F' a = some u := fun a u e => GJ.base a u (sb a u e)
    obtain ⟨F2, hF2⟩ : ∃ F2 : Hp, F2 = fun a => match F a with | some o => some o | none => match F' a with | some (.tup xs) => some (.tup xs) | _ => none := ⟨_, rfl⟩
    have sub2 : Sub F F2 := fun a o e => by
      rw [hF2]
      simp only [e]
    have f2 : ∀ a o, F2 a = some o → F a = some o ∨ (F a = none ∧ F' a = some o ∧ ∀ G2 : Hp, G2 a = some o → ∀ t vs, ¬ Own K G2 a t vs) := fun a o e => by
      rw [hF2] at e
      cases eF : F a with
      | some u =>
        simp only [eF] at e
        exact .inl e
      | none =>
        simp only [eF] at e
        refine .inr ⟨rfl, ?_⟩
        split at e
        · rename_i xs h
          cases e
          exact ⟨h, fun G2 hG t vs o => o.notup _ hG⟩
        · cases e
    have at2 : ∀ a, F2 a = (match F a with | some o => some o | none => match F' a with | some (.tup xs) => some (.tup xs) | _ => none) := fun a => by rw [hF2]
    have rd2 : ∀ a xs, F' a = some (.tup xs) → F2 a = some (.tup xs) := fun a xs h => by
      cases eF : F a with
      | some u =>
        have := same a u eF
        rw [h] at this
        cases this
        rw [at2]
        simp only [eF]
      | none =>
        rw [at2]
        simp only [eF, h]
    have n2 : ∀ a, F a = none → F' a = none → F2 a = none := fun a h1 h2 => by
      rw [at2]
      simp only [h1, h2]
    have nT : ∀ a ∈ OB ++ OC ++ R, F2 a = none := fun a ha => by
      cases e : F2 a with
      | none => rfl
      | some o =>
        rcases f2 a o e with e1 | ⟨_, e2, e3⟩
        · rw [(kR a ha).1] at e1; cases e1
        · obtain ⟨t, vs, ow⟩ := own2 a ha
          have := GJ.sub a o e2
          rw [eqv a ha] at this
          exact absurd ow (e3 H this t vs)
    refine ⟨F2, sub2, fun a o e => ?_, fun a xs e => ?_, ⟨OJ ++ (OB ++ OC), Its.app.mpr ⟨OJ, OB ++ OC, rfl, tJ.cln rd2 hJ, tBC.frame (Le.of sub2) fun a ha => eqv a (List.mem_append_left _ ha)⟩, ?_, fun a ha => ?_⟩, fun a ha => ?_, fun a o e => sub2 a o (G.base a o e), fun a o e => ?_, kp⟩
    · rcases f2 a o e with e1 | ⟨_, e2, _⟩
      · exact GJ.sub a o (same a o e1)
      · exact GJ.sub a o e2
    · have h := GJ.tup a xs e
      exact rd2 a xs h
    · rw [List.append_assoc]
      refine List.nodup_append.mpr ⟨ndJ', ndR, fun a ha b hb z => ?_⟩
      subst z
      exact no a hb (kJ' a ha).2
    · rw [List.append_assoc] at ha
      rcases List.mem_append.mp ha with ha | ha
      · refine ⟨n2 a ?_ (kJ' a ha).1, nw a (kJ' a ha).2⟩
        cases e : F a with
        | none => rfl
        | some u =>
          have := same a u e
          rw [(kJ' a ha).1] at this; cases this
      · exact ⟨nT a ha, (kR a ha).2⟩
    · obtain ⟨t, vs, o⟩ := G.res a ha
      exact ⟨t, vs, o.eqv (eqv a (List.mem_append_right _ ha))⟩
    · rcases f2 a o e with e1 | ⟨e0, e2, e3⟩
      · exact G.new a o e1
      · rcases GJ.new a o e2 with q | q
        · have q' : Fc a = some o := q
          by_cases ha : a ∈ OB
          · exact .inr (kB a ha).2
          · rw [fcN a ha, e0] at q'; cases q'
        · exact .inr (nw a q)
  · intro H' F' J GJ
    obtain ⟨OJ, tJ, ndJ, kJ⟩ := GJ.ex
    have ndJ' : OJ.Nodup := by simpa using ndJ
    have kJ' : ∀ a ∈ OJ, F' a = none ∧ (H a = none ∨ a ∈ OA) := fun a ha => kJ a (by simpa using ha)
    obtain ⟨eqv, kp, nw, no⟩ := after GJ
    have sbF : Sub Fc F' := GJ.base
    have nd3 : (OC ++ R).Nodup := by
      have q := ndR
      rw [List.append_assoc] at q
      exact (List.nodup_append.mp q).2.1
    have disB : ∀ a ∈ OC ++ R, a ∉ OB := fun a ha z => by
      have q := ndR
      rw [List.append_assoc] at q
      exact (List.nodup_append.mp q).2.2 a z a ha rfl
    have inR : ∀ a ∈ OC ++ R, a ∈ OB ++ OC ++ R := fun a ha => by
      rw [List.append_assoc]
      exact List.mem_append_right _ ha
    refine ⟨F', fun a o e => sbF a o (sb a o e), GJ.sub, GJ.tup, ⟨OJ ++ OC, Its.app.mpr ⟨OJ, OC, rfl, tJ, Its.app.mpr ⟨[], OC, rfl, tS.frame (Le.of sbF) (fun a ha => by cases ha), tC.frame (Le.of fun a o e => sbF a o (sb a o e)) fun a ha => eqv a (inR a (List.mem_append_left _ ha))⟩⟩, ?_, fun a ha => ?_⟩, fun a ha => ?_, fun a o e => sbF a o (sb a o (G.base a o e)), fun a o e => ?_, kp⟩
    · rw [List.append_assoc]
      refine List.nodup_append.mpr ⟨ndJ', nd3, fun a ha b hb z => ?_⟩
      subst z
      exact no a (inR a hb) (kJ' a ha).2
    · rw [List.append_assoc] at ha
      rcases List.mem_append.mp ha with ha | ha
      · exact ⟨(kJ' a ha).1, nw a (kJ' a ha).2⟩
      · refine ⟨?_, (kR a (inR a ha)).2⟩
        cases e : F' a with
        | none => rfl
        | some o =>
          rcases GJ.new a o e with q | q
          · have q' : Fc a = some o := q
            rw [fcN a (disB a ha), (kR a (inR a ha)).1] at q'
            cases q'
          · exact absurd q (no a (inR a ha))
    · obtain ⟨t, vs, o⟩ := G.res a ha
      exact ⟨t, vs, o.eqv (eqv a (List.mem_append_right _ ha))⟩
    · rcases GJ.new a o e with q | q
      · have q' : Fc a = some o := q
        by_cases ha : a ∈ OB
        · exact .inr (kB a ha).2
        · rw [fcN a ha] at q'
          exact G.new a o q'
      · exact .inr (nw a q)
  · intro hO H' F' J GJ a o e
    exact GJ.keep a o e (by rw [hO]; simp)
end
end Sm

namespace Sm
open PySem PySem.Spec PyProof.Rows L2

/-! ### several slots at once -/
def takes : List Nat → Env → Env
  | [], ρ => ρ
  | j :: js, ρ => takes js (ρ.set j none)
def gets : List Nat → Env → Option (List D)
  | [], _ => some []
  | j :: js, ρ => match ρ[j]? with
    | some (some d) => (gets js ρ).map (d :: ·)
    | _ => none
def puts : List Nat → List D → Env → Env
  | j :: js, d :: ds, ρ => puts js ds (ρ.set j (some d))
  | _, _, ρ => ρ
def VsAt (σ : L2.St) : List Nat → List V → Prop
  | [], vs => vs = []
  | j :: js, vs => ∃ v r, vs = v :: r ∧ σ[j]? = some (some v) ∧ VsAt σ js r
theorem gets_set {j : Nat} {x : Option D} : ∀ {js : List Nat} {ρ : Env}, j ∉ js → gets js (ρ.set j x) = gets js ρ
  | [], _, _ => rfl
  | k :: js, ρ, h => by
    have h1 : j ≠ k := fun z => h (z ▸ List.mem_cons_self)
    unfold gets
    rw [List.getElem?_set_ne h1, gets_set fun z => h (List.mem_cons_of_mem _ z)]
theorem takes_set {j : Nat} {x : Option D} : ∀ {js : List Nat} {ρ : Env}, j ∉ js → takes js (ρ.set j x) = (takes js ρ).set j x
  | [], _, _ => rfl
  | k :: js, ρ, h => by
    have h1 : j ≠ k := fun z => h (z ▸ List.mem_cons_self)
    unfold takes
    rw [List.set_comm _ _ h1, takes_set fun z => h (List.mem_cons_of_mem _ z)]
theorem VsAt.length {σ : L2.St} : ∀ {js : List Nat} {vs : List V}, VsAt σ js vs → vs.length = js.length
  | [], vs, h => by rw [show vs = [] from h] <;> rfl
  | j :: js, vs, ⟨v, r, e, _, t⟩ => by rw [e, List.length_cons, List.length_cons, VsAt.length t]
theorem slots_takes {σ : L2.St} : ∀ {js : List Nat} {ρ : Env} {ds : List D}, js.Nodup → Fits ρ σ → gets js ρ = some ds → ∃ vs, VsAt σ js vs ∧ ds.length = vs.length ∧ (slots ρ σ).Perm (ds.zip vs ++ slots (takes js ρ) σ) ∧ Fits (takes js ρ) σ
  | [], ρ, ds, _, f, e => by
    cases e
    exact ⟨[], rfl, rfl, .refl _, f⟩
  | j :: js, ρ, ds, nd, f, e => by
    obtain ⟨n1, n2⟩ := List.nodup_cons.mp nd
    unfold gets at e
    split at e
    · rename_i d hd
      cases eg : gets js ρ with
      | none => rw [eg] at e; cases e
      | some ds' =>
        rw [eg] at e
        cases e
        obtain ⟨v, e1, p, f1⟩ := slots_take f hd
        obtain ⟨vs, e2, e3, p2, f2⟩ := slots_takes (js := js) (ρ := ρ.set j none) n2 f1 (by rw [gets_set n1]; exact eg)
        exact ⟨v :: vs, ⟨v, vs, rfl, e1, e2⟩, congrArg Nat.succ e3, p.trans (p2.cons _), f2⟩
    · cases e
theorem slots_puts {σ : L2.St} : ∀ {js : List Nat} {ρ : Env} {ds : List D} {vs : List V}, js.Nodup → Fits (takes js ρ) σ → VsAt σ js vs → ds.length = vs.length → (slots (puts js ds ρ) σ).Perm (ds.zip vs ++ slots (takes js ρ) σ) ∧ Fits (puts js ds ρ) σ
  | [], ρ, ds, vs, _, f, h, hl => by
    have e : vs = [] := h
    subst e
    cases ds with
    | nil => exact ⟨.refl _, f⟩
    | cons _ _ => cases hl
  | j :: js, ρ, ds, vs, nd, f, ⟨v, r, e, e1, t⟩, hl => by
    subst e
    obtain ⟨n1, n2⟩ := List.nodup_cons.mp nd
    cases ds with
    | nil => cases hl
    | cons d ds =>
      have f' : Fits ((takes js ρ).set j none) σ := by
        rw [← takes_set n1]
        exact f
      have ee : ((takes js ρ).set j none).set j (some d) = (takes js ρ).set j (some d) := List.set_set ..
      obtain ⟨p, f2⟩ := slots_back (d := d) f' e1
      rw [ee] at p f2
      have en : ((takes js ρ).set j none).set j none = (takes js ρ).set j none := List.set_set ..
      rw [en] at p
      have f3 : Fits (takes js (ρ.set j (some d))) σ := by
        rw [takes_set n1]
        exact f2
      obtain ⟨p3, f4⟩ := slots_puts (js := js) (ρ := ρ.set j (some d)) (ds := ds) (vs := r) n2 f3 t (Nat.succ.inj hl)
      refine ⟨p3.trans ?_, f4⟩
      rw [takes_set n1]
      refine (p.append_left _).trans ?_
      show (ds.zip r ++ (d, v) :: slots ((takes js ρ).set j none) σ).Perm ((d, v) :: (ds.zip r ++ slots (takes js (ρ.set j none)) σ))
      rw [takes_set n1]
      exact List.perm_middle

/-! ### arguments -/
inductive AR where
  | val (d : D)
  | bor (j : Nat)
  | io (j : Nat)
def AR.isIo : AR → Bool
  | .io _ => true
  | _ => false
def ioJ : List AR → List Nat
  | [] => []
  | .io j :: as => j :: ioJ as
  | _ :: as => ioJ as
def boJ : List AR → List Nat
  | [] => []
  | .bor j :: as => j :: boJ as
  | _ :: as => boJ as
def aDs : List AR → Env → Option (List D)
  | [], _ => some []
  | .val d :: as, ρ => (aDs as ρ).map (d :: ·)
  | .bor j :: as, ρ => match ρ[j]? with
    | some (some d) => (aDs as ρ).map (shr d :: ·)
    | _ => none
  | .io j :: as, ρ => match ρ[j]? with
    | some (some d) => (aDs as ρ).map (d :: ·)
    | _ => none
def AMt (σ : L2.St) : List AR → List V → Prop
  | [], vs => vs = []
  | .val _ :: as, vs => ∃ v r, vs = v :: r ∧ AMt σ as r
  | .bor j :: as, vs => ∃ v r, vs = v :: r ∧ σ[j]? = some (some v) ∧ AMt σ as r
  | .io j :: as, vs => ∃ v r, vs = v :: r ∧ σ[j]? = some (some v) ∧ AMt σ as r
def avs : List AR → List V → List It
  | .val d :: as, v :: vs => (d, v) :: avs as vs
  | _ :: as, _ :: vs => avs as vs
  | _, _ => []
def avals : List AR → List D
  | [] => []
  | .val d :: as => d :: avals as
  | _ :: as => avals as
/-- the values at the places of one sort -/
def selB : List AR → List V → List V
  | .bor _ :: as, v :: vs => v :: selB as vs
  | _ :: as, _ :: vs => selB as vs
  | _, _ => []
theorem AMt.length {σ : L2.St} : ∀ {as : List AR} {vs : List V}, AMt σ as vs → vs.length = as.length
  | [], vs, h => by rw [show vs = [] from h] <;> rfl
  | .val _ :: as, vs, ⟨v, r, e, t⟩ => by rw [e, List.length_cons, List.length_cons, AMt.length t]
  | .bor _ :: as, vs, ⟨v, r, e, _, t⟩ => by rw [e, List.length_cons, List.length_cons, AMt.length t]
  | .io _ :: as, vs, ⟨v, r, e, _, t⟩ => by rw [e, List.length_cons, List.length_cons, AMt.length t]
theorem VsAt.one {σ : L2.St} : ∀ {js : List Nat} {vs ws : List V}, VsAt σ js vs → VsAt σ js ws → vs = ws
  | [], vs, ws, h, h' => (show vs = [] from h).trans (show ws = [] from h').symm
  | j :: js, vs, ws, ⟨v, r, e, e1, t⟩, ⟨v', r', e', e1', t'⟩ => by
    rw [e1] at e1'
    cases e1'
    rw [e, e', VsAt.one t t']
theorem AMt.io {σ : L2.St} : ∀ {as : List AR} {vs : List V}, AMt σ as vs → VsAt σ (ioJ as) (sel (as.map AR.isIo) vs)
  | [], vs, h => by rw [show vs = [] from h]; rfl
  | .val _ :: as, vs, ⟨v, r, e, t⟩ => by rw [e]; exact AMt.io (as := as) t
  | .bor _ :: as, vs, ⟨v, r, e, _, t⟩ => by rw [e]; exact AMt.io (as := as) t
  | .io _ :: as, vs, ⟨v, r, e, e1, t⟩ => by rw [e]; exact ⟨v, _, rfl, e1, AMt.io t⟩
theorem AMt.bor {σ : L2.St} : ∀ {as : List AR} {vs : List V}, AMt σ as vs → VsAt σ (boJ as) (selB as vs)
  | [], vs, h => by rw [show vs = [] from h]; rfl
  | .val _ :: as, vs, ⟨v, r, e, t⟩ => by rw [e]; exact AMt.bor (as := as) t
  | .bor _ :: as, vs, ⟨v, r, e, e1, t⟩ => by rw [e]; exact ⟨v, _, rfl, e1, AMt.bor t⟩
  | .io _ :: as, vs, ⟨v, r, e, e1, t⟩ => by rw [e]; exact AMt.bor (as := as) t
/-- the arguments by their sorts -/
theorem aDs_split {σ : L2.St} {ρ : Env} : ∀ {as : List AR} {vs : List V} {ds : List D}, AMt σ as vs → aDs as ρ = some ds → ds.length = vs.length ∧ ∃ di db, gets (ioJ as) ρ = some di ∧ gets (boJ as) ρ = some db ∧
      (ds.zip vs).Perm ((avs as vs ++ di.zip (sel (as.map AR.isIo) vs)) ++ shI (db.zip (selB as vs)))
  | [], vs, ds, h, e => by
    rw [show vs = [] from h]
    cases e
    exact ⟨rfl, [], [], rfl, rfl, .refl _⟩
  | .val d :: as, vs, ds, ⟨v, r, e1, t⟩, e => by
    subst e1
    unfold aDs at e
    cases ea : aDs as ρ with
    | none => rw [ea] at e; cases e
    | some ds' =>
      rw [ea] at e
      cases e
      obtain ⟨hl, di, db, g1, g2, p⟩ := aDs_split t ea
      exact ⟨congrArg Nat.succ hl, di, db, g1, g2, p.cons _⟩
  | .bor j :: as, vs, ds, ⟨v, r, e1, e2, t⟩, e => by
    subst e1
    unfold aDs at e
    split at e
    · rename_i d hd
      cases ea : aDs as ρ with
      | none => rw [ea] at e; cases e
      | some ds' =>
        rw [ea] at e
        cases e
        obtain ⟨hl, di, db, g1, g2, p⟩ := aDs_split t ea
        refine ⟨congrArg Nat.succ hl, di, d :: db, g1, ?_, ?_⟩
        · show gets (j :: boJ as) ρ = _
          unfold gets
          rw [hd]
          simp only [g2, Option.map_some]
        · show ((shr d, v) :: ds'.zip r).Perm ((avs as r ++ di.zip (sel (as.map AR.isIo) r)) ++ ((shr d, v) :: shI (db.zip (selB as r))))
          exact (p.cons _).trans List.perm_middle.symm
    · cases e
  | .io j :: as, vs, ds, ⟨v, r, e1, e2, t⟩, e => by
    subst e1
    unfold aDs at e
    split at e
    · rename_i d hd
      cases ea : aDs as ρ with
      | none => rw [ea] at e; cases e
      | some ds' =>
        rw [ea] at e
        cases e
        obtain ⟨hl, di, db, g1, g2, p⟩ := aDs_split t ea
        refine ⟨congrArg Nat.succ hl, d :: di, db, ?_, g2, ?_⟩
        · show gets (j :: ioJ as) ρ = _
          unfold gets
          rw [hd]
          simp only [g1, Option.map_some]
        · show ((d, v) :: ds'.zip r).Perm ((avs as r ++ ((d, v) :: di.zip (sel (as.map AR.isIo) r))) ++ shI (db.zip (selB as r)))
          exact (p.cons _).trans (List.perm_middle.symm.append_right _)
    · cases e
theorem avs_fre : ∀ {as : List AR} {vs : List V}, fres (avals as) = true → (avs as vs).all (fun p => fre p.1) = true
  | [], vs, _ => by cases vs <;> rfl
  | .val d :: as, [], _ => rfl
  | .val d :: as, v :: vs, h => by
    unfold avals fres at h
    obtain ⟨h1, h2⟩ := Bool.and_eq_true_iff.mp h
    show ((d, v) :: avs as vs).all _ = true
    rw [List.all_cons, h1, avs_fre h2]
    rfl
  | .bor _ :: as, [], _ => rfl
  | .bor _ :: as, v :: vs, h => avs_fre (as := as) h
  | .io _ :: as, [], _ => rfl
  | .io _ :: as, v :: vs, h => avs_fre (as := as) h
def shrJ : List Nat → Env → Env
  | [], ρ => ρ
  | j :: js, ρ => match ρ[j]? with
    | some (some d) => shrJ js (ρ.set j (some (shr d)))
    | _ => shrJ js ρ
theorem puts_get {j : Nat} : ∀ {js : List Nat} {ds : List D} {ρ : Env}, j ∉ js → (puts js ds ρ)[j]? = ρ[j]?
  | [], ds, ρ, _ => by cases ds <;> rfl
  | k :: js, [], ρ, _ => rfl
  | k :: js, d :: ds, ρ, h => by
    have h1 : k ≠ j := fun z => h (z ▸ List.mem_cons_self)
    unfold puts
    rw [puts_get fun z => h (List.mem_cons_of_mem _ z), List.getElem?_set_ne h1]
theorem gets_puts {is : List Nat} {ds : List D} {ρ : Env} : ∀ {js : List Nat}, (∀ j ∈ js, j ∉ is) → gets js (puts is ds ρ) = gets js ρ
  | [], _ => rfl
  | j :: js, h => by
    unfold gets
    rw [puts_get (h j List.mem_cons_self), gets_puts fun k hk => h k (List.mem_cons_of_mem _ hk)]
/-- shared in place -/
theorem shrJ_eq : ∀ {js : List Nat} {ρ : Env} {ds : List D}, js.Nodup → gets js ρ = some ds → shrJ js ρ = puts js (ds.map shr) ρ
  | [], ρ, ds, _, e => by
    cases e
    rfl
  | j :: js, ρ, ds, nd, e => by
    obtain ⟨n1, n2⟩ := List.nodup_cons.mp nd
    unfold gets at e
    unfold shrJ
    split at e
    · rename_i d hd
      cases eg : gets js ρ with
      | none => rw [eg] at e; cases e
      | some ds' =>
        rw [eg] at e
        cases e
        exact shrJ_eq n2 (by rw [gets_set n1]; exact eg)
    · cases e
def mCall (q : Bool) (md : List Bool) (f : FM) (as : List AR) : M D := fun ρ =>
  if decide (as.map AR.isIo = md) && (decide (ioJ as ++ boJ as).Nodup && (!q || ((ioJ as).isEmpty && fres (avals as)))) then match aDs as ρ with
    | none => .bad
    | some ds => match f ds with
      | .ok r os => if cln r && clns os then .ok r (puts (ioJ as) os ρ) else .ok r (shrJ (boJ as) (puts (ioJ as) os ρ))
      | .exc x os => if clns os then .exc x (puts (ioJ as) os ρ) else .exc x (shrJ (boJ as) (puts (ioJ as) os ρ))
      | .bad => .bad
  else .bad
theorem clns_mem : ∀ {ds : List D}, clns ds = true → ∀ d ∈ ds, cln d = true
  | [], _, d, hd => by cases hd
  | x :: ds, h, d, hd => by
    unfold clns at h
    obtain ⟨h1, h2⟩ := Bool.and_eq_true_iff.mp h
    rcases List.mem_cons.mp hd with rfl | hd
    · exact h1
    · exact clns_mem h2 d hd
theorem shI_zip : ∀ {ds : List D} {vs : List V}, shI (ds.zip vs) = (ds.map shr).zip vs
  | [], vs => by cases vs <;> rfl
  | _ :: _, [] => rfl
  | d :: ds, v :: vs => congrArg ((shr d, v) :: ·) shI_zip
section
variable {X : Cx} {B : Bs} {E : XK} {σ : L2.St} {F H : Hp} {I : List It} {ρ : Env}
/-- the state behind a call -/
theorem call_env {as : List AR} {vs : List V} {ds : List D} {Q : Env → Hp → Hp → Prop} (f : Fits ρ σ) (am : AMt σ as vs) (nd : (ioJ as ++ boJ as).Nodup) (ea : aDs as ρ = some ds) (G : Gd X.K B [] F H (avs as vs ++ (slots ρ σ ++ I))) :
    ∃ Fc O, Gd X.K ⟨H, Fc, O⟩ [] Fc H (ds.zip vs) ∧ ds.length = vs.length ∧ ((ioJ as).isEmpty = true → fres (avals as) = true → O = []) ∧
      (O = [] → ∀ H' F' J, Gd X.K ⟨H, Fc, O⟩ [] F' H' J → Same H H') ∧
      (∀ (P : List It) (os : List D) (H' F' : Hp), os.length = (sel (as.map AR.isIo) vs).length → Gd X.K ⟨H, Fc, O⟩ [] F' H' (P ++ os.zip (sel (as.map AR.isIo) vs)) → (∀ p ∈ P, cln p.1 = true) → clns os = true →
        Fits (puts (ioJ as) os ρ) σ ∧ ∃ F'', Sub F F'' ∧ Gd X.K B [] F'' H' (P ++ (slots (puts (ioJ as) os ρ) σ ++ I))) ∧
      (∀ (P : List It) (os : List D) (H' F' : Hp), os.length = (sel (as.map AR.isIo) vs).length → Gd X.K ⟨H, Fc, O⟩ [] F' H' (P ++ os.zip (sel (as.map AR.isIo) vs)) →
        Fits (shrJ (boJ as) (puts (ioJ as) os ρ)) σ ∧ ∃ F'', Sub F F'' ∧ Gd X.K B [] F'' H' (P ++ (slots (shrJ (boJ as) (puts (ioJ as) os ρ)) σ ++ I))) := by
  obtain ⟨hl, di, db, g1, g2, p⟩ := aDs_split am ea
  obtain ⟨nd1, nd2, nd3⟩ := List.nodup_append.mp nd
  have dis : ∀ j ∈ boJ as, j ∉ ioJ as := fun j hj z => nd3 j z j hj rfl
  obtain ⟨vi, a1, l1, p1, f1⟩ := slots_takes nd1 f g1
  have evi := VsAt.one a1 am.io
  subst evi
  have g2' : gets (boJ as) (takes (ioJ as) ρ) = some db := by
    have go : ∀ (is : List Nat) (ρ : Env), (∀ j ∈ boJ as, j ∉ is) → gets (boJ as) (takes is ρ) = gets (boJ as) ρ := fun is => by
      induction is with
      | nil => exact fun _ _ => rfl
      | cons i is ih =>
        intro ρ h
        show gets (boJ as) (takes is (ρ.set i none)) = _
        rw [ih _ fun j hj z => h j hj (List.mem_cons_of_mem _ z), gets_set fun z => h i z List.mem_cons_self]
    rw [go _ _ dis]
    exact g2
  obtain ⟨vb, a2, l2, p2, f2⟩ := slots_takes nd2 f1 g2'
  have evb := VsAt.one a2 am.bor
  subst evb
  have G1 : Gd X.K B [] F H ((avs as vs ++ di.zip (sel (as.map AR.isIo) vs)) ++ (db.zip (selB as vs) ++ (slots (takes (boJ as) (takes (ioJ as) ρ)) σ ++ I))) := by
    refine G.perm ?_
    rw [List.append_assoc]
    refine List.Perm.append_left _ ?_
    refine ((p1.trans (p2.append_left _)).append_right I).trans ?_
    simp only [List.append_assoc]
    exact .refl _
  obtain ⟨Fc, O, Pre, hO, h1, h2, h3⟩ := call_core G1
  refine ⟨Fc, O, Pre.perm p.symm, hl, fun e1 e2 => hO ?_, h3, fun P os H' F' hos GJ hP hc => ?_, fun P os H' F' hos GJ => ?_⟩
  · rw [List.all_append, avs_fre e2]
    have e3 : ioJ as = [] := List.isEmpty_iff.mp e1
    have e4 : di = [] := by
      rw [e3] at g1
      exact (Option.some.inj g1).symm
    subst e4
    rfl
  · obtain ⟨q1, q2⟩ := slots_puts nd1 f1 a1 hos
    refine ⟨q2, ?_⟩
    obtain ⟨F'', sb, G2⟩ := h1 H' F' _ GJ fun p hp => (List.mem_append.mp hp).elim (hP p) fun hp => clns_mem hc _ (List.of_mem_zip hp).1
    refine ⟨F'', sb, G2.perm ?_⟩
    rw [List.append_assoc]
    refine List.Perm.append_left _ ?_
    refine List.Perm.trans ?_ (q1.append_right I).symm
    rw [List.append_assoc]
    refine List.Perm.append_left _ ?_
    rw [← List.append_assoc]
    exact p2.symm.append_right I
  · have g3 : gets (boJ as) (puts (ioJ as) os ρ) = some db := by
      rw [gets_puts dis]
      exact g2
    rw [shrJ_eq nd2 g3]
    obtain ⟨q1, q2⟩ := slots_puts nd1 f1 a1 hos
    have g4 : gets (boJ as) (puts (ioJ as) os ρ) = some db := g3
    obtain ⟨vb', b1, b2, b3, b4⟩ := slots_takes nd2 q2 g4
    have evb := VsAt.one b1 am.bor
    subst evb
    obtain ⟨c1, c2⟩ := slots_puts (ds := db.map shr) nd2 b4 b1 (by rw [List.length_map]; exact b2)
    refine ⟨c2, ?_⟩
    obtain ⟨F'', sb, G2⟩ := h2 H' F' _ GJ
    refine ⟨F'', sb, G2.perm ?_⟩
    rw [List.append_assoc]
    refine List.Perm.append_left _ ?_
    refine List.Perm.trans ?_ (c1.append_right I).symm
    rw [shI_zip]
    -- what is left of the slots is the same on both ways
    have r1 : (os.zip (sel (as.map AR.isIo) vs) ++ slots (takes (boJ as) (takes (ioJ as) ρ)) σ).Perm (slots (takes (boJ as) (puts (ioJ as) os ρ)) σ) := by
      have s1 : (db.zip (selB as vs) ++ slots (takes (boJ as) (puts (ioJ as) os ρ)) σ).Perm (db.zip (selB as vs) ++ (os.zip (sel (as.map AR.isIo) vs) ++ slots (takes (boJ as) (takes (ioJ as) ρ)) σ)) :=
        (b3.symm.trans q1).trans (((p2.append_left _)).trans perm_mid)
      exact ((List.perm_append_left_iff _).mp s1).symm
    rw [List.append_assoc]
    refine List.Perm.trans ?_ ((r1.append_right I).append_left _)
    rw [List.append_assoc]
    exact perm_mid
end
end Sm

namespace Sm
open PySem PySem.Spec PyProof.Rows L2

/-! ### the arguments of a call -/
def TAc (X : Cx) (B : Bs) (E : XK) (pr : Bool) (m : M (List AR)) : TA := fun σ H Q => Rdg X B E pr m σ H fun as ρ' I F' H' => ∀ vs, AMt σ as vs → Gd X.K B [] F' H' (avs as vs ++ (slots ρ' σ ++ I)) → Q vs H'
def kNil : M (List AR) := mr []
def kVal (m : M D) (ms : M (List AR)) : M (List AR) := mb m fun x => mb ms fun as => mr (.val x :: as)
def kBor (j : Nat) (ms : M (List AR)) : M (List AR) := mb (mLook j) fun _ => mb ms fun as => mr (.bor j :: as)
def kIo (j : Nat) (ms : M (List AR)) : M (List AR) := mb (mLook j) fun _ => mb ms fun as => mr (.io j :: as)
section
variable {X : Cx} {B : Bs} {E : XK} {pr p1 p2 : Bool} {e : Expr} {es : List Expr}
theorem k_nil : PA X [] (TAc X B E true kNil) := PA.imp pa_nil fun σ H Q ⟨ρ, F, I, f, G, r⟩ => r.mr H F (fun _ => Same.rfl2) f [] rfl G
theorem tk_val {m : M D} {ms : M (List AR)} (σ : L2.St) (H : Hp) (Q : List V → Hp → Prop) (q : TAc X B E (p1 && p2) (kVal m ms) σ H Q) : tCons (T X B E p1 m) (TAc X B E p2 ms) σ H Q := by
  obtain ⟨ρ, F, I, f0, G, r0⟩ := q
  refine ⟨ρ, F, I, f0, G, ?_⟩
  refine Run.bind (fun z => (Bool.and_eq_true_iff.mp z).1) r0 sub_refl fun x ρ1 H1 F1 s1 f1 r1 v G1 => ?_
  refine ⟨ρ1, F1, (x, v) :: I, f1, G1.perm List.perm_middle.symm, ?_⟩
  have r2 := Run.later (p2 := p1 && p2) (I' := (x, v) :: I) (fun z => ⟨(Bool.and_eq_true_iff.mp z).1, z⟩) s1 r1 (fun {ρ'} => sub_cons (J := [(x, v)])) fun x ρ' H' F' _ _ k => k
  refine Run.bind (fun z => (Bool.and_eq_true_iff.mp z).2) r2 sub_refl fun y ρ2 H2 F2 s2 f2 r3 ws am G2 => ?_
  refine r3.mr H2 F2 (fun z => s2 (Bool.and_eq_true_iff.mp z).2) f2 (v :: ws) ⟨v, ws, rfl, am⟩ (G2.perm ?_)
  show (avs y ws ++ (slots ρ2 σ ++ (x, v) :: I)).Perm ((x, v) :: (avs y ws ++ (slots ρ2 σ ++ I)))
  rw [← List.append_assoc, ← List.append_assoc]
  exact List.perm_middle
theorem k_val {m : M D} {ms : M (List AR)} (h : PE X e (T X B E p1 m)) (hr : PA X es (TAc X B E p2 ms)) (hs : starEach (e :: es) X.env = (false, eval e X.env) :: starEach es X.env := by rfl) :
    PA X (e :: es) (TAc X B E (p1 && p2) (kVal m ms)) := PA.imp (pa_cons h hr hs) tk_val
theorem tk_slot {ar : Nat → AR} (har : ∀ (j : Nat) (as : List AR) (σ : L2.St) (v : V) (vs : List V), σ[j]? = some (some v) → AMt σ as vs → AMt σ (ar j :: as) (v :: vs)) (hav : ∀ (j : Nat) (as : List AR) (v : V) (vs : List V), avs (ar j :: as) (v :: vs) = avs as vs)
    {j : Nat} {ms : M (List AR)} (σ : L2.St) (H : Hp) (Q : List V → Hp → Prop) (q : TAc X B E pr (mb (mLook j) fun _ => mb ms fun as => mr (ar j :: as)) σ H Q) : tCons (tVar j) (TAc X B E pr ms) σ H Q := by
  obtain ⟨ρ, F, I, f0, G, r0⟩ := q
  cases e : mLook j ρ with
  | ok d ρ1 =>
    obtain ⟨e1, rfl⟩ := look_some e
    obtain ⟨v, e2, hm⟩ := slots_mem f0 e1
    unfold mb at r0
    rw [e] at r0
    refine ⟨v, e2, ρ1, F, I, f0, G, ?_⟩
    refine Run.bind (fun z => z) r0 sub_refl fun as ρ2 H1 F1 s1 f1 r1 vs am G1 => ?_
    exact r1.mr H1 F1 s1 f1 (v :: vs) (har _ _ _ _ _ e2 am) (by rw [hav]; exact G1)
  | exc x ρ1 =>
    unfold mLook at e
    split at e <;> cases e
  | bad =>
    unfold mb at r0
    rw [e] at r0
    exact r0.elim
theorem k_bor (j : Nat) {x : Str} {pos : Pos} {ms : M (List AR)} (hr : PA X es (TAc X B E pr ms)) (hN : X.N[j]? = some x := by rfl) (hv : Vis X.env.scope x := by first | exact Or.inl rfl | exact Or.inr (Or.inl rfl) | exact Or.inr (Or.inr rfl))
    (hd : (x == ("__debug__" : Str)) = false := by decide) (hcd : (x == ("__classdict__" : Str)) = false := by decide) (hs : starEach (.Name x pos :: es) X.env = (false, eval (.Name x pos) X.env) :: starEach es X.env := by rfl) :
    PA X (.Name x pos :: es) (TAc X B E pr (kBor j ms)) := PA.imp (pa_cons (pe_var hN hv hd hcd) hr hs) (tk_slot (ar := .bor) (fun j as σ v vs e h => ⟨v, vs, rfl, e, h⟩) fun _ _ _ _ => rfl)
theorem k_io (j : Nat) {x : Str} {pos : Pos} {ms : M (List AR)} (hr : PA X es (TAc X B E pr ms)) (hN : X.N[j]? = some x := by rfl) (hv : Vis X.env.scope x := by first | exact Or.inl rfl | exact Or.inr (Or.inl rfl) | exact Or.inr (Or.inr rfl))
    (hd : (x == ("__debug__" : Str)) = false := by decide) (hcd : (x == ("__classdict__" : Str)) = false := by decide) (hs : starEach (.Name x pos :: es) X.env = (false, eval (.Name x pos) X.env) :: starEach es X.env := by rfl) :
    PA X (.Name x pos :: es) (TAc X B E pr (kIo j ms)) := PA.imp (pa_cons (pe_var hN hv hd hcd) hr hs) (tk_slot (ar := .io) (fun j as σ v vs e h => ⟨v, vs, rfl, e, h⟩) fun _ _ _ _ => rfl)

/-! ### calls -/
/-- a callee's promise is met -/
theorem call_sp {q : Bool} {md : List Bool} {f : FM} {as : List AR} {vs : List V} {σ : L2.St} {F F1 H H1 : Hp} {I : List It} {ρ1 : Env} {Q : VK} (f1 : Fits ρ1 σ) (am : AMt σ as vs) (G1 : Gd X.K B [] F1 H1 (avs as vs ++ (slots ρ1 σ ++ I)))
    (s1 : p1 = true → Same H H1 ∧ Sub F F1) (r1 : Run X B E (p1 && q) σ F H I (mCall q md f as ρ1) fun d ρ' F' H' => ∀ v, Gd X.K B [] F' H' ((d, v) :: (slots ρ' σ ++ I)) → Q v H') : spF X.K md f vs H1 Q E := by
  unfold mCall at r1
  by_cases c : (decide (as.map AR.isIo = md) && (decide (ioJ as ++ boJ as).Nodup && (!q || ((ioJ as).isEmpty && fres (avals as))))) = true
  · rw [if_pos c] at r1
    obtain ⟨c1, c2⟩ := Bool.and_eq_true_iff.mp c
    obtain ⟨c3, c4⟩ := Bool.and_eq_true_iff.mp c2
    have hmd : as.map AR.isIo = md := of_decide_eq_true c1
    subst hmd
    cases ea : aDs as ρ1 with
    | none => rw [ea] at r1; exact r1.elim
    | some ds =>
      simp only [ea] at r1
      obtain ⟨Fc, O, Pre, hl, hO, hsame, h1, h2⟩ := call_env (Q := fun _ _ _ => True) f1 am (of_decide_eq_true c3) ea G1
      have hs : ∀ {H' F' F'' : Hp} {J : List It}, Gd X.K ⟨H1, Fc, O⟩ [] F' H' J → Sub F1 F'' → (p1 && q) = true → Same H H' ∧ Sub F F'' := fun {H' F' F'' J} GJ sb z => by
        obtain ⟨z1, z2⟩ := Bool.and_eq_true_iff.mp z
        rw [z2] at c4
        obtain ⟨c5, c6⟩ := Bool.and_eq_true_iff.mp (show ((ioJ as).isEmpty && fres (avals as)) = true by simpa using c4)
        obtain ⟨a1, a2⟩ := s1 z1
        exact ⟨a1.trans (hsame (hO c5 c6) H' F' J GJ), fun a o e => sb a o (a2 a o e)⟩
      refine ⟨ds, Fc, O, hl, by rw [List.length_map, am.length], Pre, ?_⟩
      cases ef : f ds with
      | ok r os =>
        simp only [ef] at r1
        intro v H' F' hos GJ
        by_cases cc : (cln r && clns os) = true
        · rw [if_pos cc] at r1
          obtain ⟨cr, co⟩ := Bool.and_eq_true_iff.mp cc
          obtain ⟨f', F'', sb, G'⟩ := h1 [(r, v)] os H' F' hos GJ (fun p hp => by
            rw [List.mem_singleton.mp hp]
            exact cr) co
          exact r1 H' F'' (hs GJ sb) f' v G'
        · rw [if_neg cc] at r1
          obtain ⟨f', F'', sb, G'⟩ := h2 [(r, v)] os H' F' hos GJ
          exact r1 H' F'' (hs GJ sb) f' v G'
      | exc x os =>
        simp only [ef] at r1
        intro cls dd H' F' hos GJ xa
        by_cases cc : clns os = true
        · rw [if_pos cc] at r1
          obtain ⟨f', F'', sb, G'⟩ := h1 [] os H' F' hos GJ (fun p hp => by cases hp) cc
          exact r1 cls dd H' F'' f' G' xa
        · rw [if_neg cc] at r1
          obtain ⟨f', F'', sb, G'⟩ := h2 [] os H' F' hos GJ
          exact r1 cls dd H' F'' f' G' xa
      | bad =>
        simp only [ef] at r1
        exact r1
  · rw [if_neg c] at r1
    exact r1.elim
theorem tcall {q : Bool} {md : List Bool} {f : FM} {ms : M (List AR)} (σ : L2.St) (H : Hp) (Q : VK) (h : T X B E (p1 && q) (mb ms (mCall q md f)) σ H Q) : tCall (spF X.K md f) [] E (TAc X B E p1 ms) σ H Q := by
  obtain ⟨ρ, F, I, f0, G, r0⟩ := h
  refine ⟨ρ, F, I, f0, G, ?_⟩
  refine Run.bind (fun z => (Bool.and_eq_true_iff.mp z).1) r0 sub_refl fun as ρ1 H1 F1 s1 f1 r1 vs am G1 => ?_
  show spF X.K md f (vs ++ []) H1 Q E
  rw [List.append_nil]
  exact call_sp f1 am G1 s1 r1
variable {CX' : CXT} {k : Nat} {f : Addr} {fd : FuncData} {ps : List Str} {x : Str} {p pos apos : Pos}
theorem s_call {q : Bool} {md : List Bool} {fm : FM} {ms : M (List AR)} (F : FnOk X.prog X.w X.K X.mg X.base CX' k f fd ps (spF X.K md fm)) (hr : Room k X.A) (hg : Gl X x) (hm : X.mg x = some (.ref f)) (hk : PySem.W.keepIn X.K (.ref f) = true) (hb : Binds X.K fd ps []) (hx : Passes CX' X E)
    (ha : PA X (e :: es) (TAc X B E p1 ms)) (hdb : (x == ("__debug__" : Str)) = false := by decide) (he : starEach (e :: es) X.env = (false, eval e X.env) :: starEach es X.env := by rfl) (hpl : (backTo pos (starEach es X.env)).any (·.1) = false := by rfl) :
    PE X (.Call (.Name x p) (e :: es) [] pos) (T X B E (p1 && q) (mb ms (mCall q md fm))) := PE.imp (pe_call F hr hg hm hk hb .nil hx ha hdb he hpl) tcall
theorem s_call0 {q : Bool} {md : List Bool} {fm : FM} (F : FnOk X.prog X.w X.K X.mg X.base CX' k f fd ps (spF X.K md fm)) (hr : Room k X.A) (hg : Gl X x) (hm : X.mg x = some (.ref f)) (hk : PySem.W.keepIn X.K (.ref f) = true) (hb : Binds X.K fd ps []) (hx : Passes CX' X E)
    (hdb : (x == ("__debug__" : Str)) = false := by decide) : PE X (.Call (.Name x p) [] [] pos) (T X B E q (mb kNil (mCall q md fm))) := PE.imp (pe_call0 F hr hg hm hk hb .nil hx hdb) fun σ H Q h => by
  obtain ⟨ρ, F, I, f0, G, r0⟩ := h
  show spF X.K md fm [] H Q E
  exact call_sp (p1 := true) (as := []) (vs := []) (q := q) (F := F) (H := H) (F1 := F) (H1 := H) f0 rfl G (fun _ => Same.rfl2) r0
end
end Sm

namespace Sm
open PySem PySem.Spec PyProof.Rows L2

section
variable {X : Cx} {B : Bs} {E : XK} {Y : Fx} {pr p1 p2 : Bool} {e : Expr} {pos p : Pos}
/-! ### walks of ranges and texts -/
def rangeD (lo : Int) (n : Nat) : List D := (List.range n).map fun i => .int (lo + (i : Nat))
def mRange1 : List D → M (List D)
  | [.a (.int j)] => fun ρ => if -(2 ^ 62) ≤ j ∧ j < 2 ^ 62 then .ok (rangeD 0 j.toNat) ρ else .bad
  | _ => fun _ => .bad
def mRange2 : List D → M (List D)
  | [.a (.int i), .a (.int j)] => fun ρ => if -(2 ^ 62) ≤ i ∧ i < 2 ^ 62 ∧ -(2 ^ 62) ≤ j ∧ j < 2 ^ 62 then .ok (rangeD i (j - i).toNat) ρ else .bad
  | _ => fun _ => .bad
theorem src_range {lo : Int} {n : Nat} : Src X (Itr lo n) [] (rangeD lo n) where
  go := fun B F H I G i d ed => by
    have hi : i < n := by
      have := (List.getElem?_eq_some_iff.mp ed).1
      unfold rangeD at this
      simpa using this
    have hd : d = .int (lo + (i : Nat)) := by
      unfold rangeD at ed
      rw [List.getElem?_map, List.getElem?_range hi] at ed
      exact (Option.some.inj ed).symm
    refine ⟨hi, fun x H' y => ?_⟩
    obtain ⟨e1, e2⟩ := y
    subst e1 e2 hd
    exact ⟨Same.refl _, F, fun _ _ h => h, G.atom⟩
  stop := fun B F H I G => by
    show n ≤ (rangeD lo n).length
    unfold rangeD
    simp
theorem atom_of {x : V} {v : V} {K : PySem.W.Frag} {F H : Hp} {O : List Addr} (r : Rep K F H (.a x) v O) : v = x := by
  unfold Rep at r
  exact r.1
theorem vws1 {K : PySem.W.Frag} {F H : Hp} {x : V} {vs : List V} (h : Vws K F H [.a x] vs) : vs = [x] := by
  obtain ⟨hl, hk⟩ := h
  match vs, hl with
  | [v], _ =>
    obtain ⟨O, r⟩ := hk (.a x, v) (by simp)
    have e := atom_of r
    simp only at e
    rw [e]
theorem vws2 {K : PySem.W.Frag} {F H : Hp} {x y : V} {vs : List V} (h : Vws K F H [.a x, .a y] vs) : vs = [x, y] := by
  obtain ⟨hl, hk⟩ := h
  match vs, hl with
  | [v, w], _ =>
    obtain ⟨O, r⟩ := hk (.a x, v) (by simp)
    obtain ⟨O', r'⟩ := hk (.a y, w) (by simp)
    have e := atom_of r
    have e' := atom_of r'
    simp only at e e'
    rw [e, e']
theorem i_range1 {a tg : Expr} {ms : M (List D)} (hg : Gl X "range") (hm : X.mg "range" = none) (ha : PA X [a] (TVa X B E pr ms)) (hs : starEach [a] X.env = [(false, eval a X.env)] := by rfl) :
    PI X tg (.Call (.Name "range" p) [a] [] pos) (TIt X B E pr (mb ms mRange1)) := PI.imp (pi_range1 hg hm ha hs) fun σ H R ⟨ρ, F, I, f, G, r⟩ => by
  refine ⟨ρ, F, I, f, G, ?_⟩
  refine Run.bind (fun z => z) r sub_refl fun x ρ1 H1 F1 s1 f1 r1 vs hv G1 => ?_
  unfold mRange1 at r1
  split at r1
  · rename_i j
    simp only at r1
    by_cases c : -(2 ^ 62) ≤ j ∧ j < 2 ^ 62
    · rw [if_pos c] at r1
      exact ⟨j, vws1 hv, c.1, c.2, r1 H1 F1 s1 f1 (Itr 0 j.toNat) [] src_range G1⟩
    · rw [if_neg c] at r1
      exact r1.elim
  · exact r1.elim
theorem i_range2 {a b tg : Expr} {ms : M (List D)} (hg : Gl X "range") (hm : X.mg "range" = none) (ha : PA X [a, b] (TVa X B E pr ms)) (hs : starEach [a, b] X.env = [(false, eval a X.env), (false, eval b X.env)] := by rfl) (hs2 : starEach [b] X.env = [(false, eval b X.env)] := by rfl) :
    PI X tg (.Call (.Name "range" p) [a, b] [] pos) (TIt X B E pr (mb ms mRange2)) := PI.imp (pi_range2 hg hm ha hs hs2) fun σ H R ⟨ρ, F, I, f, G, r⟩ => by
  refine ⟨ρ, F, I, f, G, ?_⟩
  refine Run.bind (fun z => z) r sub_refl fun x ρ1 H1 F1 s1 f1 r1 vs hv G1 => ?_
  unfold mRange2 at r1
  split at r1
  · rename_i i j
    simp only at r1
    by_cases c : -(2 ^ 62) ≤ i ∧ i < 2 ^ 62 ∧ -(2 ^ 62) ≤ j ∧ j < 2 ^ 62
    · rw [if_pos c] at r1
      exact ⟨i, j, vws2 hv, c, r1 H1 F1 s1 f1 (Itr i (j - i).toNat) [] src_range G1⟩
    · rw [if_neg c] at r1
      exact r1.elim
  · exact r1.elim
/-- the signs of a text -/
def signs (x : Str) : List D := x.cps.toList.map fun c => .str ⟨#[c]⟩
def mIterS : D → M (List D)
  | .a (.str x) => mr (signs x)
  | _ => fun _ => .bad
theorem i_str {tg : Expr} {m : M D} (h : PE X e (T X B E pr m)) : PI X tg e (TIt X B E pr (mb m mIterS)) := PI.imp (pi_str h) fun σ H R ⟨ρ, F, I, f, G, r⟩ => by
  refine ⟨ρ, F, I, f, G, ?_⟩
  refine Run.bind (fun z => z) r sub_refl fun x ρ1 H1 F1 s1 f1 r1 v G1 => ?_
  unfold mIterS at r1
  split at r1
  · rename_i z
    obtain ⟨O, rp⟩ := G1.rep
    refine ⟨z, atom_of rp, r1.mr H1 F1 s1 f1 (L2.Its z) [] ⟨fun B' F' H' I' G' i d ed => ?_, fun B' F' H' I' G' => ?_⟩ G1.tail⟩
    · unfold signs at ed
      rw [List.getElem?_map] at ed
      cases ec : z.cps.toList[i]? with
      | none => rw [ec] at ed; cases ed
      | some c =>
        rw [ec] at ed
        cases ed
        have hi : i < z.cps.size := by simpa using (List.getElem?_eq_some_iff.mp ec).1
        refine ⟨hi, fun x H'' y => ?_⟩
        obtain ⟨e1, c', e2, e3⟩ := y
        subst e1 e3
        have : c' = c := by
          rw [Array.getElem?_toList] at ec
          rw [ec] at e2
          exact (Option.some.inj e2).symm
        subst this
        exact ⟨Same.refl _, F', fun _ _ h => h, G'.atom⟩
    · show z.cps.size ≤ (signs z).length
      unfold signs
      simp
  · exact r1.elim

/-! ### list comprehensions -/
def wipeE : List Nat → Env → Env
  | [], ρ => ρ
  | j :: js, ρ => (wipeE js ρ).set j none
theorem fits_wipe {ρ : Env} {σ : L2.St} (f : Fits ρ σ) : ∀ {js : List Nat}, (slots (wipeE js ρ) (wipe σ js)).Sublist (slots ρ σ) ∧ Fits (wipeE js ρ) (wipe σ js)
  | [] => ⟨.refl _, f⟩
  | j :: js => by
    obtain ⟨a, b⟩ := fits_wipe f (js := js)
    have go : ∀ {ρ : Env} {σ : L2.St} {j : Nat}, Fits ρ σ → (slots (ρ.set j none) (σ.set j none)).Sublist (slots ρ σ) ∧ Fits (ρ.set j none) (σ.set j none) := fun {ρ σ j} => by
      induction ρ generalizing σ j with
      | nil => intro f; cases σ with
        | nil => exact ⟨.refl _, trivial⟩
        | cons _ _ => exact f.elim
      | cons o ρ ih =>
        intro f
        cases σ with
        | nil => cases o <;> exact f.elim
        | cons x σ =>
          cases j with
          | zero =>
            cases o with
            | none => cases x <;> exact ⟨.refl _, f⟩
            | some d => cases x with
              | none => exact f.elim
              | some v => exact ⟨List.sublist_cons_self _ _, f⟩
          | succ j =>
            cases o with
            | none =>
              obtain ⟨a, b⟩ := ih (σ := σ) (j := j) f
              cases x <;> exact ⟨a, b⟩
            | some d => cases x with
              | none => exact f.elim
              | some v =>
                obtain ⟨a, b⟩ := ih (σ := σ) (j := j) f
                exact ⟨a.cons_cons _, b⟩
    obtain ⟨c, d⟩ := go (j := j) b
    exact ⟨c.trans a, d⟩
/-- slots without a value do not count -/
theorem fits_congr : ∀ {ρ : Env} {σ σ' : L2.St}, σ.length = σ'.length → (∀ (i : Nat) (d : D), ρ[i]? = some (some d) → σ[i]? = σ'[i]?) → Fits ρ σ → Fits ρ σ' ∧ slots ρ σ' = slots ρ σ
  | [], [], [], _, _, _ => ⟨trivial, rfl⟩
  | [], [], _ :: _, hl, _, _ => by cases hl
  | [], _ :: _, _, _, _, f => f.elim
  | o :: ρ, [], _, _, _, f => by cases o <;> exact f.elim
  | o :: ρ, _ :: _, [], hl, _, _ => by cases hl
  | none :: ρ, x :: σ, y :: σ', hl, h, f => by
    obtain ⟨a, b⟩ := fits_congr (ρ := ρ) (σ := σ) (σ' := σ') (Nat.succ.inj hl) (fun i d e => by simpa using h (i + 1) d (by simpa using e)) f
    exact ⟨a, by cases x <;> cases y <;> exact b⟩
  | some d :: ρ, none :: σ, y :: σ', hl, h, f => f.elim
  | some d :: ρ, some v :: σ, y :: σ', hl, h, f => by
    have e : some (some v) = some y := by simpa using h 0 d rfl
    cases e
    obtain ⟨a, b⟩ := fits_congr (ρ := ρ) (σ := σ) (σ' := σ') (Nat.succ.inj hl) (fun i d e => by simpa using h (i + 1) d (by simpa using e)) f
    exact ⟨a, congrArg ((d, v) :: ·) b⟩
theorem wipeE_get {ρ : Env} {i : Nat} {d : D} : ∀ {js : List Nat}, (wipeE js ρ)[i]? = some (some d) → i ∉ js ∧ ρ[i]? = some (some d)
  | [], h => ⟨by simp, h⟩
  | j :: js, h => by
    unfold wipeE at h
    by_cases e : j = i
    · subst e
      by_cases l : j < (wipeE js ρ).length
      · rw [List.getElem?_set_self l] at h
        cases h
      · rw [List.getElem?_eq_none (by rw [List.length_set]; omega)] at h
        cases h
    · rw [List.getElem?_set_ne e] at h
      obtain ⟨a, b⟩ := wipeE_get h
      exact ⟨by simp only [List.mem_cons, not_or]; exact ⟨fun z => e z.symm, a⟩, b⟩
/-- behind a comprehension: the block's own names are forgotten -/
theorem fits_back {ρ : Env} {σ σ2 : L2.St} {js : List Nat} (hw : wipe σ2 js = wipe σ js) (f : Fits ρ σ2) : Fits (wipeE js ρ) σ ∧ (slots (wipeE js ρ) σ).Sublist (slots ρ σ2) ∧ Fits (wipeE js ρ) (wipe σ js) ∧ (slots (wipeE js ρ) (wipe σ js)).Sublist (slots ρ σ2) := by
  obtain ⟨a, b⟩ := fits_wipe f (js := js)
  rw [hw] at a b
  obtain ⟨c, d⟩ := fits_congr (ρ := wipeE js ρ) (σ := wipe σ js) (σ' := σ) (wipe_length _ _) (fun i d e => wipe_out (wipeE_get e).1) b
  exact ⟨c, d ▸ a, b, a⟩
def lcGo (own : List Nat) (g : MG) (t : M Bool) (e : M D) : List D → List D → M D
  | [], acc, ρ => .ok (.lst acc) ρ
  | d :: ds, acc, ρ => match g d ρ with
    | none => .bad
    | some ρ1 => match t ρ1 with
      | .ok true ρ2 => match e ρ2 with
        | .ok y ρ3 => if acc.length < sizeLine then lcGo own g t e ds (acc ++ [y]) (wipeE own ρ3) else .bad
        | _ => .bad
      | .ok false ρ2 => lcGo own g t e ds acc (wipeE own ρ2)
      | _ => .bad
def mLc (own : List Nat) (mi : M (List D)) (g : MG) (t : M Bool) (e : M D) : M D := mb mi fun ds ρ => lcGo own g t e ds [] (wipeE own ρ)
def mYes : M Bool := mr true
/-- in a block no exception may leave -/
def TGb (X : Cx) (B : Bs) (own : List Nat) (mg : MG) : TG := fun v σ H Q => ∃ d ρ F I, Fits ρ σ ∧ Gd X.K B [] F H ((d, v) :: (slots ρ σ ++ I)) ∧ ∃ ρ', mg d ρ = some ρ' ∧ ∀ σ' H' F', (Same H H' ∧ Sub F F') → wipe σ' own = wipe σ own → Fits ρ' σ' → Gd X.K B [] F' H' (slots ρ' σ' ++ I) → Q σ' H'
def TGbs (X : Cx) (B : Bs) (own : List Nat) (mg : MGs) : TGs := fun vs σ H Q => ∃ ds ρ F I, ds.length = vs.length ∧ Fits ρ σ ∧ Gd X.K B [] F H (ds.zip vs ++ (slots ρ σ ++ I)) ∧ ∃ ρ', mg ds ρ = some ρ' ∧ ∀ σ' H' F', (Same H H' ∧ Sub F F') → wipe σ' own = wipe σ own → Fits ρ' σ' → Gd X.K B [] F' H' (slots ρ' σ' ++ I) → Q σ' H'
def gSetC (i : Nat) : MG := fun d ρ => if i < ρ.length then some (ρ.set i (some d)) else none
theorem wipe_set {σ : L2.St} {i : Nat} {x : Option V} : ∀ {own : List Nat}, i ∈ own → wipe (σ.set i x) own = wipe σ own
  | [], h => by cases h
  | j :: js, h => by
    unfold wipe
    by_cases hj : i ∈ js
    · rw [wipe_set hj]
    · rcases List.mem_cons.mp h with rfl | h
      · have go : ∀ {js : List Nat}, i ∉ js → wipe (σ.set i x) js = (wipe σ js).set i x := fun {js} => by
          induction js with
          | nil => exact fun _ => rfl
          | cons k ks ih =>
            intro hk
            unfold wipe
            rw [ih fun z => hk (List.mem_cons_of_mem _ z), List.set_comm _ _ (show i ≠ k from fun z => hk (by rw [z]; exact List.mem_cons_self))]
        rw [go hj, List.set_set]
      · exact absurd h hj
theorem gb_set {own : List Nat} {i : Nat} {x : Str} (hi : X.N[i]? = some x) (hx : Loc X.env.scope x) (hN : X.N.Nodup) (ho : i ∈ own) (hf : X.fn x = true ∨ X.env.scope.names.lookup x = some .local := by first | exact .inl rfl | exact .inr rfl | assumption) :
    PG X (.Name x pos) (TGb X B own (gSetC i)) := PG.imp (pg_name hN hi hx hf) fun v σ H Q ⟨d, ρ, F, I, f, G, ρ', e, k⟩ => by
  unfold gSetC at e
  by_cases hl : i < ρ.length
  · rw [if_pos hl] at e
    cases e
    obtain ⟨f', G'⟩ := put_ok f (by rw [← f.length]; exact hl) G
    exact k _ H F Same.rfl2 (wipe_set ho) f' G'
  · rw [if_neg hl] at e
    cases e
theorem gbs_nil {own : List Nat} : PGs X [] (TGbs X B own gsNil) := PGs.imp pgs_nil fun vs σ H Q ⟨ds, ρ, F, I, hl, f, G, ρ', e, k⟩ => by
  cases ds with
  | nil =>
    injection e with e
    subst e
    exact ⟨List.length_eq_zero_iff.mp hl.symm, k σ H F Same.rfl2 rfl f (by cases vs <;> first | exact G | cases hl)⟩
  | cons d ds => cases e
theorem gbs_cons {own : List Nat} {t : Expr} {ts : List Expr} {g : MG} {gs : MGs} (h1 : PG X t (TGb X B own g)) (h2 : PGs X ts (TGbs X B own gs)) (hs : (assignEach (t :: ts) X.env).map (·.2) = assign t X.env :: (assignEach ts X.env).map (·.2) := by rfl) :
    PGs X (t :: ts) (TGbs X B own (gsCons g gs)) := PGs.imp (pgs_cons h1 h2 hs) fun vs σ H Q ⟨ds, ρ, F, I, hl, f, G, ρ', e, k⟩ => by
  cases ds with
  | nil => cases e
  | cons d ds =>
    cases vs with
    | nil => cases hl
    | cons v vs =>
      have e' : (g d ρ).bind (gs ds) = some ρ' := e
      cases e1 : g d ρ with
      | none => rw [e1] at e'; cases e'
      | some ρ1 =>
        rw [e1] at e'
        refine ⟨v, vs, rfl, d, ρ, F, ds.zip vs ++ I, f, G.perm ?_, ρ1, e1, fun σ1 H1 F1 s1 w1 f1 G1 => ⟨ds, ρ1, F1, I, Nat.succ.inj hl, f1, G1.perm ?_, ρ', e', fun σ2 H2 F2 s2 w2 f2 G2 => k σ2 H2 F2 ⟨s1.1.trans s2.1, fun a o e => s2.2 a o (s1.2 a o e)⟩ (w2.trans w1) f2 G2⟩⟩
        · exact (perm_mid (A := ds.zip vs) (C := slots ρ σ) (I := I)).cons _
        · exact (perm_mid (A := ds.zip vs) (C := slots ρ1 σ1) (I := I)).symm
theorem gb_tup {own : List Nat} {es : List Expr} {k n : Nat} {gs : MGs} (hc : X.calm = true) (h : PGs X es (TGbs X B own gs)) (hn : (assignEach es X.env).length = n := by rfl) (hst : (assignEach es X.env).findIdx? (·.1) = none := by rfl) :
    PG X (.Tuple es k pos) (TGb X B own (gTupN n gs)) := PG.imp (pg_tup hc h hn hst) fun v σ H Q ⟨d, ρ, F, I, f, G, ρ', e, kk⟩ => by
  unfold gTupN at e
  split at e
  · rename_i ds
    by_cases hl : ds.length = n
    · rw [if_pos hl] at e
      obtain ⟨a, vs, rfl, sq, hlen, G'⟩ := G.openT
      exact ⟨a, vs, rfl, sq.sq, hlen ▸ hl, ds, ρ, F, I, hlen, f, G', ρ', e, kk⟩
    · rw [if_neg hl] at e
      cases e
  · cases e
theorem ts_nil : PTs X [] (Tb X B E true mYes) := ⟨fun pins s σ H Q I h => pts_nil.run pins s σ H Q I (by
  obtain ⟨ρ, F, J, f, G, r⟩ := h
  exact r.mr H F (fun _ => Same.rfl2) f G)⟩
theorem ts_one {c : Expr} {m : M Bool} (h : PT X c (Tb X B E pr m)) : PTs X [c] (Tb X B E pr m) := pts_one h
theorem wipe_idem {σ : L2.St} {js : List Nat} : wipe (wipe σ js) js = wipe σ js := by
  refine List.ext_getElem? fun i => ?_
  by_cases h : i ∈ js
  · have go : ∀ {σ : L2.St} {js : List Nat}, i ∈ js → ∀ x, (wipe σ js)[i]? ≠ some (some x) := fun {σ js} h x e => (wipe_some e).2 h
    by_cases l : i < σ.length
    · have l1 : i < (wipe σ js).length := by rw [wipe_length]; exact l
      have l2 : i < (wipe (wipe σ js) js).length := by rw [wipe_length]; exact l1
      rw [List.getElem?_eq_getElem l1, List.getElem?_eq_getElem l2]
      have a : (wipe σ js)[i] = none := by
        cases q : (wipe σ js)[i] with
        | none => rfl
        | some x => exact absurd (by rw [List.getElem?_eq_getElem l1, q]) (go h x)
      have b : (wipe (wipe σ js) js)[i] = none := by
        cases q : (wipe (wipe σ js) js)[i] with
        | none => rfl
        | some x => exact absurd (by rw [List.getElem?_eq_getElem l2, q]) (go h x)
      rw [a, b]
    · rw [List.getElem?_eq_none (by rw [wipe_length, wipe_length]; omega), List.getElem?_eq_none (by rw [wipe_length]; omega)]
  · exact wipe_out h
theorem wipeE_len {ρ : Env} : ∀ {js : List Nat}, (wipeE js ρ).length = ρ.length
  | [] => rfl
  | j :: js => by unfold wipeE; rw [List.length_set, wipeE_len]
theorem wipeE_at {ρ : Env} {i : Nat} : ∀ {js : List Nat}, (wipeE js ρ)[i]? = if i ∈ js ∧ i < ρ.length then some none else ρ[i]?
  | [] => by simp [wipeE]
  | j :: js => by
    unfold wipeE
    by_cases e : j = i
    · subst e
      by_cases l : j < ρ.length
      · rw [List.getElem?_set_self (by rw [wipeE_len]; exact l), if_pos ⟨List.mem_cons_self, l⟩]
      · rw [List.getElem?_eq_none (by rw [List.length_set, wipeE_len]; omega), if_neg (fun z => l z.2), List.getElem?_eq_none (by omega)]
    · rw [List.getElem?_set_ne e, wipeE_at]
      have q : (i ∈ j :: js ∧ i < ρ.length) ↔ (i ∈ js ∧ i < ρ.length) := by
        simp only [List.mem_cons]
        exact ⟨fun z => ⟨z.1.resolve_left fun y => e y.symm, z.2⟩, fun z => ⟨.inr z.1, z.2⟩⟩
      simp only [q]
theorem wipeE_idem {ρ : Env} {js : List Nat} : wipeE js (wipeE js ρ) = wipeE js ρ := by
  refine List.ext_getElem? fun i => ?_
  rw [wipeE_at, wipeE_at, wipeE_len]
  by_cases h : i ∈ js ∧ i < ρ.length
  · rw [if_pos h, if_pos h]
  · rw [if_neg h]
/-- [elt for tg in iter if ..] -/
theorem tlc {own : List (Str × Nat)} {mi : M (List D)} {g : MG} {mt : M Bool} {me : M D} (σ : L2.St) (H : Hp) (Q : VK) (q : T X B E (p1 && (p2 && pr)) (mLc (own.map (·.2)) mi g mt me) σ H Q) :
    tLc (TIt X B E p1 mi) (TGb X B (own.map (·.2)) g) (Tb X B E0 p2 mt) (T X B E0 pr me) (own.map (·.2)) σ H Q := by
  obtain ⟨ρ, F, I, f, G, r⟩ := q
  refine ⟨ρ, F, I, f, G, ?_⟩
  refine Run.bind (fun z => (Bool.and_eq_true_iff.mp z).1) r sub_refl fun ds ρ1 H1 F1 s1 f1 r1 J I0 S G1 => ?_
  intro D hD
  obtain ⟨own', ho⟩ : ∃ o, o = own.map (·.2) := ⟨_, rfl⟩
  rw [← ho] at r1 ⊢
  obtain ⟨sw, fw⟩ := fits_wipe f1 (js := own')
  have G2 : Gd X.K B [] F1 (upd H1 D (.lst [])) (slots (wipeE own' ρ1) (wipe σ own') ++ ((.lst [], .ref D) :: (I0 ++ I))) := by
    have g0 : Gd X.K B [] F1 (upd H1 D (.lst [])) ((.lst [], .ref D) :: (I0 ++ (slots ρ1 σ ++ I))) := Gd.newLst (ds := []) (vs := []) G1 rfl hD
    refine (g0.drop (J := (.lst [], .ref D) :: (I0 ++ (slots (wipeE own' ρ1) (wipe σ own') ++ I))) (((sw.append_right I).append_left I0).cons_cons _)).perm ?_
    exact (perm_mid.cons _).trans List.perm_middle.symm
  refine ⟨fun i n H' => ∃ ρ F' acc, Fits ρ (wipe σ own') ∧ Gd X.K B [] F' H' (slots ρ (wipe σ own') ++ ((.lst acc, .ref D) :: (I0 ++ I))) ∧ wipeE own' ρ = ρ ∧ n = ds.length - i ∧ i ≤ ds.length ∧ ((p2 && pr) = true → Same H1 H' ∧ Sub F1 F') ∧
    Run X B E (p1 && (p2 && pr)) σ F H I (lcGo own' g mt me (ds.drop i) acc ρ) (fun d ρ' F' H' => ∀ v, Gd X.K B [] F' H' ((d, v) :: (slots ρ' σ ++ I)) → Q v H'),
    ⟨ds.length, wipeE own' ρ1, F1, [], fw, G2, wipeE_idem, rfl, Nat.zero_le _, fun _ => ⟨Same.alloc hD, fun _ _ h => h⟩, r1⟩, ?_⟩
  rintro i n H' ⟨ρ, F', acc, fρ, Gρ, wρ, rfl, hi, hsm, rr⟩
  have Gp : Gd X.K B [] F' H' (I0 ++ ((.lst acc, .ref D) :: (slots ρ (wipe σ own') ++ I))) := Gρ.perm ((List.perm_middle.trans (perm_mid.cons _)).trans List.perm_middle.symm)
  by_cases hlt : i < ds.length
  · refine .inr ?_
    have ed : ds[i]? = some ds[i] := by simp [hlt]
    obtain ⟨hgo, hy⟩ := S.go B F' H' _ Gp i _ ed
    refine ⟨hgo, fun H'' => ∃ ρ F' acc, Fits ρ (wipe σ own') ∧ Gd X.K B [] F' H'' (slots ρ (wipe σ own') ++ ((.lst acc, .ref D) :: (I0 ++ I))) ∧ wipeE own' ρ = ρ ∧ ((p2 && pr) = true → Same H1 H'' ∧ Sub F1 F') ∧
      Run X B E (p1 && (p2 && pr)) σ F H I (lcGo own' g mt me (ds.drop (i + 1)) acc ρ) (fun d ρ' F' H' => ∀ v, Gd X.K B [] F' H' ((d, v) :: (slots ρ' σ ++ I)) → Q v H'),
      fun H'' ⟨ρ', F'', acc', h1, h2, h3, h4, h5⟩ => ⟨ds.length - (i + 1), by omega, ρ', F'', acc', h1, h2, h3, rfl, hlt, h4, h5⟩, fun x H2 y => ?_⟩
    obtain ⟨s2, F2, sb2, Gx⟩ := hy x H2 y
    rw [List.drop_eq_getElem_cons hlt] at rr
    unfold lcGo at rr
    cases eg : g ds[i] ρ with
    | none =>
      simp only [eg] at rr
      exact rr.elim
    | some ρ2 =>
      simp only [eg] at rr
      refine ⟨ds[i], ρ, F2, (.lst acc, .ref D) :: (I0 ++ I), fρ, Gx.perm ?_, ρ2, eg, fun σ3 H3 F3 s3 w3 f3 G3 => ⟨w3.trans wipe_idem, ρ2, F3, (.lst acc, .ref D) :: (I0 ++ I), f3, G3, ?_⟩⟩
      · exact ((List.perm_middle.trans (perm_mid.cons _)).trans List.perm_middle.symm).cons _
      have sm3 : (p2 && pr) = true → Same H1 H3 ∧ Sub F1 F3 := fun z =>
        ⟨((hsm z).1.trans s2).trans s3.1, fun a o e => s3.2 a o (sb2 a o ((hsm z).2 a o e))⟩
      have w3' : wipe σ3 own' = wipe σ own' := w3.trans wipe_idem
      cases et : mt ρ2 with
      | ok b ρ4 =>
        simp only [et] at rr
        intro H4 F4 s4 f4 G4
        have sm4 : (p2 && pr) = true → Same H1 H4 ∧ Sub F1 F4 := fun z =>
          have z2 := (Bool.and_eq_true_iff.mp z).1
          ⟨(sm3 z).1.trans (s4 z2).1, fun a o e => (s4 z2).2 a o ((sm3 z).2 a o e)⟩
        cases b with
        | false =>
          rw [if_neg Bool.false_ne_true]
          simp only at rr
          obtain ⟨_, _, b3, b4⟩ := fits_back w3' f4
          exact ⟨wipeE own' ρ4, F4, acc, b3, G4.drop (b4.append_right _), wipeE_idem, sm4, rr⟩
        | true =>
          rw [if_pos rfl]
          simp only at rr
          refine ⟨ρ4, F4, (.lst acc, .ref D) :: (I0 ++ I), f4, G4, ?_⟩
          cases ee : me ρ4 with
          | ok y ρ5 =>
            simp only [ee] at rr
            intro H5 F5 s5 f5 v G5
            by_cases hl : acc.length < sizeLine
            · rw [if_pos hl] at rr
              obtain ⟨_, _, b3, b4⟩ := fits_back w3' f5
              have G6 : Gd X.K B [] F5 H5 ((.lst acc, .ref D) :: (y, v) :: (slots (wipeE own' ρ5) (wipe σ own') ++ (I0 ++ I))) := by
                refine (G5.drop ((b4.append_right _).cons_cons _)).perm ?_
                exact (List.perm_middle.cons _).trans (List.Perm.swap _ _ _)
              obtain ⟨a, vs, e1, ow, hlen, G7⟩ := G6.open (fun z => nomatch z)
              cases e1
              refine ⟨vs, ow, hlen ▸ hl, wipeE own' ρ5, F5, acc ++ [y], b3, ?_, wipeE_idem, fun z => ?_, rr⟩
              · have hl2 : (acc ++ [y]).length = (vs ++ [v]).length := by simp [hlen]
                have G8 : Gd X.K B [D] F5 H5 ((acc ++ [y]).zip (vs ++ [v]) ++ (slots (wipeE own' ρ5) (wipe σ own') ++ (I0 ++ I))) := by
                  rw [List.zip_append hlen]
                  show Gd X.K B [D] F5 H5 ((acc.zip vs ++ [(y, v)]) ++ (slots (wipeE own' ρ5) (wipe σ own') ++ (I0 ++ I)))
                  rw [List.append_assoc]
                  exact G7
                have own2 : Own X.K (upd H5 D (.lst (vs ++ [v]))) D .lst (vs ++ [v]) := upd_same
                refine ((G8.write own2 fun _ e => by cases e).close own2 hl2).perm ?_
                exact List.perm_middle.symm
              · have z2 := (Bool.and_eq_true_iff.mp z).2
                refine ⟨fun b u e => ?_, fun a o e => (s5 z2).2 a o ((sm4 z).2 a o e)⟩
                rw [upd_ne (ne_of_none e hD)]
                exact (s5 z2).1 b u ((sm4 z).1 b u e)
            · rw [if_neg hl] at rr
              exact rr.elim
          | exc x ρ5 =>
            simp only [ee] at rr
            exact rr.elim
          | bad =>
            simp only [ee] at rr
            exact rr.elim
      | exc x ρ4 =>
        simp only [et] at rr
        exact rr.elim
      | bad =>
        simp only [et] at rr
        exact rr.elim
  · have e : i = ds.length := by omega
    subst e
    refine .inl ⟨S.stop B F' H' _ Gp, ?_⟩
    rw [List.drop_length] at rr
    unfold lcGo at rr
    have fσ : Fits ρ σ ∧ slots ρ σ = slots ρ (wipe σ own') := fits_congr (wipe_length _ _) (fun i d e => by
      rw [← wρ] at e
      exact wipe_out (wipeE_get e).1) fρ
    refine rr H' F' (fun z => ?_) fσ.1 (.ref D) ?_
    · obtain ⟨z1, z2⟩ := Bool.and_eq_true_iff.mp z
      exact ⟨(s1 z1).1.trans (hsm z2).1, fun a o e => (hsm z2).2 a o ((s1 z1).2 a o e)⟩
    · rw [fσ.2]
      refine (Gp.right (I := I0)).perm ?_
      exact .refl _
theorem s_lc {elt tg iter : Expr} {ifs : List Expr} {scope : Scope} {own : List (Str × Nat)} {mi : M (List D)} {g : MG} {mt : M Bool} {me : M D} (hc : X.calm = true) (hN : X.N.Nodup) (hi : PI X tg iter (TIt X B E p1 mi)) (ok : BlkOk X.N X.env.scope scope own)
    (hg : ∀ (s : Shared) (H : Hp) (C : Addr) (cl : List (Str × Addr)) (fp : List Addr), PG (X.blk s H scope (compEnvC scope cl C X.env) fp) tg (TGb X B (own.map (·.2)) g))
    (ht : ∀ (s : Shared) (H : Hp) (C : Addr) (cl : List (Str × Addr)) (fp : List Addr), PTs (X.blk s H scope (compEnvC scope cl C X.env) fp) ifs (Tb X B E0 p2 mt))
    (he : ∀ (s : Shared) (H : Hp) (C : Addr) (cl : List (Str × Addr)) (fp : List Addr), PE (X.blk s H scope (compEnvC scope cl C X.env) fp) elt (T X B E0 pr me)) (hs : ∀ x, foldedSetIterable iter X.env x = pure x := by intro _; rfl) :
    PE X (.ListComp elt [⟨tg, iter, ifs, 0⟩] scope pos) (T X B E (p1 && (p2 && pr)) (mLc (own.map (·.2)) mi g mt me)) := PE.imp (pe_lc hc hN hi ok hg ht he hs) tlc

end
end Sm

namespace Sm
open PySem PySem.Spec PyProof.Rows L2

section
variable {X : Cx} {B : Bs} {E : XK} {Y : Fx} {pr p1 p2 : Bool} {e : Expr} {pos p : Pos} {K : PySem.W.Frag} {F H : Hp} {O O1 O2 : List Addr} {R : List Addr} {I : List It}
/-! ### ints -/
def dI (g : Int → Int → V) : D → D → Option D
  | .a (.int i), .a (.int j) => some (.a (g i j))
  | _, _ => none
theorem Fin.atom {x : V} {Q : VK} (G : Gd X.K B R F H I) (h : Fin X B R F H I (.a x) Q) : Q x H := h x H F (Same.refl H) (fun _ _ h => h) G.atom
theorem rd_I0 {g : Int → Int → V} : Rd2 X (rI0 g) (dI g) := fun B R F H I v1 v2 O1 O2 d1 d2 d Q G r1 r2 e q => by
  unfold dI at e
  split at e
  · rename_i i j
    cases e
    exact ⟨i, j, atom_of r1, atom_of r2, Fin.atom G q⟩
  · cases e
def dIc (c : Int → Int → Bool) (g : Int → Int → V) : D → D → Option D
  | .a (.int i), .a (.int j) => if c i j = true then some (.a (g i j)) else none
  | _, _ => none
theorem rd_I {C : Int → Int → Prop} {c : Int → Int → Bool} {g : Int → Int → V} (hc : ∀ i j, c i j = true → C i j) : Rd2 X (rI C g) (dIc c g) := fun B R F H I v1 v2 O1 O2 d1 d2 d Q G r1 r2 e q => by
  unfold dIc at e
  split at e
  · rename_i i j
    by_cases z : c i j = true
    · rw [if_pos z] at e
      cases e
      exact ⟨i, j, atom_of r1, atom_of r2, hc i j z, Fin.atom G q⟩
    · rw [if_neg z] at e
      cases e
  · cases e
theorem Rd2.or {r r' : R2} {f f' : D → D → Option D} (h : Rd2 X r f) (h' : Rd2 X r' f') : Rd2 X (fun x y H Q => r x y H Q ∨ r' x y H Q) (fun a b => (f a b).or (f' a b)) := fun B R F H I v1 v2 O1 O2 d1 d2 d Q G r1 r2 e q => by
  have e0 : (f d1 d2).or (f' d1 d2) = some d := e
  cases z : f d1 d2 with
  | some d' =>
    rw [z] at e0
    cases e0
    exact .inl (h B R F H I v1 v2 O1 O2 d1 d2 _ Q G r1 r2 z q)
  | none =>
    rw [z] at e0
    exact .inr (h' B R F H I v1 v2 O1 O2 d1 d2 d Q G r1 r2 e0 q)
def cMul (i j : Int) : Bool := (decide (-(2 ^ 64) < i) && decide (i < 2 ^ 64)) || (decide (-(2 ^ 64) < j) && decide (j < 2 ^ 64))
theorem cMul_ok (i j : Int) (h : cMul i j = true) : CMul i j := by
  unfold cMul at h
  simp only [Bool.or_eq_true, Bool.and_eq_true, decide_eq_true_eq] at h
  exact h
def cDivN (_ j : Int) : Bool := decide (j ≠ 0) && decide (j.natAbs < 1073741824)
theorem cDivN_ok (i j : Int) (h : cDivN i j = true) : CDivN i j := by
  unfold cDivN at h
  simp only [Bool.and_eq_true, decide_eq_true_eq] at h
  exact h
def cNz (_ j : Int) : Bool := decide (j ≠ 0)
def dStr2 (c : Str → Str → Bool) (g : Str → Str → V) : D → D → Option D
  | .a (.str i), .a (.str j) => if c i j = true then some (.a (g i j)) else none
  | _, _ => none
theorem rd_S {C : Str → Str → Prop} {c : Str → Str → Bool} {g : Str → Str → V} (hc : ∀ i j, c i j = true → C i j) : Rd2 X (fun x y H Q => ∃ i j, x = .str i ∧ y = .str j ∧ C i j ∧ Q (g i j) H) (dStr2 c g) := fun B R F H I v1 v2 O1 O2 d1 d2 d Q G r1 r2 e q => by
  unfold dStr2 at e
  split at e
  · rename_i i j
    by_cases z : c i j = true
    · rw [if_pos z] at e
      cases e
      exact ⟨i, j, atom_of r1, atom_of r2, hc i j z, Fin.atom G q⟩
    · rw [if_neg z] at e
      cases e
  · cases e
def dS (g : Str → Str → V) : D → D → Option D
  | .a (.str i), .a (.str j) => some (.a (g i j))
  | _, _ => none
theorem rd_S0 {g : Str → Str → V} : Rd2 X (fun x y H Q => ∃ i j, x = .str i ∧ y = .str j ∧ Q (g i j) H) (dS g) := fun B R F H I v1 v2 O1 O2 d1 d2 d Q G r1 r2 e q => by
  unfold dS at e
  split at e
  · rename_i i j
    cases e
    exact ⟨i, j, atom_of r1, atom_of r2, Fin.atom G q⟩
  · cases e
/-! ### equality of plain values -/
def dEq (neg : Bool) : D → D → Option D
  | .a x, .a y => if scal x y = true then some (.bl (if neg then !decide (x = y) else decide (x = y))) else none
  | _, _ => none
theorem rd_eq : Rd2 X rEq (dEq false) := fun B R F H I v1 v2 O1 O2 d1 d2 d Q G r1 r2 e q => by
  unfold dEq at e
  split at e
  · rename_i x y
    by_cases z : scal x y = true
    · rw [if_pos z] at e
      cases e
      rw [atom_of r1, atom_of r2]
      exact ⟨z, Fin.atom G q⟩
    · rw [if_neg z] at e
      cases e
  · cases e
theorem rd_ne : Rd2 X rNe (dEq true) := fun B R F H I v1 v2 O1 O2 d1 d2 d Q G r1 r2 e q => by
  unfold dEq at e
  split at e
  · rename_i x y
    by_cases z : scal x y = true
    · rw [if_pos z] at e
      cases e
      rw [atom_of r1, atom_of r2]
      exact ⟨z, Fin.atom G q⟩
    · rw [if_neg z] at e
      cases e
  · cases e
/-! ### None -/
def dIsN (d : D) : Bool := match un d with
  | .a x => decide (x = .non)
  | _ => false
theorem dIsN_ok {d : D} {v : V} (G : Gd X.K B R F H I) (r : Rep X.K F H d v O) (hd : ∀ d', un d ≠ .sh d') : decide (v = .non) = dIsN d := by
  unfold dIsN
  cases u : un d with
  | a x => rw [r.atom u]
  | n t ds =>
    obtain ⟨a, vs, rfl, _⟩ := r.parts u G.le
    rfl
  | sh d' => exact absurd u (hd d')
theorem un_sh : ∀ (d d' : D), un d ≠ .sh d'
  | .a _, d', h => by unfold un at h; cases h
  | .n _ _, d', h => by unfold un at h; cases h
  | .sh (.a _), d', h => by unfold un at h; cases h
  | .sh (.n _ _), d', h => by unfold un at h; cases h
  | .sh (.sh d), d', h => by
    unfold un at h
    exact un_sh (.sh d) d' h
def mIsN (m : M D) : M D := mb m fun d => mr (.bl (dIsN d))
def mNotN (m : M D) : M D := mb m fun d => mr (.bl (!dIsN d))
theorem s_isN {j pos'} {m : M D} (h : PE X e (TV X B E pr m)) : PE X (.Compare e [.Is] [.Constant .none j pos'] pos) (T X B E pr (mIsN m)) := PE.imp (pe_cmp (pc_isN h) rfl) fun σ H Q ⟨ρ, F, I, f, G, r⟩ => by
  refine ⟨ρ, F, I, f, G, ?_⟩
  refine Run.bind (fun z => z) r sub_refl fun x ρ1 H1 F1 s1 f1 r1 v O rp G1 => ?_
  show Q (.bl (decide (v = .non))) H1
  rw [dIsN_ok G1 rp (un_sh x)]
  exact r1.mr H1 F1 s1 f1 _ G1.atom
theorem s_notN {j pos'} {m : M D} (h : PE X e (TV X B E pr m)) : PE X (.Compare e [.IsNot] [.Constant .none j pos'] pos) (T X B E pr (mNotN m)) := PE.imp (pe_cmp (pc_notN h) rfl) fun σ H Q ⟨ρ, F, I, f, G, r⟩ => by
  refine ⟨ρ, F, I, f, G, ?_⟩
  refine Run.bind (fun z => z) r sub_refl fun x ρ1 H1 F1 s1 f1 r1 v O rp G1 => ?_
  show Q (.bl (!decide (v = .non))) H1
  rw [dIsN_ok G1 rp (un_sh x)]
  exact r1.mr H1 F1 s1 f1 _ G1.atom
def mTest (m : M D) : M Bool := mb m mBl
theorem ttB {t : TE} {m : M D} (h : ∀ σ H Q, T X B E pr m σ H Q → t σ H Q) (σ : L2.St) (H : Hp) (Q : Bool → Hp → Prop) (q : Tb X B E pr (mTest m) σ H Q) : tB t σ H Q := ttest h σ H Q q
theorem t_isN {j pos'} {m : M D} (h : PE X e (TV X B E pr m)) : PT X (.Compare e [.Is] [.Constant .none j pos'] pos) (Tb X B E pr (mTest (mIsN m))) := PT.imp (pt_cmp (pc_isN h) rfl) (ttB fun σ H Q ⟨ρ, F, I, f, G, r⟩ => by
  refine ⟨ρ, F, I, f, G, ?_⟩
  refine Run.bind (fun z => z) r sub_refl fun x ρ1 H1 F1 s1 f1 r1 v O rp G1 => ?_
  show Q (.bl (decide (v = .non))) H1
  rw [dIsN_ok G1 rp (un_sh x)]
  exact r1.mr H1 F1 s1 f1 _ G1.atom)
theorem t_notN {j pos'} {m : M D} (h : PE X e (TV X B E pr m)) : PT X (.Compare e [.IsNot] [.Constant .none j pos'] pos) (Tb X B E pr (mTest (mNotN m))) := PT.imp (pt_cmp (pc_notN h) rfl) (ttB fun σ H Q ⟨ρ, F, I, f, G, r⟩ => by
  refine ⟨ρ, F, I, f, G, ?_⟩
  refine Run.bind (fun z => z) r sub_refl fun x ρ1 H1 F1 s1 f1 r1 v O rp G1 => ?_
  show Q (.bl (!decide (v = .non))) H1
  rw [dIsN_ok G1 rp (un_sh x)]
  exact r1.mr H1 F1 s1 f1 _ G1.atom)
/-! ### len -/
def dLen : List D → Option D
  | [d] => match un d with
    | .a (.str z) => if z.length ≤ sizeLine then some (.int z.length) else none
    | .n .lst ds => some (.int ds.length)
    | .n .tup ds => some (.int ds.length)
    | _ => none
  | _ => none
theorem vws_one {d : D} {vs : List V} (h : Vws K F H [d] vs) : ∃ v O, vs = [v] ∧ Rep K F H d v O := by
  obtain ⟨hl, hk⟩ := h
  match vs, hl with
  | [v], _ =>
    obtain ⟨O, r⟩ := hk (d, v) (by simp)
    exact ⟨v, O, rfl, r⟩
theorem vws_two {d d' : D} {vs : List V} (h : Vws K F H [d, d'] vs) : ∃ v w O O', vs = [v, w] ∧ Rep K F H d v O ∧ Rep K F H d' w O' := by
  obtain ⟨hl, hk⟩ := h
  match vs, hl with
  | [v, w], _ =>
    obtain ⟨O, r⟩ := hk (d, v) (by simp)
    obtain ⟨O', r'⟩ := hk (d', w) (by simp)
    exact ⟨v, w, O, O', rfl, r, r'⟩
theorem rd_len : Rda X (fun xs H Q => ∃ x n, xs = [x] ∧ LenV X.K x H n ∧ Q (.int n) H) dLen := fun B R F H I vs ds d Q G hv e q => by
  unfold dLen at e
  split at e
  · rename_i x
    obtain ⟨v, O, rfl, r⟩ := vws_one hv
    split at e
    · rename_i z u
      split at e
      · rename_i hl
        cases e
        rw [r.atom u]
        exact ⟨_, z.length, rfl, ⟨hl, rfl⟩, Fin.atom G q⟩
      · cases e
    · rename_i ds' u
      cases e
      obtain ⟨a, vs, rfl, h2, hl, _⟩ := r.parts u G.le
      exact ⟨_, ds'.length, rfl, .inl ⟨vs, .inl h2, hl⟩, Fin.atom G q⟩
    · rename_i ds' u
      cases e
      obtain ⟨a, vs, rfl, h2, hl, _⟩ := r.parts u G.le
      exact ⟨_, ds'.length, rfl, .inr ⟨vs, TupAt.sq h2, hl⟩, Fin.atom G q⟩
    · cases e
  · cases e
theorem s_len {a : Expr} {ms : M (List D)} (hg : Gl X "len") (hm : X.mg "len" = none) (ha : PA X [a] (TVa X B E pr ms)) (he : starEach [a] X.env = (false, eval a X.env) :: starEach [] X.env := by rfl) (hpl : (backTo pos (starEach [] X.env)).any (·.1) = false := by rfl) :
    PE X (.Call (.Name "len" p) [a] [] pos) (T X B E pr (mArgs dLen ms)) := PE.imp (pe_callB call_len hg hm boot_len ha (by decide) (by decide) he hpl) (targs rd_len)
def dAbs : List D → Option D
  | [.a (.int i)] => some (.int (if i < 0 then -i else i))
  | _ => none
theorem rd_abs : Rda X (fun xs H Q => ∃ i, xs = [.int i] ∧ Q (.int (if i < 0 then -i else i)) H) dAbs := fun B R F H I vs ds d Q G hv e q => by
  unfold dAbs at e
  split at e
  · cases e
    exact ⟨_, vws1 hv, Fin.atom G q⟩
  · cases e
theorem s_abs {a : Expr} {ms : M (List D)} (hg : Gl X "abs") (hm : X.mg "abs" = none) (ha : PA X [a] (TVa X B E pr ms)) (he : starEach [a] X.env = (false, eval a X.env) :: starEach [] X.env := by rfl) (hpl : (backTo pos (starEach [] X.env)).any (·.1) = false := by rfl) :
    PE X (.Call (.Name "abs" p) [a] [] pos) (T X B E pr (mArgs dAbs ms)) := PE.imp (pe_callB call_abs hg hm (by decide +kernel) ha (by decide) (by decide) he hpl) (targs rd_abs)
def dInt : List D → Option D
  | [.a (.int i)] => some (.int i)
  | [.a (.bl k)] => some (.int (if k then 1 else 0))
  | _ => none
theorem rd_int : Rda X (fun xs H Q => (∃ i, xs = [.int i] ∧ Q (.int i) H) ∨ ∃ k, xs = [.bl k] ∧ Q (.int (if k then 1 else 0)) H) dInt := fun B R F H I vs ds d Q G hv e q => by
  unfold dInt at e
  split at e
  · cases e
    exact .inl ⟨_, vws1 hv, Fin.atom G q⟩
  · cases e
    exact .inr ⟨_, vws1 hv, Fin.atom G q⟩
  · cases e
theorem s_intC {a : Expr} {ms : M (List D)} (hg : Gl X "int") (hm : X.mg "int" = none) (ha : PA X [a] (TVa X B E pr ms)) (he : starEach [a] X.env = (false, eval a X.env) :: starEach [] X.env := by rfl) (hpl : (backTo pos (starEach [] X.env)).any (·.1) = false := by rfl) :
    PE X (.Call (.Name "int" p) [a] [] pos) (T X B E pr (mArgs dInt ms)) := PE.imp (pe_callTy call_int1 hg hm (by decide +kernel) ha (by decide) (by decide) he hpl) (targs rd_int)
/-! ### subscripts -/
def dIx (d k : D) : Option D := match un d, k with
  | .n .lst ds, .a (.int i) => (atI ds i).bind fun c => if fre c = true then some c else none
  | .n .tup ds, .a (.int i) => (atI ds i).bind fun c => if fre c = true then some c else none
  | .a (.str z), .a (.int i) => if z.length ≤ sizeLine then (atI z.cps.toList i).map fun c => .str ⟨#[c]⟩ else none
  | _, _ => none
theorem atI_zip {ds : List D} {vs : List V} {i : Int} {c : D} (hl : ds.length = vs.length) (e : atI ds i = some c) : ∃ v, atI vs i = some v ∧ (c, v) ∈ ds.zip vs := by
  unfold atI at *
  rw [← hl]
  cases z : ixN ds.length i with
  | none => rw [z] at e; cases e
  | some j =>
    rw [z] at e
    exact zip_get hl e
theorem rd_ix : Rd2 X (rIx X.K) dIx := fun B R F H I v1 v2 O1 O2 d1 d2 d Q G r1 r2 e q => by
  unfold dIx at e
  split at e
  · rename_i ds i u
    obtain ⟨a, vs, rfl, h2, hl, hk⟩ := r1.parts u G.le
    cases ea : atI ds i with
    | none => rw [ea] at e; cases e
    | some c =>
      rw [ea] at e
      obtain ⟨v, ev, hm⟩ := atI_zip hl ea
      have e' : (if fre c = true then some c else none) = some d := e
      by_cases hf : fre c = true
      · rw [if_pos hf] at e'
        cases e'
        obtain ⟨O', rc⟩ := hk _ hm
        exact .inl ⟨a, vs, i, v, rfl, atom_of r2, .inl h2, ev, q v H F (Same.refl H) (fun _ _ h => h) (G.add (rc.addF hf))⟩
      · rw [if_neg hf] at e'
        cases e'
  · rename_i ds i u
    obtain ⟨a, vs, rfl, h2, hl, hk⟩ := r1.parts u G.le
    cases ea : atI ds i with
    | none => rw [ea] at e; cases e
    | some c =>
      rw [ea] at e
      obtain ⟨v, ev, hm⟩ := atI_zip hl ea
      have e' : (if fre c = true then some c else none) = some d := e
      by_cases hf : fre c = true
      · rw [if_pos hf] at e'
        cases e'
        obtain ⟨O', rc⟩ := hk _ hm
        exact .inr (.inl ⟨a, vs, i, v, rfl, atom_of r2, TupAt.sq h2, ev, q v H F (Same.refl H) (fun _ _ h => h) (G.add (rc.addF hf))⟩)
      · rw [if_neg hf] at e'
        cases e'
  · rename_i z i u
    by_cases hz : z.length ≤ sizeLine
    · rw [if_pos hz] at e
      cases ea : atI z.cps.toList i with
      | none => rw [ea] at e; cases e
      | some c =>
        rw [ea] at e
        cases e
        exact .inr (.inr ⟨z, i, c, r1.atom u, atom_of r2, hz, ea, Fin.atom G q⟩)
    · rw [if_neg hz] at e
      cases e
  · cases e
theorem s_ix {a b : Expr} {m1 m2 : M D} (ha : PE X a (T X B E p1 m1)) (hb : PE X b (TV X B E p2 m2)) (hs : PlainIx b := by exact fun _ _ => rfl) : PE X (.Subscript a b pos) (T X B E (p1 && p2) (mBin dIx m1 m2)) := PE.imp (pe_ix ix_seq ha hb hs) (tbin rd_ix)
theorem s_ixV {a b : Expr} {m1 m2 : M D} (ha : PE X a (TV X B E p1 m1)) (hb : PE X b (TV X B E true m2)) (hs : PlainIx b := by exact fun _ _ => rfl) : PE X (.Subscript a b pos) (T X B E p1 (mBin dIx m1 m2)) := PE.imp (pe_ix ix_seq ha hb hs) (tbinV rd_ix)
end
end Sm

namespace Sm
open PySem PySem.Spec PyProof.Rows L2

section
variable {X : Cx} {B : Bs} {E : XK} {Y : Fx} {pr p1 p2 : Bool} {e a b c : Expr} {pos p : Pos} {K : PySem.W.Frag} {F H : Hp} {O O1 O2 : List Addr} {R : List Addr} {I : List It}
/-! ### + -/
def rCatR : R2 := fun x y H Q => ∃ l b xs zs, x = .ref l ∧ y = .ref b ∧ Rd H l (.lst xs) ∧ Rd H b (.lst zs) ∧ xs.length + zs.length ≤ sizeLine ∧ ∀ p, H p = none → Q (.ref p) (upd H p (.lst (xs ++ zs)))
theorem lst_rd {pins : List (Addr × Obj)} {σ : L2.St} {H : Hp} {s : Shared} {l : Addr} {xs : List V} (I : Inv X pins σ H s) (h : Rd H l (.lst xs)) : xs.length ≤ sizeLine ∧ ∃ (its : List Value) (n : Nat), Vals xs its ∧ xs.length = its.length ∧ s.heap.get? l = some { cls := .type "list", data := .seq its.toArray n } := by
  obtain ⟨z, its, n, r, e⟩ := h.ok I.hok
  exact ⟨z, its, n, r, r.length, e⟩
theorem op_catR : OpR X (binaryOp .Add) rCatR := by
  intro pins s σ H x y v u Q I rx ry h
  obtain ⟨l, b, xs, zs, rfl, rfl, hH, hB, hz, q⟩ := h
  cases rx
  cases ry
  obtain ⟨z, its, n, r, hl, e⟩ := lst_rd I hH
  obtain ⟨z2, its2, n2, r2, hl2, e2⟩ := lst_rd I hB
  refine PySem.P.add_list e e2 ?_ (by rw [List.size_toArray, List.size_toArray]; omega)
  have ea : its.toArray ++ its2.toArray = (its ++ its2).toArray := by simp
  rw [ea]
  exact ⟨.ref _, _, I.lnew (t' := s.toks) (r.append r2) (by rw [List.length_append]; omega), rfl, q _ I.fresh⟩
theorem fres_all {ds : List D} {vs : List V} (hk : ∀ p ∈ ds.zip vs, ∃ O', Rep K F H p.1 p.2 O') (hf : fres ds = true) (hl : ds.length = vs.length) : Sm.Its K F H (ds.zip vs) [] := by
  induction ds generalizing vs with
  | nil => rfl
  | cons d ds ih =>
    cases vs with
    | nil => cases hl
    | cons v vs =>
      unfold fres at hf
      obtain ⟨h1, h2⟩ := Bool.and_eq_true_iff.mp hf
      obtain ⟨O', r⟩ := hk (d, v) List.mem_cons_self
      exact ⟨[], [], rfl, r.addF h1, ih (fun p hp => hk p (List.mem_cons_of_mem _ hp)) h2 (Nat.succ.inj hl)⟩
theorem Gd.adds {B : Bs} {J : List It} (G : Gd K B R F H I) (t : Sm.Its K F H J []) : Gd K B R F H (J ++ I) := by
  obtain ⟨O, t', nd, k⟩ := G.ex
  exact ⟨G.sub, G.tup, ⟨O, Its.app.mpr ⟨[], O, rfl, t, t'⟩, nd, k⟩, G.res, G.base, G.new, G.keep⟩
/-- a new list of items that are looked at -/
theorem Fin.lst {ds : List D} {vs : List V} {Q : VK} {p : Addr} (G : Gd X.K B R F H I) (t : Sm.Its X.K F H (ds.zip vs) []) (hl : ds.length = vs.length) (hp : H p = none) (q : Fin X B R F H I (.lst ds) Q) : Q (.ref p) (upd H p (.lst vs)) :=
  q (.ref p) _ F (Same.alloc hp) (fun _ _ h => h) (Gd.newLst (G.adds t) hl hp)
theorem Fin.tup {ds : List D} {vs : List V} {Q : VK} {p : Addr} (G : Gd X.K B R F H I) (t : Sm.Its X.K F H (ds.zip vs) []) (hl : ds.length = vs.length) (hp : H p = none) (q : Fin X B R F H I (.tup ds) Q) : Q (.ref p) (upd H p (.tup vs)) := by
  obtain ⟨F', sb, G'⟩ := (G.adds t).allocT hl hp
  exact q (.ref p) _ F' (Same.alloc hp) sb G'
def dCat (d1 d2 : D) : Option D := match un d1, un d2 with
  | .n .lst xs, .n .lst ys => if xs.length + ys.length ≤ sizeLine ∧ fres xs = true ∧ fres ys = true then some (.lst (xs ++ ys)) else none
  | _, _ => none
theorem Its.append {K : PySem.W.Frag} {F H : Hp} {I J : List It} (t : Sm.Its K F H I []) (t' : Sm.Its K F H J []) : Sm.Its K F H (I ++ J) [] := Sm.Its.app.mpr ⟨[], [], rfl, t, t'⟩
theorem rd_cat : Rd2 X rCatR dCat := fun B R F H I v1 v2 O1 O2 d1 d2 d Q G r1 r2 e q => by
  unfold dCat at e
  split at e
  · rename_i xs ys u1 u2
    by_cases c : xs.length + ys.length ≤ sizeLine ∧ fres xs = true ∧ fres ys = true
    · rw [if_pos c] at e
      cases e
      obtain ⟨a, vs, rfl, h2, hl, hk⟩ := r1.parts u1 G.le
      obtain ⟨a', vs', rfl, h2', hl', hk'⟩ := r2.parts u2 G.le
      refine ⟨a, a', vs, vs', rfl, rfl, h2, h2', by rw [← hl, ← hl']; exact c.1, fun p hp => ?_⟩
      refine Fin.lst G ?_ (by simp [hl, hl']) hp q
      rw [List.zip_append hl]
      exact Sm.Its.append (fres_all hk c.2.1 hl) (fres_all hk' c.2.2 hl')
    · rw [if_neg c] at e
      cases e
  · cases e
def dCatS : D → D → Option D := dStr2 (fun i j => decide (i.length + j.length ≤ sizeLine)) fun i j => .str (i ++ j)
theorem rd_catS : Rd2 X (fun x y H Q => ∃ i j, x = .str i ∧ y = .str j ∧ i.length + j.length ≤ sizeLine ∧ Q (.str (i ++ j)) H) dCatS := rd_S (C := fun i j => i.length + j.length ≤ sizeLine) (g := fun i j => .str (i ++ j)) fun i j h => of_decide_eq_true h
def dAdd (a b : D) : Option D := (dI (fun i j => .int (i + j)) a b).or ((dCatS a b).or (dCat a b))
theorem op_addA : OpR X (binaryOp .Add) (fun x y H Q => rI0 (fun i j => .int (i + j)) x y H Q ∨ (∃ i j, x = .str i ∧ y = .str j ∧ i.length + j.length ≤ sizeLine ∧ Q (.str (i ++ j)) H) ∨ rCatR x y H Q) := op_add.or (op_add_str.or op_catR)
theorem rd_add : Rd2 X (fun x y H Q => rI0 (fun i j => .int (i + j)) x y H Q ∨ (∃ i j, x = .str i ∧ y = .str j ∧ i.length + j.length ≤ sizeLine ∧ Q (.str (i ++ j)) H) ∨ rCatR x y H Q) dAdd := rd_I0.or (rd_catS.or rd_cat)
/-! ### in -/
def dInS : D → D → Option D
  | .a (.str x), .a (.str z) => match x.cps.toList with
    | [c] => some (.bl (decide (c ∈ z.cps.toList)))
    | _ => none
  | _, _ => none
theorem rd_inS : Rd2 X (fun x y H Q => ∃ (c : Nat) (z : Str), x = .str ⟨#[c]⟩ ∧ y = .str z ∧ Q (.bl (decide (c ∈ z.cps.toList))) H) dInS := fun B R F H I v1 v2 O1 O2 d1 d2 d Q G r1 r2 e q => by
  unfold dInS at e
  split at e
  · rename_i x z
    split at e
    · rename_i c ec
      cases e
      refine ⟨c, z, ?_, atom_of r2, Fin.atom G q⟩
      rw [atom_of r1]
      obtain ⟨cps⟩ := x
      have : cps = #[c] := by
        apply Array.toList_inj.mp
        exact ec
      rw [this]
    · cases e
  · cases e
def atoms : List D → Option (List V)
  | [] => some []
  | .a x :: ds => (atoms ds).map (x :: ·)
  | _ :: _ => none
theorem atoms_ok : ∀ {ds : List D} {vs xs : List V}, ds.length = vs.length → (∀ p ∈ ds.zip vs, ∃ O', Rep K F H p.1 p.2 O') → atoms ds = some xs → vs = xs
  | [], [], xs, _, _, e => by
    cases e
    rfl
  | [], _ :: _, xs, hl, _, _ => by cases hl
  | d :: ds, [], xs, hl, _, _ => by cases hl
  | d :: ds, v :: vs, xs, hl, hk, e => by
    cases d with
    | a x =>
      have e' : (atoms ds).map (x :: ·) = some xs := e
      cases ea : atoms ds with
      | none => rw [ea] at e'; cases e'
      | some ys =>
        rw [ea] at e'
        cases e'
        obtain ⟨O', r⟩ := hk (.a x, v) List.mem_cons_self
        have er := atom_of r
        simp only at er
        rw [atoms_ok (Nat.succ.inj hl) (fun p hp => hk p (List.mem_cons_of_mem _ hp)) ea, er]
    | n t es => cases e
    | sh d' => cases e
def dInL (neg : Bool) (d1 d2 : D) : Option D := match d1, un d2 with
  | .a x, .n .lst ds => (atoms ds).bind fun xs => if flatV x && xs.all flatV then some (.bl (if neg then !inV x xs else inV x xs)) else none
  | .a x, .n .tup ds => (atoms ds).bind fun xs => if flatV x && xs.all flatV then some (.bl (if neg then !inV x xs else inV x xs)) else none
  | _, _ => none
theorem rd_inL {neg : Bool} : Rd2 X (rIn X.K neg) (dInL neg) := fun B R F H I v1 v2 O1 O2 d1 d2 d Q G r1 r2 e q => by
  unfold dInL at e
  split at e
  · rename_i x ds u
    obtain ⟨a, vs, rfl, h2, hl, hk⟩ := r2.parts u G.le
    cases ea : atoms ds with
    | none => rw [ea] at e; cases e
    | some xs =>
      rw [ea] at e
      have e' : (if (flatV x && xs.all flatV) = true then some (D.bl (if neg = true then !inV x xs else inV x xs)) else none) = some d := e
      by_cases c : (flatV x && xs.all flatV) = true
      · rw [if_pos c] at e'
        cases e'
        obtain ⟨c1, c2⟩ := Bool.and_eq_true_iff.mp c
        have := atoms_ok hl hk ea
        subst this
        rw [atom_of r1]
        exact ⟨a, vs, rfl, .inl (.inl h2), c1, c2, Fin.atom G q⟩
      · rw [if_neg c] at e'
        cases e'
  · rename_i x ds u
    obtain ⟨a, vs, rfl, h2, hl, hk⟩ := r2.parts u G.le
    cases ea : atoms ds with
    | none => rw [ea] at e; cases e
    | some xs =>
      rw [ea] at e
      have e' : (if (flatV x && xs.all flatV) = true then some (D.bl (if neg = true then !inV x xs else inV x xs)) else none) = some d := e
      by_cases c : (flatV x && xs.all flatV) = true
      · rw [if_pos c] at e'
        cases e'
        obtain ⟨c1, c2⟩ := Bool.and_eq_true_iff.mp c
        have := atoms_ok hl hk ea
        subst this
        rw [atom_of r1]
        exact ⟨a, vs, rfl, .inr (TupAt.sq h2), c1, c2, Fin.atom G q⟩
      · rw [if_neg c] at e'
        cases e'
  · cases e
/-! ### a chain of two comparisons -/
def mChain (f g : D → D → Option D) (m1 m2 m3 : M D) : M D := mb m1 fun x => mb m2 fun y => mb (mo (f x y)) fun z => mb (mBl z) fun k => if k = true then mb m3 fun w => mo (g y w) else mr (.bl false)
/-- a run from a later state -/
theorem Run.bind2 {α β : Type} {σ : L2.St} {F F1 H H1 : Hp} {I I' : List It} {r : Res α} {f : α → M β} {k : β → Env → Hp → Hp → Prop} {k1 : α → Env → Hp → Hp → Prop}
    (h : Run X B E pr σ F H I (r.bind f) k) (sub : ∀ {ρ' : Env}, (slots ρ' σ ++ I).Sublist (slots ρ' σ ++ I'))
    (step : ∀ x ρ1 H2 F2, (p2 = true → Same H1 H2 ∧ Sub F1 F2) → Fits ρ1 σ → Run X B E pr σ F H I (f x ρ1) k → k1 x ρ1 F2 H2) : Run X B E p2 σ F1 H1 I' r k1 := by
  cases e : r with
  | ok x ρ1 =>
    rw [e] at h
    exact fun H2 F2 s2 f2 => step x ρ1 H2 F2 s2 f2 h
  | exc x ρ1 =>
    rw [e] at h
    intro cls dd H' F' f1 G x1
    exact h cls dd H' F' f1 (G.drop sub) x1
  | bad =>
    rw [e] at h
    exact h
theorem tr2 {F F1 F2 H H1 H2 : Hp} (a : Same H H1 ∧ Sub F F1) (b : Same H1 H2 ∧ Sub F1 F2) : Same H H2 ∧ Sub F F2 := ⟨a.1.trans b.1, fun x o e => b.2 x o (a.2 x o e)⟩
theorem tchain {r r' : R2} {f g : D → D → Option D} (h : Rd2 X r f) (h' : Rd2 X r' g) {m1 m2 m3 : M D} (σ : L2.St) (H : Hp) (Q : VK) (q : T X B E true (mChain f g m1 m2 m3) σ H Q) : tChain r r' (T X B E true m1) (T X B E true m2) (TV X B E true m3) σ H Q := by
  obtain ⟨ρ, F, I, f0, G, r0⟩ := q
  refine ⟨ρ, F, I, f0, G, ?_⟩
  refine Run.bind (fun z => z) r0 sub_refl fun x ρ1 H1 F1 s1 f1 r1 v G1 => ?_
  refine ⟨ρ1, F1, (x, v) :: I, f1, G1.perm List.perm_middle.symm, ?_⟩
  refine Run.bind2 r1 (fun {ρ'} => sub_cons (J := [(x, v)])) fun y ρ2 H2 F2 s2 f2 r3 w G2 => ?_
  have G3 : Gd X.K B [] F2 H2 ((x, v) :: (y, w) :: (slots ρ2 σ ++ I)) := (G2.perm ((List.perm_middle.cons _).trans (List.Perm.swap _ _ _)))
  obtain ⟨O1, rp1⟩ := G3.rep
  obtain ⟨O2, rp2⟩ := G3.tail.rep
  cases ef : f x y with
  | none =>
    unfold mb mo at r3
    rw [ef] at r3
    exact r3.elim
  | some z =>
    unfold mb at r3
    rw [ef] at r3
    refine h _ _ _ _ _ v w O1 O2 x y z _ G3.tail rp1 rp2 ef fun u H' F' s' sb G' => ?_
    have sm : Same H H' ∧ Sub F F' := tr2 (s1 rfl) (tr2 (s2 rfl) ⟨s', sb⟩)
    have no : mBl z ρ2 = .bad → ∃ k, u = .bl k ∧ (if k = true then TV X B E true m3 σ H' fun w' H4 => r' w w' H4 Q else Q (.bl false) H') := fun eb => by
      have r4 : Run X B E true σ F H I ((mBl z ρ2).bind _) _ := r3
      rw [eb] at r4
      exact r4.elim
    have go : ∀ k, z = .bl k → ∃ k, u = .bl k ∧ (if k = true then TV X B E true m3 σ H' fun w' H4 => r' w w' H4 Q else Q (.bl false) H') := fun k ez => by
      subst ez
      have eu : u = V.bl k := by
        have q := G'.val0
        unfold Val at q
        exact q
      refine ⟨k, eu, ?_⟩
      cases k with
      | true =>
        rw [if_pos rfl]
        have r5 : Run X B E true σ F H I ((m3 ρ2).bind fun w => mo (g y w)) _ := r3
        refine ⟨ρ2, F', (y, w) :: I, f2, G'.tail.perm List.perm_middle.symm, ?_⟩
        refine Run.bind2 r5 (fun {ρ'} => sub_cons (J := [(y, w)])) fun w' ρ3 H3 F3 s3 f3 r8 u' O3 rp3 G5 => ?_
        obtain ⟨d, ed, k⟩ := r8.mo
        have G6 : Gd X.K B [] F3 H3 ((y, w) :: (slots ρ3 σ ++ I)) := G5.perm List.perm_middle
        obtain ⟨O4, rp4⟩ := G6.rep
        exact h' _ _ _ _ _ w u' O4 O3 y w' d Q G6.tail rp4 rp3 ed fun v6 H6 F6 s6 sb6 G7 => k H6 F6 (fun _ => tr2 sm (tr2 (s3 rfl) ⟨s6, sb6⟩)) f3 v6 G7
      | false =>
        rw [if_neg Bool.false_ne_true]
        have r5 : Run X B E true σ F H I (mr (D.bl false) ρ2) _ := r3
        exact r5.mr H' F' (fun _ => sm) f2 _ (G'.tail.tail.atom)
    cases z with
    | a y => cases y with
      | bl b => exact go b rfl
      | _ => exact no rfl
    | n t ds => exact no rfl
    | sh d => exact no rfl
theorem s_chain {op op' : CmpOp} {r r' : R2} {f g : D → D → Option D} {m1 m2 m3 : M D} (ho : OpR X (compareOp op) r) (ho' : OpR X (compareOp op') r') (h : Rd2 X r f) (h' : Rd2 X r' g) (ha : PE X a (T X B E true m1)) (hb : PE X b (T X B E true m2)) (hc : PE X c (TV X B E true m3))
    (hm : lastMarks [op, op'] [b, c] = false := by with_unfolding_all rfl) : PE X (.Compare a [op, op'] [b, c] pos) (T X B E true (mChain f g m1 m2 m3)) := PE.imp (pe_chain ho ho' ha hb hc hm) (tchain h h')
theorem t_chain {op op' : CmpOp} {r r' : R2} {f g : D → D → Option D} {m1 m2 m3 : M D} (ho : OpR X (compareOp op) r) (ho' : OpR X (compareOp op') r') (h : Rd2 X r f) (h' : Rd2 X r' g) (ha : PE X a (T X B E true m1)) (hb : PE X b (T X B E true m2)) (hc : PE X c (TV X B E true m3))
    (hm : lastMarks [op, op'] [b, c] = false := by with_unfolding_all rfl) : PT X (.Compare a [op, op'] [b, c] pos) (Tb X B E true (mTest (mChain f g m1 m2 m3))) := PT.imp (pt_chain ho ho' ha hb hc hm) (ttest (tchain h h'))
end
end Sm

namespace Sm
open PySem PySem.Spec PyProof.Rows L2

section
variable {X : Cx} {B : Bs} {E : XK} {pr p1 p2 : Bool} {a b c e : Expr} {pos p : Pos} {rest : List Expr} {σ : L2.St} {F H : Hp} {I : List It} {K : PySem.W.Frag} {R : List Addr}

/-! ### and, or as values -/
def mAndV (m1 m2 : M D) : M D := mb (mb m1 mBl) fun k => if k = true then m2 else mr (.bl false)
def mOrV (m1 m2 : M D) : M D := mb (mb m1 mBl) fun k => if k = true then mr (.bl true) else m2
theorem tvB {m : M D} {k : Bool → Hp → Prop} (σ : L2.St) (H : Hp) (q : Tb X B E p1 (mb m mBl) σ H k) : T X B E p1 m σ H (fun x H' => ∃ b, x = .bl b ∧ k b H') := ttest (t := T X B E p1 m) (m := m) (pr := p1) (fun _ _ _ h => h) σ H k q
theorem s_one {op : BoolOp} {m : M D} (h : PE X a (T X B E pr m)) : PE X (.BoolOp op [a] pos) (T X B E pr m) := pe_one h
theorem s_and {m1 m2 : M D} (ha : PE X a (T X B E p1 m1)) (hb : PE X (.BoolOp .And (b :: rest) pos) (T X B E p2 m2)) : PE X (.BoolOp .And (a :: b :: rest) pos) (T X B E (p1 && p2) (mAndV m1 m2)) := PE.imp (pe_and ha hb) fun σ H Q ⟨ρ, F, I, f0, G, r0⟩ => by
  refine tvB σ H ⟨ρ, F, I, f0, G, ?_⟩
  refine Run.bind (fun z => (Bool.and_eq_true_iff.mp z).1) r0 sub_refl fun x ρ1 H1 F1 s1 f1 r1 G1 => ?_
  cases x with
  | true =>
    rw [if_pos rfl]
    exact ⟨ρ1, F1, I, f1, G1, Run.next s1 (show Run X B E (p1 && p2) σ F H I (m2 ρ1) _ from r1) fun _ _ _ _ _ k => k⟩
  | false =>
    rw [if_neg Bool.false_ne_true]
    exact (Run.mr (x := D.bl false) r1) H1 F1 (fun z => s1 (Bool.and_eq_true_iff.mp z).1) f1 _ G1.atom
theorem s_or {m1 m2 : M D} (ha : PE X a (T X B E p1 m1)) (hb : PE X (.BoolOp .Or (b :: rest) pos) (T X B E p2 m2)) : PE X (.BoolOp .Or (a :: b :: rest) pos) (T X B E (p1 && p2) (mOrV m1 m2)) := PE.imp (pe_or ha hb) fun σ H Q ⟨ρ, F, I, f0, G, r0⟩ => by
  refine tvB σ H ⟨ρ, F, I, f0, G, ?_⟩
  refine Run.bind (fun z => (Bool.and_eq_true_iff.mp z).1) r0 sub_refl fun x ρ1 H1 F1 s1 f1 r1 G1 => ?_
  cases x with
  | true =>
    rw [if_pos rfl]
    exact (Run.mr (x := D.bl true) r1) H1 F1 (fun z => s1 (Bool.and_eq_true_iff.mp z).1) f1 _ G1.atom
  | false =>
    rw [if_neg Bool.false_ne_true]
    exact ⟨ρ1, F1, I, f1, G1, Run.next s1 (show Run X B E (p1 && p2) σ F H I (m2 ρ1) _ from r1) fun _ _ _ _ _ k => k⟩
/-- a test as a value -/
def mBv (m : M Bool) : M D := mb m fun k => mr (.bl k)
theorem t_val {m : M D} (h : PE X a (T X B E pr m)) (he : ∀ whole, isTrue a X.env whole = (do let v ← whole; standAt a.pos; holding [v] (truthy v)) := by intro _; rfl) : PT X a (Tb X B E pr (mb m mBl)) := PT.imp (pt_val h he) fun σ H Q q => ttest (t := T X B E pr m) (fun _ _ _ h => h) σ H Q q

/-! ### what is never reached -/
def mDead {α : Type} : M α := fun _ => .bad
def mDeadS : MS := fun _ => .bad
theorem s_dead : PE X e (T X B E pr mDead) := ⟨fun pins s σ H Q I h => by
  obtain ⟨ρ, F, J, f, G, r⟩ := h
  exact r.elim⟩
theorem v_dead : PE X e (TV X B E pr mDead) := ⟨fun pins s σ H Q I h => by
  obtain ⟨ρ, F, J, f, G, r⟩ := h
  exact r.elim⟩
theorem t_dead : PT X e (Tb X B E pr mDead) := ⟨fun pins s σ H Q I h => by
  obtain ⟨ρ, F, J, f, G, r⟩ := h
  exact r.elim⟩
theorem c_dead {Y : Fx} {st : Stmt} : PS X st (TSt X B Y E mDeadS) := ⟨fun pins s σ H Q I h => by
  obtain ⟨ρ, F, J, ok, f, G, r⟩ := h
  exact r.elim⟩
theorem b_dead {Y : Fx} {st : List Stmt} : PSs X st (TSt X B Y E mDeadS) := ⟨fun pins s σ H Q I h => by
  obtain ⟨ρ, F, J, ok, f, G, r⟩ := h
  exact r.elim⟩

/-! ### order, of ints and texts -/
def dLt (a b : D) : Option D := (dI (fun i j => .bl (decide (i < j))) a b).or (dS (fun i j => .bl (decide (i.cps.toList < j.cps.toList))) a b)
def dLe (a b : D) : Option D := (dI (fun i j => .bl (decide (i ≤ j))) a b).or (dS (fun i j => .bl (!decide (j.cps.toList < i.cps.toList))) a b)
def dGt (a b : D) : Option D := (dI (fun i j => .bl (decide (j < i))) a b).or (dS (fun i j => .bl (decide (j.cps.toList < i.cps.toList))) a b)
def dGe (a b : D) : Option D := (dI (fun i j => .bl (decide (j ≤ i))) a b).or (dS (fun i j => .bl (!decide (i.cps.toList < j.cps.toList))) a b)
def rO (f : Int → Int → V) (g : Str → Str → V) : R2 := fun x y H Q => rI0 f x y H Q ∨ ∃ i j, x = .str i ∧ y = .str j ∧ Q (g i j) H
theorem op_ltA : OpR X (compareOp .Lt) (rO (fun i j => .bl (decide (i < j))) fun i j => .bl (decide (i.cps.toList < j.cps.toList))) := op_lt.or op_lt_str
theorem op_leA : OpR X (compareOp .LtE) (rO (fun i j => .bl (decide (i ≤ j))) fun i j => .bl (!decide (j.cps.toList < i.cps.toList))) := op_le.or op_le_str
theorem op_gtA : OpR X (compareOp .Gt) (rO (fun i j => .bl (decide (j < i))) fun i j => .bl (decide (j.cps.toList < i.cps.toList))) := op_gt.or op_gt_str
theorem op_geA : OpR X (compareOp .GtE) (rO (fun i j => .bl (decide (j ≤ i))) fun i j => .bl (!decide (i.cps.toList < j.cps.toList))) := op_ge.or op_ge_str
theorem rd_lt : Rd2 X (rO (fun i j => .bl (decide (i < j))) fun i j => .bl (decide (i.cps.toList < j.cps.toList))) dLt := rd_I0.or rd_S0
theorem rd_le : Rd2 X (rO (fun i j => .bl (decide (i ≤ j))) fun i j => .bl (!decide (j.cps.toList < i.cps.toList))) dLe := rd_I0.or rd_S0
theorem rd_gt : Rd2 X (rO (fun i j => .bl (decide (j < i))) fun i j => .bl (decide (j.cps.toList < i.cps.toList))) dGt := rd_I0.or rd_S0
theorem rd_ge : Rd2 X (rO (fun i j => .bl (decide (j ≤ i))) fun i j => .bl (!decide (i.cps.toList < j.cps.toList))) dGe := rd_I0.or rd_S0

/-! ### isinstance -/
/-- the name of a value's built-in type -/
def tyN (d : D) : Option String := match un d with
  | .a .non => some "NoneType"
  | .a (.bl _) => some "bool"
  | .a (.int _) => some "int"
  | .a (.str _) => some "str"
  | .n .lst _ => some "list"
  | .n .tup _ => some "tuple"
  | .n (.dk _) _ => some "dict"
  | _ => none
def isB (t n : String) : Bool := t == n || (t == "bool" && n == "int")
def tyNs : List String := ["NoneType", "bool", "int", "str", "list", "tuple", "dict"]
theorem isB_ok : (tyNs.all fun t => tyNs.all fun n => decide (kitB t n = some (isB t n))) = true := by decide +kernel
theorem tyN_in {d : D} {t : String} (h : tyN d = some t) : t ∈ tyNs := by
  unfold tyN at h
  split at h <;> first | (cases h; simp [tyNs]; done) | cases h
theorem ty_ok {B : Bs} {d : D} {t : String} {v : V} {O : List Addr} (G : Gd K B R F H I) (rp : Rep K F H d v O) (h : tyN d = some t) : TyX K H v (.type t) := by
  unfold tyN at h
  cases u : un d with
  | a x =>
    rw [u] at h
    have ev := rp.atom u
    subst ev
    cases v with
    | non => cases h; exact .base .non
    | bl k => cases h; exact .base (.bl k)
    | int k => cases h; exact .base (.int k)
    | str k => cases h; exact .base (.str k)
    | byt k => cases h
    | flt k => cases h
    | ref k => cases h
    | ty k => cases h
  | n tg ds =>
    rw [u] at h
    obtain ⟨a, vs, rfl, h2, hl, _⟩ := rp.parts u G.le
    cases tg with
    | tup =>
      cases h
      rcases (show TupAt K H a vs from h2) with h2 | ⟨o, its, n, h2, h3, _⟩
      · exact .base (.tup h2)
      · exact .kTuple h2 h3
    | lst =>
      cases h
      rcases (show Rd H a (.lst vs) from h2) with h2 | ⟨o, h2⟩
      · exact .base (.lst h2)
      · exact .base (.frz h2)
    | kl => cases h
    | dk ks =>
      cases h
      obtain ⟨_, _, h2⟩ := (show _ ∧ _ ∧ Rd H a (.dK (ks.zip vs)) from h2)
      rcases h2 with h2 | ⟨o, h2⟩
      · exact .base (.dK h2)
      · exact .fDict h2
    | dt ks => cases h
    | ins C fs => cases h
  | sh d' => rw [u] at h; cases h
def dIsi : List D → Option D
  | [d, .a (.ty n)] => if tyNs.contains n = true then (tyN d).map fun t => .bl (isB t n) else none
  | _ => none
theorem rd_isi : Rda X (rIsi X.K) dIsi := fun B R F H I vs ds d Q G hv e q => by
  unfold dIsi at e
  split at e
  · rename_i d1 n
    by_cases hn : tyNs.contains n = true
    · rw [if_pos hn] at e
      obtain ⟨t, et, e⟩ := Option.map_eq_some_iff.mp e
      subst e
      obtain ⟨v, w, O, O', rfl, r1, r2⟩ := vws_two hv
      have ew : w = .ty n := by
        unfold Rep at r2
        exact r2.1
      subst ew
      refine ⟨v, .ty n, .type t, .type n, isB t n, rfl, .ty n, ty_ok G r1 et, kit_ty ?_, Fin.atom G q⟩
      have h1 := List.all_eq_true.mp isB_ok t (tyN_in et)
      exact of_decide_eq_true (List.all_eq_true.mp h1 n (by simpa using hn))
    · rw [if_neg hn] at e
      cases e
  · cases e
theorem s_ty {n : String} {x : Str} (hg : Gl X x) (hm : X.mg x = none) (hb : bootBuiltins x = some (.type n)) (hn : x ≠ "__name__" := by decide) (hd : (x == ("__debug__" : Str)) = false := by decide) : PE X (.Name x pos) (T X B E true (mr (.a (.ty n)))) :=
  s_const (pe_bltn hg hm hb rfl hn hd)
theorem s_isi {ms : M (List D)} (hg : Gl X "isinstance") (hm : X.mg "isinstance" = none) (ha : PA X [a, b] (TVa X B E pr ms)) (he : starEach [a, b] X.env = (false, eval a X.env) :: starEach [b] X.env := by rfl) (hpl : (backTo pos (starEach [b] X.env)).any (·.1) = false := by rfl) :
    PE X (.Call (.Name "isinstance" p) [a, b] [] pos) (T X B E pr (mArgs dIsi ms)) := PE.imp (pe_callB call_isi hg hm boot_isinstance ha (by decide) (by decide) he hpl) (targs rd_isi)

/-! ### slices -/
/-- a part of a slice -/
def TOp (X : Cx) (B : Bs) (E : XK) (pr : Bool) (m : M (Option Int)) : TO := fun σ H Q => Rdg X B E pr m σ H fun o ρ' I F' H' => Gd X.K B [] F' H' (slots ρ' σ ++ I) → Q o H'
def mIntO : D → M (Option Int)
  | .a (.int i) => mr (some i)
  | _ => fun _ => .bad
theorem PO.imp {e : Option Expr} {t t' : TO} (h : PO X e t) (i : ∀ σ H Q, t' σ H Q → t σ H Q) : PO X e t' := ⟨fun pins s σ H Q I hq => h.run pins s σ H Q I (i σ H Q hq)⟩
theorem o_none : PO X none (TOp X B E true (mr none)) := PO.imp po_none fun σ H Q ⟨ρ, F, I, f, G, r⟩ => r.mr H F (fun _ => Same.rfl2) f G
theorem o_some {m : M D} (h : PE X e (TV X B E pr m)) : PO X (some e) (TOp X B E pr (mb m mIntO)) := PO.imp (po_some h) fun σ H Q ⟨ρ, F, I, f, G, r⟩ => by
  refine ⟨ρ, F, I, f, G, ?_⟩
  refine Run.bind (fun z => z) r sub_refl fun x ρ1 H1 F1 s1 f1 r1 v O rp G1 => ?_
  unfold mIntO at r1
  split at r1
  · rename_i i
    have ev : v = .int i := by
      unfold Rep at rp
      exact rp.1
    exact ⟨i, ev, r1.mr H1 F1 s1 f1 G1⟩
  · exact r1.elim
/-- what a slice of data is -/
def Rds (X : Cx) (r : V → Option Int → Option Int → Hp → VK → Prop) (f : D → Option Int → Option Int → Option D) : Prop :=
  ∀ (B : Bs) (R : List Addr) (F H : Hp) (I : List It) (v1 : V) (O1 : List Addr) (d1 d : D) (lo hi : Option Int) (Q : VK), Gd X.K B R F H I → Rep X.K F H d1 v1 O1 → f d1 lo hi = some d → Fin X B R F H I d Q → r v1 lo hi H Q
theorem cutV_map {α β : Type} (g : α → β) (xs : List α) (lo hi : Option Int) : (xs.drop (HT.sIx xs.length 0 lo)).take (HT.sIx xs.length xs.length hi - HT.sIx xs.length 0 lo) = (xs.drop (HT.sIx xs.length 0 lo)).take (HT.sIx xs.length xs.length hi - HT.sIx xs.length 0 lo) := rfl
def cutD {α : Type} (xs : List α) (lo hi : Option Int) : List α := (xs.drop (HT.sIx xs.length 0 lo)).take (HT.sIx xs.length xs.length hi - HT.sIx xs.length 0 lo)
theorem cutV_eq (xs : List V) (lo hi : Option Int) : cutV xs lo hi = cutD xs lo hi := rfl
def dSl (d : D) (lo hi : Option Int) : Option D := match un d with
  | .a (.str z) => if z.length ≤ sizeLine then some (.str (cutS z lo hi)) else none
  | .n .lst ds => if fres ds = true then some (.lst (cutD ds lo hi)) else none
  | .n .tup ds => if fres ds = true ∧ ¬ (HT.sIx ds.length 0 lo = 0 ∧ HT.sIx ds.length ds.length hi = ds.length) then some (.tup (cutD ds lo hi)) else none
  | _ => none
theorem zip_drop {α β : Type} : ∀ (n : Nat) (xs : List α) (ys : List β), (xs.drop n).zip (ys.drop n) = (xs.zip ys).drop n
  | 0, _, _ => rfl
  | n + 1, [], ys => by simp
  | n + 1, x :: xs, [] => by simp
  | n + 1, x :: xs, y :: ys => zip_drop n xs ys
theorem zip_take {α β : Type} : ∀ (n : Nat) (xs : List α) (ys : List β), (xs.take n).zip (ys.take n) = (xs.zip ys).take n
  | 0, _, _ => rfl
  | n + 1, [], ys => by simp
  | n + 1, x :: xs, [] => by simp
  | n + 1, x :: xs, y :: ys => congrArg ((x, y) :: ·) (zip_take n xs ys)
theorem cut_zip {ds : List D} {vs : List V} (hl : ds.length = vs.length) (lo hi : Option Int) : (cutD ds lo hi).zip (cutD vs lo hi) = cutD (ds.zip vs) lo hi ∧ (cutD ds lo hi).length = (cutD vs lo hi).length := by
  unfold cutD
  have hz : (ds.zip vs).length = vs.length := by rw [List.length_zip, hl, Nat.min_self]
  rw [hz, hl]
  refine ⟨?_, ?_⟩
  · rw [zip_take, zip_drop]
  · rw [List.length_take, List.length_take, List.length_drop, List.length_drop, hl]
theorem its_sub {I J : List It} (h : J.Sublist I) (t : Sm.Its K F H I []) : Sm.Its K F H J [] := by
  obtain ⟨O', p, t'⟩ := t.sublist h
  rw [List.sublist_nil.mp p] at t'
  exact t'
theorem cut_sub {α : Type} (xs : List α) (lo hi : Option Int) : (cutD xs lo hi).Sublist xs := (List.take_sublist _ _).trans (List.drop_sublist _ _)
theorem rd_sl : Rds X (fun x lo hi H Q => rSlS x lo hi H Q ∨ rSlL X.K x lo hi H Q ∨ rSlT X.K x lo hi H Q) dSl := fun B R F H I v1 O1 d1 d lo hi Q G rp e q => by
  unfold dSl at e
  split at e
  · rename_i z u
    split at e
    · rename_i hz
      cases e
      exact .inl ⟨z, rp.atom u, hz, Fin.atom G q⟩
    · cases e
  · rename_i ds u
    split at e
    · rename_i hf
      cases e
      obtain ⟨a, vs, rfl, h2, hl, hk⟩ := rp.parts u G.le
      obtain ⟨z1, z2⟩ := cut_zip hl lo hi
      refine .inr (.inl ⟨a, vs, rfl, .inl h2, fun p hp => ?_⟩)
      exact Fin.lst G (by rw [cutV_eq, z1]; exact its_sub (cut_sub _ _ _) (fres_all hk hf hl)) z2 hp q
    · cases e
  · rename_i ds u
    split at e
    · rename_i hf
      cases e
      obtain ⟨a, vs, rfl, h2, hl, hk⟩ := rp.parts u G.le
      obtain ⟨z1, z2⟩ := cut_zip hl lo hi
      refine .inr (.inr ⟨a, vs, rfl, TupAt.sq h2, by rw [← hl]; exact hf.2, fun p hp => ?_⟩)
      exact Fin.tup G (by rw [cutV_eq, z1]; exact its_sub (cut_sub _ _ _) (fres_all hk hf.1 hl)) z2 hp q
    · cases e
  · cases e
def mSl (m : M D) (lo hi : M (Option Int)) : M D := mb m fun x => mb lo fun l => mb hi fun u => mo (dSl x l u)
theorem s_sl {m : M D} {ml mh : M (Option Int)} {lo hi : Option Expr} (he : PE X e (TV X B E true m)) (hl : PO X lo (TOp X B E true ml)) (hh : PO X hi (TOp X B E true mh)) : PE X (.Subscript e (.Slice lo hi none p) pos) (T X B E true (mSl m ml mh)) :=
  PE.imp (pe_slice (sl_str.or (sl_list.or sl_tup)) he hl hh) fun σ H Q ⟨ρ, F, I, f0, G, r0⟩ => by
  refine ⟨ρ, F, I, f0, G, ?_⟩
  refine Run.bind (fun z => z) r0 sub_refl fun x ρ1 H1 F1 s1 f1 r1 v O1 rp1 G1 => ?_
  refine ⟨ρ1, F1, I, f1, G1, ?_⟩
  have r2 := Run.later (p2 := true) (I' := I) (fun z => ⟨z, rfl⟩) s1 r1 sub_refl fun x ρ' H' F' _ _ k => k
  refine Run.bind (fun _ => rfl) r2 sub_refl fun y ρ2 H2 F2 s2 f2 r3 G2 => ?_
  refine ⟨ρ2, F2, I, f2, G2, ?_⟩
  have r4 := Run.later (p1 := true) (p2 := true) (I' := I) (fun z => ⟨z, rfl⟩) s2 r3 sub_refl fun x ρ' H' F' _ _ k => k
  refine Run.bind (fun _ => rfl) r4 sub_refl fun z ρ3 H3 F3 s3 f3 r5 G3 => ?_
  obtain ⟨d, e, k⟩ := r5.mo
  obtain ⟨a2, b2⟩ := s2 rfl
  obtain ⟨a3, b3⟩ := s3 rfl
  exact rd_sl _ _ _ _ _ v O1 x d y z Q G3 ((rp1.same b2 a2).same b3 a3) e fun w H' F' s' sb G' => k H' F' (fun _ => ⟨a3.trans s', fun a o e => sb a o (b3 a o e)⟩) f3 w G'

/-! ### methods of texts -/
/-- several values, the first one by itself -/
theorem s_bmS {name : Str} {T : String} {id : String} {apos cpos : Pos} {o : Expr} {es : List Expr} {r : V → List V → Hp → VK → Prop} {f : List D → Option D} {m : M D} {ms : M (List D)}
    (pa : PlainAttrs T) (slot : Slot T name id) (hty : typeOf (.builtin id) = pure (.type "method_descriptor")) (hm : MtR X id r) (hT : tyNs.contains T = true)
    (hv : ∀ (B : Bs) (R : List Addr) (F H : Hp) (I : List It) (v : V) (O : List Addr) (d : D), Gd X.K B R F H I → Rep X.K F H d v O → tyN d = some T → tyV X.K T v H)
    (hr : Rda X (fun xs H Q => ∃ x ys, xs = x :: ys ∧ r x ys H Q) f) (ho : PE X o (TV X B E true m)) (ha : PA X (e :: es) (TVa X B E true ms))
    (hbase : attributeBase o name X.env (eval o X.env) = eval o X.env := by rfl)
    (hfew : ((backTo cpos (starEach (e :: es) X.env)).all (fun x => !x.1) && (backToKw cpos (keywordEach [] X.env)).all (fun x => x.1.isSome)
      && decide ((e :: es).length + ([] : List Keyword).length + (if ([] : List Keyword).isEmpty then 0 else 1) < 30)) = true := by rfl)
    (hline : (apos.endLine == cpos.line) = true := by rfl) (hs : starEach (e :: es) X.env = (false, eval e X.env) :: starEach es X.env := by rfl) (hplain : (backTo cpos (starEach es X.env)).any (·.1) = false := by rfl) :
    PE X (.Call (.Attribute o name apos) (e :: es) [] cpos) (Sm.T X B E true (mb m fun x => mb (if tyN x = some T then mr () else fun _ => .bad) fun _ => mb ms fun ys => mo (f (x :: ys)))) := PE.imp (pe_bm pa slot hty hm ho ha hbase hfew hline hs hplain) fun σ H Q ⟨ρ, F, I, f0, G, r0⟩ => by
  refine ⟨ρ, F, I, f0, G, ?_⟩
  refine Run.bind (fun z => z) r0 sub_refl fun x ρ1 H1 F1 s1 f1 r1 v O1 rp1 G1 => ?_
  by_cases hx : tyN x = some T
  · rw [if_pos hx] at r1
    refine ⟨hv _ _ _ _ _ _ _ _ G1 rp1 hx, ρ1, F1, I, f1, G1, ?_⟩
    have r2 := Run.later (p2 := true) (I' := I) (fun z => ⟨z, rfl⟩) s1 (show Run X B E true σ F H I (mb ms (fun ys => mo (f (x :: ys))) ρ1) _ from r1) sub_refl fun x ρ' H' F' _ _ k => k
    refine Run.bind (fun _ => rfl) r2 sub_refl fun y ρ2 H2 F2 s2 f2 r3 ws rp G2 => ?_
    obtain ⟨d, e, k⟩ := r3.mo
    obtain ⟨a2, b2⟩ := s2 rfl
    obtain ⟨x', ys', ex, hh⟩ := hr _ _ _ _ _ (v :: ws) (x :: y) d Q G2 (Vws.cons (rp1.same b2 a2) rp) e fun w H' F' s' sb G' => k H' F' (fun _ => ⟨a2.trans s', fun a o e => sb a o (b2 a o e)⟩) f2 w G'
    obtain ⟨rfl, rfl⟩ := List.cons.inj ex
    exact hh
  · rw [if_neg hx] at r1
    exact r1.elim
theorem tyV_str {B : Bs} {R : List Addr} {F H : Hp} {I : List It} {v : V} {O : List Addr} {d : D} (G : Gd K B R F H I) (rp : Rep K F H d v O) (h : tyN d = some "str") : tyV K "str" v H := by
  unfold tyN at h
  split at h <;> first | (rename_i u; rw [rp.atom u]; rfl) | exact absurd h (by decide)
theorem vws_three {d d' d'' : D} {vs : List V} (h : Vws K F H [d, d', d''] vs) : ∃ v w x O O' O'', vs = [v, w, x] ∧ Rep K F H d v O ∧ Rep K F H d' w O' ∧ Rep K F H d'' x O'' := by
  obtain ⟨hl, hk⟩ := h
  match vs, hl with
  | [v, w, x], _ =>
    obtain ⟨O, r⟩ := hk (d, v) (by simp)
    obtain ⟨O', r'⟩ := hk (d', w) (by simp)
    obtain ⟨O'', r''⟩ := hk (d'', x) (by simp)
    exact ⟨v, w, x, O, O', O'', rfl, r, r', r''⟩
def dFind3 : List D → Option D
  | [.a (.str x), .a (.str y), .a (.int i)] => some (.int (Txt.find3 x y i))
  | _ => none
theorem rd_find3 : Rda X (fun xs H Q => ∃ x ys, xs = x :: ys ∧ ∃ (a b : Str) (i : Int), x = .str a ∧ ys = [.str b, .int i] ∧ Q (.int (Txt.find3 a b i)) H) dFind3 := fun B R F H I vs ds d Q G hv e q => by
  unfold dFind3 at e
  split at e
  · rename_i x y i
    cases e
    obtain ⟨v, w, u, O, O', O'', rfl, r1, r2, r3⟩ := vws_three hv
    rw [atom_of r1, atom_of r2, atom_of r3]
    exact ⟨_, _, rfl, x, y, i, rfl, rfl, Fin.atom G q⟩
  · cases e
def txts : List D → Option (List Str)
  | [] => some []
  | .a (.str x) :: ds => (txts ds).map (x :: ·)
  | _ => none
theorem txts_ok : ∀ {ds : List D} {ys : List Str}, txts ds = some ys → ds = ys.map fun y => D.str y
  | [], ys, e => by
    unfold txts at e
    cases e
    rfl
  | d :: ds, ys, e => by
    unfold txts at e
    split at e
    · rename_i h
      cases h
    · rename_i x ds' h
      injection h with h1 h2
      subst h1 h2
      obtain ⟨zs, ez, e⟩ := Option.map_eq_some_iff.mp e
      subst e
      rw [txts_ok ez]
      rfl
    · cases e
theorem txts_vals {ys : List Str} : ∀ {vs : List V}, (ys.map fun y => D.str y).length = vs.length → (∀ p ∈ (ys.map fun y => D.str y).zip vs, ∃ O', Rep K F H p.1 p.2 O') → vs = ys.map V.str := by
  induction ys with
  | nil => exact fun hl _ => List.length_eq_zero_iff.mp hl.symm
  | cons y ys ih =>
    intro vs hl hk
    cases vs with
    | nil => cases hl
    | cons v vs =>
      obtain ⟨O, r⟩ := hk (.str y, v) (by simp)
      rw [atom_of (x := .str y) (v := v) r, ih (Nat.succ.inj hl) fun p hp => hk p (List.mem_cons_of_mem _ hp)]
      rfl
def dJoin : List D → Option D
  | [.a (.str x), d] => match un d with
    | .n .lst ds => match txts ds with
      | some ys => if (ys.map (·.length)).sum + ys.length * x.length ≤ 16777216 then some (.str (Txt.join x ys)) else none
      | none => none
    | _ => none
  | _ => none
theorem rd_join : Rda X (fun xs H Q => ∃ x zs, xs = x :: zs ∧ ∃ a p, ∃ ys : List Str, x = .str a ∧ zs = [.ref p] ∧ (SqL X.K H p (ys.map V.str) ∨ SqT X.K H p (ys.map V.str)) ∧
    (ys.map (·.length)).sum + ys.length * a.length ≤ 16777216 ∧ Q (.str (Txt.join a ys)) H) dJoin := fun B R F H I vs ds d Q G hv e q => by
  unfold dJoin at e
  split at e
  · rename_i x d1
    split at e
    · rename_i ds' u
      split at e
      · rename_i ys ey
        split at e
        · rename_i hz
          cases e
          obtain ⟨v, w, O, O', rfl, r1, r2⟩ := vws_two hv
          obtain ⟨a, vs, rfl, h2, hl, hk⟩ := r2.parts u G.le
          have es := txts_ok ey
          subst es
          have ev := txts_vals hl hk
          subst ev
          rw [atom_of r1]
          exact ⟨_, _, rfl, x, a, ys, rfl, rfl, .inl (.inl h2), hz, Fin.atom G q⟩
        · cases e
      · cases e
    · cases e
  · cases e
end
end Sm

namespace Sm
open PySem PySem.Spec PyProof.Rows L2

/-! ### places -/
inductive Stp where
  | fl (C f : Str) | kx (k : Key) | ix (i : Nat)
  deriving DecidableEq
def Kid (K : PySem.W.Frag) (H : Hp) (a : Addr) : Stp → V → Prop
  | .fl C f, v => ∃ dx fs, H a = some (.ins (He.ga K C) dx fs) ∧ fs.lookup f = some v
  | .kx k, v => ∃ kvs, H a = some (.dK kvs) ∧ valV kvs k = some v
  | .ix i, v => ∃ xs, H a = some (.lst xs) ∧ xs[i]? = some v
def Walk (K : PySem.W.Frag) (H : Hp) : V → List Stp → V → Prop
  | u, [], v => u = v
  | u, s :: p, v => ∃ a w, u = .ref a ∧ Kid K H a s w ∧ Walk K H w p v
def idxOf {α : Type} [DecidableEq α] (x : α) : List α → Option Nat
  | [] => none
  | y :: ys => if y = x then some 0 else (idxOf x ys).map (· + 1)
/-- which part -/
def tpos : Tg → Stp → Option Nat
  | .ins C fs, .fl C' f => if C = C' then idxOf f fs else none
  | .dk ks, .kx k => idxOf k ks
  | .lst, .ix i => some i
  | _, _ => none
def dAt : D → List Stp → Option D
  | d, [] => some d
  | .n t ds, s :: p => (tpos t s).bind fun j => (ds[j]?).bind fun c => dAt c p
  | _, _ :: _ => none
def dUp {β : Type} (f : D → Option (D × β)) : D → List Stp → Option (D × β)
  | d, [] => f d
  | .n t ds, s :: p => (tpos t s).bind fun j => (ds[j]?).bind fun c => (dUp f c p).map fun r => (.n t (ds.set j r.1), r.2)
  | _, _ :: _ => none

section
variable {K : PySem.W.Frag} {B : Bs} {R : List Addr} {F F' H H' : Hp} {I J : List It}
theorem idxOf_lookup {α β : Type} [DecidableEq α] {x : α} : ∀ {ks : List α} {vs : List β} {j : Nat}, idxOf x ks = some j → ks.length = vs.length → ∃ v, vs[j]? = some v ∧ (ks.zip vs).find? (fun kv => decide (kv.1 = x)) = some (x, v)
  | [], vs, j, e, _ => by cases e
  | k :: ks, [], j, e, l => by cases l
  | k :: ks, v :: vs, j, e, l => by
    unfold idxOf at e
    by_cases h : k = x
    · rw [if_pos h] at e
      cases e
      exact ⟨v, rfl, by simp [List.find?_cons, h]⟩
    · rw [if_neg h] at e
      obtain ⟨j', e', rfl⟩ := Option.map_eq_some_iff.mp e
      obtain ⟨w, e1, e2⟩ := idxOf_lookup (vs := vs) e' (Nat.succ.inj l)
      exact ⟨w, by simpa using e1, by simpa [List.find?_cons, h] using e2⟩
theorem find_valV {ks : List Key} {vs : List V} {k : Key} {v : V} (e : (ks.zip vs).find? (fun kv => decide (kv.1 = k)) = some (k, v)) : valV (ks.zip vs) k = some v := by
  unfold valV
  rw [e]
  rfl
theorem find_lookup {fs : List (Str × V)} {f : Str} {v : V} (e : fs.find? (fun kv => decide (kv.1 = f)) = some (f, v)) : fs.lookup f = some v := by
  induction fs with
  | nil => cases e
  | cons p r ih =>
    obtain ⟨g, x⟩ := p
    rw [List.find?_cons] at e
    by_cases h : g = f
    · subst h
      simp at e
      rw [List.lookup_cons, beq_self_eq_true, e]
    · rw [decide_eq_false h] at e
      rw [List.lookup_cons, beq_eq_false_iff_ne.mpr (fun z => h z.symm)]
      exact ih e
theorem lookup_find {fs : List (Str × V)} {f : Str} {v : V} (e : fs.lookup f = some v) : fs.find? (fun kv => decide (kv.1 = f)) = some (f, v) := by
  induction fs with
  | nil => cases e
  | cons p r ih =>
    obtain ⟨g, x⟩ := p
    rw [List.lookup_cons] at e
    rw [List.find?_cons]
    by_cases h : f = g
    · subst h
      rw [beq_self_eq_true] at e
      injection e with e
      simp [e]
    · rw [beq_eq_false_iff_ne.mpr h] at e
      rw [decide_eq_false (fun z => h z.symm)]
      exact ih e
/-- the part's value -/
theorem kid_of {a : Addr} {t : Tg} {vs : List V} {s : Stp} {j : Nat} (o : Own K H a t vs) (e : tpos t s = some j) (hj : j < vs.length) : ∃ w, vs[j]? = some w ∧ Kid K H a s w := by
  unfold tpos at e
  split at e
  · rename_i C fs C' f
    split at e
    · rename_i hC
      subst hC
      obtain ⟨hl, dx, ho⟩ := o
      obtain ⟨w, e1, e2⟩ := idxOf_lookup e hl
      exact ⟨w, e1, dx, _, ho, find_lookup e2⟩
    · cases e
  · obtain ⟨hl, _, ho⟩ := o
    obtain ⟨w, e1, e2⟩ := idxOf_lookup e hl
    exact ⟨w, e1, _, ho, find_valV e2⟩
  · cases e
    exact ⟨vs[j], List.getElem?_eq_getElem hj, vs, o, List.getElem?_eq_getElem hj⟩
  · cases e
theorem kid_one {a : Addr} {s : Stp} {v w : V} (h : Kid K H a s v) (h' : Kid K H a s w) : v = w := by
  cases s with
  | fl C f =>
    obtain ⟨dx, fs, e, l⟩ := h
    obtain ⟨dx', fs', e', l'⟩ := h'
    rw [e] at e'
    cases e'
    rw [l] at l'
    exact Option.some.inj l'
  | kx k =>
    obtain ⟨fs, e, l⟩ := h
    obtain ⟨fs', e', l'⟩ := h'
    rw [e] at e'
    cases e'
    rw [l] at l'
    exact Option.some.inj l'
  | ix k =>
    obtain ⟨fs, e, l⟩ := h
    obtain ⟨fs', e', l'⟩ := h'
    rw [e] at e'
    cases e'
    rw [l] at l'
    exact Option.some.inj l'
theorem Kid.same {a : Addr} {s : Stp} {v : V} (h : Kid K H a s v) (m : Same H H') : Kid K H' a s v := by
  cases s with
  | fl C f => obtain ⟨dx, fs, e, l⟩ := h; exact ⟨dx, fs, m a _ e, l⟩
  | kx k => obtain ⟨fs, e, l⟩ := h; exact ⟨fs, m a _ e, l⟩
  | ix k => obtain ⟨fs, e, l⟩ := h; exact ⟨fs, m a _ e, l⟩
theorem Walk.same : ∀ {p : List Stp} {u v : V}, Walk K H u p v → Same H H' → Walk K H' u p v
  | [], _, _, h, _ => h
  | s :: p, _, _, ⟨a, w, e, k, h⟩, m => ⟨a, w, e, k.same m, h.same m⟩
theorem Walk.app : ∀ {p q : List Stp} {u v w : V}, Walk K H u p v → Walk K H v q w → Walk K H u (p ++ q) w
  | [], q, u, v, w, h, h' => by
    cases (show u = v from h)
    exact h'
  | s :: p, q, _, _, _, ⟨a, z, e, k, h⟩, h' => ⟨a, z, e, k, h.app h'⟩
theorem Walk.cut : ∀ {p q : List Stp} {u w : V}, Walk K H u (p ++ q) w → ∃ v, Walk K H u p v ∧ Walk K H v q w
  | [], q, u, w, h => ⟨u, rfl, h⟩
  | s :: p, q, _, _, ⟨a, z, e, k, h⟩ => by
    obtain ⟨v, h1, h2⟩ := Walk.cut h
    exact ⟨v, ⟨a, z, e, k, h1⟩, h2⟩
theorem Walk.one : ∀ {p : List Stp} {u v w : V}, Walk K H u p v → Walk K H u p w → v = w
  | [], u, v, w, h, h' => (show u = v from h).symm.trans h'
  | s :: p, _, v, w, ⟨a, z, e, k, h⟩, ⟨a', z', e', k', h'⟩ => by
    rw [e] at e'
    cases e'
    have ez := kid_one k k'
    subst ez
    exact h.one h'
/-- a node's part, taken out -/
theorem zip_take1 : ∀ {ds : List D} {vs : List V} {j : Nat} {c : D} {w : V}, ds[j]? = some c → vs[j]? = some w → ∃ L : List It, (ds.zip vs).Perm ((c, w) :: L) ∧ ∀ c', ((ds.set j c').zip vs).Perm ((c', w) :: L)
  | [], vs, j, c, w, e, _ => by simp at e
  | d :: ds, [], j, c, w, _, e => by simp at e
  | d :: ds, v :: vs, 0, c, w, e, e' => by
    have h1 : d = c := by simpa using e
    have h2 : v = w := by simpa using e'
    subst h1 h2
    exact ⟨ds.zip vs, .refl _, fun c' => .refl _⟩
  | d :: ds, v :: vs, j + 1, c, w, e, e' => by
    obtain ⟨L, p, k⟩ := zip_take1 (ds := ds) (vs := vs) (j := j) (c := c) (w := w) (by simpa using e) (by simpa using e')
    exact ⟨(d, v) :: L, (p.cons _).trans (List.Perm.swap _ _ _), fun c' => ((k c').cons _).trans (List.Perm.swap _ _ _)⟩
theorem tpos_ne {t : Tg} {s : Stp} {j : Nat} (e : tpos t s = some j) : t ≠ .tup := by
  rintro rfl
  unfold tpos at e
  cases s <;> cases e
theorem walk_ex : ∀ {p : List Stp} {d c : D} {u : V} {O : List Addr}, Rep K F H d u O → dAt d p = some c → ∃ v, Walk K H u p v
  | [], d, c, u, O, _, _ => ⟨u, rfl⟩
  | s :: p, .a x, c, u, O, _, e => by unfold dAt at e; cases e
  | s :: p, .sh x, c, u, O, _, e => by unfold dAt at e; cases e
  | s :: p, .n t ds, c, u, O, r, e => by
    unfold dAt at e
    obtain ⟨j, e1, e⟩ := Option.bind_eq_some_iff.mp e
    obtain ⟨c1, e2, e⟩ := Option.bind_eq_some_iff.mp e
    unfold Rep at r
    obtain ⟨a, vs, O', rfl, r1, r2⟩ := r
    rcases r2 with ⟨z, _⟩ | ⟨o, _⟩
    · exact (tpos_ne e1 z).elim
    · obtain ⟨hl, it⟩ := Rps.its.mp r1
      have hj : j < vs.length := by rw [← hl]; exact (List.getElem?_eq_some_iff.mp e2).1
      obtain ⟨w, e3, k⟩ := kid_of o e1 hj
      obtain ⟨L, pm, _⟩ := zip_take1 e2 e3
      obtain ⟨O1, r3, _⟩ := it.mem (c1, w) (pm.mem_iff.mpr List.mem_cons_self)
      obtain ⟨v, hw⟩ := walk_ex r3 e
      exact ⟨v, a, w, rfl, k, hw⟩
/-- the node at a place, taken out; and put back -/
theorem Gd.atp {β : Type} {f : D → Option (D × β)} : ∀ {p : List Stp} {R : List Addr} {J : List It} {d : D} {u v : V} {r : D × β}, dUp f d p = some r → Walk K H u p v → Gd K B R F H ((d, u) :: J) →
    ∃ c c' R' L, f c = some (c', r.2) ∧ (∀ a ∈ R, a ∈ R') ∧ Gd K B R' F H ((c, v) :: (L ++ J)) ∧ ∀ F' H' J', (∀ a ∈ R', H' a = H a) → Gd K B R' F' H' ((c', v) :: (L ++ J')) → Gd K B R F' H' ((r.1, u) :: J')
  | [], R, J, d, u, v, r, e, h, G => by
    cases (show u = v from h)
    unfold dUp at e
    exact ⟨d, r.1, R, [], e, fun _ h => h, G, fun F' H' J' _ G' => G'⟩
  | s :: p, R, J, .a x, u, v, r, e, h, G => by unfold dUp at e; cases e
  | s :: p, R, J, .sh x, u, v, r, e, h, G => by unfold dUp at e; cases e
  | s :: p, R, J, .n t ds, u, v, r, e, ⟨a, w, eu, k, h⟩, G => by
    unfold dUp at e
    obtain ⟨j, e1, e⟩ := Option.bind_eq_some_iff.mp e
    obtain ⟨c1, e2, e⟩ := Option.bind_eq_some_iff.mp e
    obtain ⟨r1, e3, er⟩ := Option.map_eq_some_iff.mp e
    obtain ⟨a', vs, eu', o, hl, G1⟩ := G.open (tpos_ne e1)
    rw [eu] at eu'
    cases eu'
    have hj : j < vs.length := by rw [← hl]; exact (List.getElem?_eq_some_iff.mp e2).1
    obtain ⟨w', e4, k'⟩ := kid_of o e1 hj
    cases kid_one k k'
    obtain ⟨L1, pm, pk⟩ := zip_take1 e2 e4
    have G2 : Gd K B (a :: R) F H ((c1, w) :: (L1 ++ J)) := G1.perm (pm.append_right J)
    obtain ⟨c, c', R', L, ef, hR, G3, close⟩ := Gd.atp e3 h G2
    refine ⟨c, c', R', L ++ L1, by rw [← er]; exact ef, fun b hb => hR b (List.mem_cons_of_mem _ hb), by rw [List.append_assoc]; exact G3, fun F' H' J' same G' => ?_⟩
    rw [List.append_assoc] at G'
    have G4 := close F' H' (L1 ++ J') same G'
    have G5 : Gd K B (a :: R) F' H' ((ds.set j r1.1).zip vs ++ J') := G4.perm ((pk r1.1).symm.append_right J')
    subst er eu
    exact G5.close (o.eqv (same a (hR a List.mem_cons_self))) (by rw [List.length_set]; exact hl)
end

section
variable {X : Cx} {B : Bs} {E : XK} {pr p1 p2 : Bool} {a b c e : Expr} {pos p : Pos} {rest : List Expr}
/-- a place within a name's value -/
def TP (X : Cx) (B : Bs) (E : XK) (i : Nat) (m : M (List Stp)) : TE := fun σ H Q => Rdg X B E true m σ H fun p ρ' I F' H' => ∀ u v, σ[i]? = some (some u) → Walk X.K H' u p v → Gd X.K B [] F' H' (slots ρ' σ ++ I) → Q v H'
def mChk (i : Nat) (p : List Stp) : M (List Stp) := fun ρ => match ρ[i]? with
  | some (some d) => if (dAt d p).isSome = true then .ok p ρ else .bad
  | _ => .bad
theorem chk_ok {i : Nat} {p q : List Stp} {ρ ρ' : Env} (e : mChk i p ρ = .ok q ρ') : q = p ∧ ρ' = ρ ∧ ∃ d c, ρ[i]? = some (some d) ∧ dAt d p = some c := by
  unfold mChk at e
  split at e
  · rename_i d h
    split at e
    · rename_i h2
      injection e with e1 e2
      obtain ⟨c, hc⟩ := Option.isSome_iff_exists.mp h2
      exact ⟨e1.symm, e2.symm, d, c, h, hc⟩
    · cases e
  · cases e
theorem chk_no {i : Nat} {p : List Stp} {ρ ρ' : Env} {x : Ex} : mChk i p ρ ≠ .exc x ρ' := by
  intro e
  unfold mChk at e
  split at e
  · split at e <;> cases e
  · cases e
theorem chk_run {σ : L2.St} {F H : Hp} {I : List It} {i : Nat} {p : List Stp} {ρ : Env} {k : List Stp → Env → Hp → Hp → Prop} (f : Fits ρ σ) (G : Gd X.K B [] F H (slots ρ σ ++ I)) (r : Run X B E pr σ F H I (mChk i p ρ) k) :
    (∃ u v, σ[i]? = some (some u) ∧ Walk X.K H u p v) ∧ ∀ H' F', (pr = true → Same H H' ∧ Sub F F') → k p ρ F' H' := by
  cases e : mChk i p ρ with
  | ok q ρ1 =>
    obtain ⟨rfl, rfl, d, c, e1, e2⟩ := chk_ok e
    obtain ⟨u, e3, hm⟩ := slots_mem f e1
    obtain ⟨O, rp⟩ := G.repm (List.mem_append_left I hm)
    obtain ⟨v, hw⟩ := walk_ex rp e2
    exact ⟨⟨u, v, e3, hw⟩, fun H' F' s => r.ok e H' F' s f⟩
  | exc x ρ1 => exact (chk_no e).elim
  | bad => exact (r.bad e).elim
theorem p_name (i : Nat) {x : Str} {pos : Pos} (hN : X.N[i]? = some x := by rfl) (hv : Vis X.env.scope x := by first | exact Or.inl rfl | exact Or.inr (Or.inl rfl) | exact Or.inr (Or.inr rfl))
    (hd : (x == ("__debug__" : Str)) = false := by decide) (hcd : (x == ("__classdict__" : Str)) = false := by decide) : PE X (.Name x pos) (TP X B E i (mChk i [])) := PE.imp (pe_var hN hv hd hcd) fun σ H Q ⟨ρ, F, I, f, G, r⟩ => by
  obtain ⟨⟨u, v, e1, e2⟩, k⟩ := chk_run f G r
  cases (show u = v from e2)
  exact ⟨u, e1, k H F (fun _ => Same.rfl2) u u e1 rfl G⟩
def mPlF (i : Nat) (m : M (List Stp)) (C f : Str) : M (List Stp) := mb m fun p => mChk i (p ++ [.fl C f])
theorem p_fld {i : Nat} {m : M (List Stp)} {C f : Str} (he : PE X e (TP X B E i m)) (hc : Cls X.K (He.ga X.K C)) (hn : NoAttr X.K (He.ga X.K C) f) (hb : attributeBase e f X.env (eval e X.env) = eval e X.env := by rfl) :
    PE X (.Attribute e f pos) (TP X B E i (mPlF i m C f)) := PE.imp (pe_fld he hb) fun σ H Q ⟨ρ, F, I, f0, G, r⟩ => by
  refine ⟨ρ, F, I, f0, G, ?_⟩
  refine Run.bind (fun z => z) r sub_refl fun q ρ1 H1 F1 s1 f1 r1 u v e1 hw G1 => ?_
  obtain ⟨⟨u', v', e2, hw'⟩, k⟩ := chk_run f1 G1 (Run.later (p1 := true) (p2 := true) (fun _ => ⟨rfl, rfl⟩) s1 r1 sub_refl fun x ρ' H' F' _ _ k => k)
  rw [e1] at e2
  cases e2
  obtain ⟨z, h1, h2⟩ := Walk.cut hw'
  cases hw.one h1
  obtain ⟨a, w, rfl, ⟨dx, fs, e3, e4⟩, h3⟩ := h2
  cases (show w = v' from h3)
  exact ⟨a, _, dx, fs, _, rfl, e3, hc, hn, e4, k H1 F1 (fun _ => Same.rfl2) u _ e1 hw' G1⟩
def keyOf : D → Option Key
  | .a (.int i) => some (.inl i)
  | .a (.str x) => some (.inr x)
  | _ => none
theorem keyOf_ok {K : PySem.W.Frag} {F H : Hp} {d : D} {v : V} {O : List Addr} {k : Key} (r : Rep K F H d v O) (e : keyOf d = some k) : v = kV k := by
  unfold keyOf at e
  split at e
  · cases e
    exact atom_of r
  · cases e
    exact atom_of r
  · cases e
def mPlK (i : Nat) (m : M (List Stp)) (mk : M D) : M (List Stp) := mb m fun p => mb mk fun k => match keyOf k with
  | some k => mChk i (p ++ [.kx k])
  | none => fun _ => .bad
theorem p_key {i : Nat} {m : M (List Stp)} {mk : M D} (hu : X.A.units + 1 < cLine) (he : PE X e (TP X B E i m)) (hk : PE X b (TV X B E true mk)) (hs : NoSl b := by intro _ _; rfl) :
    PE X (.Subscript e b pos) (TP X B E i (mPlK i m mk)) := PE.imp (pe_dget hu he hk hs) fun σ H Q ⟨ρ, F, I, f0, G, r⟩ => by
  refine ⟨ρ, F, I, f0, G, ?_⟩
  refine Run.bind (fun z => z) r sub_refl fun q ρ1 H1 F1 s1 f1 r1 u v e1 hw G1 => ?_
  refine ⟨ρ1, F1, I, f1, G1, ?_⟩
  have r2 := Run.later (p1 := true) (p2 := true) (I' := I) (fun z => ⟨z, rfl⟩) s1 r1 sub_refl fun x ρ' H' F' _ _ k => k
  refine Run.bind (fun _ => rfl) r2 sub_refl fun x ρ2 H2 F2 s2 f2 r3 y O rp G2 => ?_
  obtain ⟨sa, sb⟩ := s2 rfl
  cases ek : keyOf x with
  | none => rw [ek] at r3; exact r3.elim
  | some k =>
    rw [ek] at r3
    obtain ⟨⟨u', v', e2, hw'⟩, kk⟩ := chk_run f2 G2 (Run.later (p1 := true) (p2 := true) (fun _ => ⟨rfl, rfl⟩) s2 r3 sub_refl fun x ρ' H' F' _ _ k => k)
    rw [e1] at e2
    cases e2
    obtain ⟨z, h1, h2⟩ := Walk.cut hw'
    cases (hw.same sa).one h1
    obtain ⟨a, w, rfl, ⟨kvs, e3, e4⟩, h3⟩ := h2
    cases (show w = v' from h3)
    exact ⟨a, _, rfl, .inl ⟨kvs, k, .inl e3, keyOf_ok rp ek, e4.symm⟩, kk H2 F2 (fun _ => Same.rfl2) u _ e1 hw' G2⟩
end
end Sm

namespace Sm
open PySem PySem.Spec PyProof.Rows L2

/-! ### looked-at parts -/
section
variable {X : Cx} {B : Bs} {E : XK} {pr p1 p2 : Bool} {a b c e o : Expr} {pos p : Pos} {K : PySem.W.Frag} {F H : Hp} {I : List It} {R : List Addr}
/-- reading a part: nothing is changed -/
def Rd2V (X : Cx) (r : R2) (f : D → D → Option D) : Prop :=
  ∀ (B : Bs) (R : List Addr) (F H : Hp) (I : List It) (v1 v2 : V) (O1 O2 : List Addr) (d1 d2 d : D) (Q : VK), Gd X.K B R F H I → Rep X.K F H d1 v1 O1 → Rep X.K F H d2 v2 O2 → f d1 d2 = some d → (∀ v O, Rep X.K F H d v O → Q v H) → r v1 v2 H Q
def Rd1V (X : Cx) (r : V → Hp → VK → Prop) (f : D → Option D) : Prop :=
  ∀ (B : Bs) (R : List Addr) (F H : Hp) (I : List It) (v1 : V) (O1 : List Addr) (d1 d : D) (Q : VK), Gd X.K B R F H I → Rep X.K F H d1 v1 O1 → f d1 = some d → (∀ v O, Rep X.K F H d v O → Q v H) → r v1 H Q
theorem tunV {r : V → Hp → VK → Prop} {f : D → Option D} (h : Rd1V X r f) {m : M D} (σ : L2.St) (H : Hp) (Q : VK) (q : TV X B E pr (mUn f m) σ H Q) : TV X B E pr m σ H (fun x H1 => r x H1 Q) := by
  obtain ⟨ρ, F, I, f0, G, r0⟩ := q
  refine ⟨ρ, F, I, f0, G, ?_⟩
  refine Run.bind (fun z => z) r0 sub_refl fun x ρ1 H1 F1 s1 f1 r1 v O rp G1 => ?_
  obtain ⟨d, e, k⟩ := r1.mo
  exact h _ _ _ _ _ v O x d Q G1 rp e fun w O' rw => k H1 F1 s1 f1 w O' rw G1
theorem tbinVV {r : R2} {f : D → D → Option D} (h : Rd2V X r f) {m1 m2 : M D} (σ : L2.St) (H : Hp) (Q : VK) (q : TV X B E p1 (mBin f m1 m2) σ H Q) : tOp r (TV X B E p1 m1) (TV X B E true m2) σ H Q := by
  obtain ⟨ρ, F, I, f0, G, r0⟩ := q
  refine ⟨ρ, F, I, f0, G, ?_⟩
  refine Run.bind (fun z => z) r0 sub_refl fun x ρ1 H1 F1 s1 f1 r1 v O1 rp1 G1 => ?_
  refine ⟨ρ1, F1, I, f1, G1, ?_⟩
  have r2 := Run.later (p2 := true) (I' := I) (fun z => ⟨z, rfl⟩) s1 r1 sub_refl fun x ρ' H' F' _ _ k => k
  refine Run.bind (fun _ => rfl) (show Run X B E true σ F1 H1 I _ _ from r2) sub_refl fun y ρ2 H2 F2 s2 f2 r3 w O rp G2 => ?_
  obtain ⟨d, e, k⟩ := r3.mo
  obtain ⟨s2a, s2b⟩ := s2 rfl
  exact h _ _ _ _ _ v w O1 O x y d Q G2 (rp1.same s2b s2a) rp e fun u O' ru => k H2 F2 (fun _ => ⟨s2a, s2b⟩) f2 u O' ru G2
/-- d[k] -/
def dGet (d k : D) : Option D := match un d with
  | .n (.dk ks) ds => (keyOf k).bind fun k => (idxOf k ks).bind fun j => ds[j]?
  | _ => none
theorem rd_get : Rd2V X (fun x y H Q => ∃ a v, x = .ref a ∧ DGet H a y (some v) ∧ Q v H) dGet := fun B R F H I v1 v2 O1 O2 d1 d2 d Q G r1 r2 e q => by
  unfold dGet at e
  split at e
  · rename_i ks ds u
    obtain ⟨k, ek, e⟩ := Option.bind_eq_some_iff.mp e
    obtain ⟨j, ej, e⟩ := Option.bind_eq_some_iff.mp e
    obtain ⟨a, vs, rfl, ⟨hl, hn, h2⟩, hl2, hk⟩ := r1.parts u G.le
    obtain ⟨w, ew, e2⟩ := idxOf_lookup ej hl
    obtain ⟨L, pm, _⟩ := zip_take1 e ew
    obtain ⟨O', rp⟩ := hk (d, w) (pm.mem_iff.mpr List.mem_cons_self)
    exact ⟨a, w, rfl, .inl ⟨_, k, h2, keyOf_ok r2 ek, (find_valV e2).symm⟩, q w O' rp⟩
  · cases e
theorem s_dget {m1 m2 : M D} (hu : X.A.units + 1 < cLine) (ho : PE X o (TV X B E p1 m1)) (hi : PE X e (TV X B E true m2)) (hs : NoSl e := by intro _ _; rfl) : PE X (.Subscript o e pos) (TV X B E p1 (mBin dGet m1 m2)) :=
  PE.imp (pe_dget hu ho hi hs) fun σ H Q q => tbinVV rd_get σ H Q q
/-- xs[i], looked at -/
def dIxV (d k : D) : Option D := match un d, k with
  | .n .lst ds, .a (.int i) => atI ds i
  | .n .tup ds, .a (.int i) => atI ds i
  | .a (.str z), .a (.int i) => if z.length ≤ sizeLine then (atI z.cps.toList i).map fun c => .str ⟨#[c]⟩ else none
  | _, _ => none
end

/-! ### writing -/
section
variable {X : Cx} {B : Bs} {E : XK} {Y : Fx} {pr p1 p2 : Bool} {a b c e o : Expr} {es : List Expr} {pos pos' p : Pos} {K : PySem.W.Frag} {F H : Hp} {I J : List It} {R : List Addr}
theorem walk_rep : ∀ {p : List Stp} {d c : D} {u : V} {O : List Addr}, Rep K F H d u O → dAt d p = some c → ∃ v O', Walk K H u p v ∧ Rep K F H c v O'
  | [], d, c, u, O, r, e => by
    unfold dAt at e
    cases e
    exact ⟨u, O, rfl, r⟩
  | s :: p, .a x, c, u, O, _, e => by unfold dAt at e; cases e
  | s :: p, .sh x, c, u, O, _, e => by unfold dAt at e; cases e
  | s :: p, .n t ds, c, u, O, r, e => by
    unfold dAt at e
    obtain ⟨j, e1, e⟩ := Option.bind_eq_some_iff.mp e
    obtain ⟨c1, e2, e⟩ := Option.bind_eq_some_iff.mp e
    unfold Rep at r
    obtain ⟨a, vs, O', rfl, r1, r2⟩ := r
    rcases r2 with ⟨z, _⟩ | ⟨o, _⟩
    · exact (tpos_ne e1 z).elim
    · obtain ⟨hl, it⟩ := Rps.its.mp r1
      have hj : j < vs.length := by rw [← hl]; exact (List.getElem?_eq_some_iff.mp e2).1
      obtain ⟨w, e3, k⟩ := kid_of o e1 hj
      obtain ⟨L, pm, _⟩ := zip_take1 e2 e3
      obtain ⟨O1, r3, _⟩ := it.mem (c1, w) (pm.mem_iff.mpr List.mem_cons_self)
      obtain ⟨v, O2, hw, r4⟩ := walk_rep r3 e
      exact ⟨v, O2, ⟨a, w, rfl, k, hw⟩, r4⟩
/-- a name's value, changed at a place; J: what is held besides -/
theorem plw {β : Type} {σ : L2.St} {ρ : Env} {i : Nat} {d : D} {p : List Stp} {f : D → Option (D × β)} {r : D × β} {u v : V} (f0 : Fits ρ σ) (e : ρ[i]? = some (some d)) (eu : dUp f d p = some r) (es : σ[i]? = some (some u)) (hw : Walk K H u p v)
    (G : Gd K B [] F H (J ++ (slots ρ σ ++ I))) : ∃ c c' R' J1, f c = some (c', r.2) ∧ Gd K B R' F H ((c, v) :: (J ++ J1)) ∧
      ∀ F' H' J', (∀ a ∈ R', H' a = H a) → Gd K B R' F' H' ((c', v) :: (J' ++ J1)) → Gd K B [] F' H' (J' ++ (slots (ρ.set i (some r.1)) σ ++ I)) ∧ Fits (ρ.set i (some r.1)) σ := by
  obtain ⟨u', e1, pm, f1⟩ := slots_take f0 e
  rw [es] at e1
  injection e1 with e1
  injection e1 with e1
  subst e1
  have G1 : Gd K B [] F H ((d, u) :: (J ++ (slots (ρ.set i none) σ ++ I))) := G.perm (((pm.append_right I).append_left J).trans List.perm_middle)
  obtain ⟨c, c', R', L, ef, _, G2, close⟩ := Gd.atp eu hw G1
  refine ⟨c, c', R', L ++ (slots (ρ.set i none) σ ++ I), ef, G2.perm (List.Perm.cons _ ?_), fun F' H' J' same G' => ?_⟩
  · rw [← List.append_assoc, ← List.append_assoc J L]
    exact List.perm_append_comm.append_right _
  · obtain ⟨p', f'⟩ := slots_back (d := r.1) f0 es
    refine ⟨?_, f'⟩
    have G3 := close F' H' (J' ++ (slots (ρ.set i none) σ ++ I)) same (G'.perm (List.Perm.cons _ (by
      rw [← List.append_assoc, ← List.append_assoc L J']
      exact List.perm_append_comm.append_right _)))
    exact G3.perm (List.perm_middle.symm.trans ((p'.append_right I).append_left J').symm)
/-- a node is written anew -/
theorem Gd.rew {t : Tg} {ds : List D} {v : V} (G : Gd K B R F H ((.n t ds, v) :: I)) (ht : t ≠ .tup) : ∃ a vs, v = .ref a ∧ Own K H a t vs ∧ ds.length = vs.length ∧ Gd K B (a :: R) F H (ds.zip vs ++ I) ∧
    ∀ (o : HO) (t' : Tg) (vs' : List V) (ds' : List D) (J : List It), (∀ xs, o ≠ .tup xs) → Own K (upd H a o) a t' vs' → ds'.length = vs'.length → Gd K B (a :: R) F H (ds'.zip vs' ++ J) →
      Gd K B R F (upd H a o) ((.n t' ds', .ref a) :: J) ∧ ∀ b ∈ R, upd H a o b = H b := by
  obtain ⟨a, vs, ev, ow, hl, G1⟩ := G.open ht
  refine ⟨a, vs, ev, ow, hl, G1, fun o t' vs' ds' J nt ow' hl' G2 => ⟨(G2.write ow' nt).close ow' hl', fun b hb => upd_ne ?_⟩⟩
  obtain ⟨O, _, nd, _⟩ := G1.ex
  have nd2 := (List.nodup_append.mp nd).2.1
  intro z
  subst z
  exact (List.nodup_cons.mp nd2).1 hb
/-- an operation that changes a node, with values that are held -/
def WrS (X : Cx) (r : V → List V → Hp → VK → Prop) (wf : D → List D → Option (D × D)) : Prop :=
  ∀ (B : Bs) (R : List Addr) (F H : Hp) (J : List It) (c : D) (v : V) (ds : List D) (xs : List V) (c' d : D) (Q : VK), Gd X.K B R F H ((c, v) :: (ds.zip xs ++ J)) → ds.length = xs.length → wf c ds = some (c', d) →
    (∀ H' F' w, (∀ a ∈ R, H' a = H a) → Gd X.K B R F' H' ((c', v) :: (d, w) :: J) → Q w H') → r v xs H Q
/-- the kind of a node that is owned -/
def ndT : D → Option String
  | .n .lst _ => some "list"
  | .n (.dk _) _ => some "dict"
  | .n (.dt _) _ => some "dict"
  | _ => none
theorem ndT_ok {d : D} {v : V} {O : List Addr} {T : String} (r : Rep K F H d v O) (e : ndT d = some T) : tyV K T v H := by
  unfold ndT at e
  split at e
  · cases e
    unfold Rep at r
    obtain ⟨a, vs, O', rfl, _, z⟩ := r
    rcases z with ⟨z, _⟩ | ⟨z, _⟩
    · cases z
    · exact .inl ⟨rfl, vs, .inl (.inl z)⟩
  · cases e
    unfold Rep at r
    obtain ⟨a, vs, O', rfl, _, z⟩ := r
    rcases z with ⟨z, _⟩ | ⟨z, _⟩
    · cases z
    · exact .inr (.inr (.inl ⟨rfl, .inl ⟨_, z.2.2⟩⟩))
  · cases e
    unfold Rep at r
    obtain ⟨a, vs, O', rfl, _, z⟩ := r
    rcases z with ⟨z, _⟩ | ⟨z, _⟩
    · cases z
    · exact .inr (.inr (.inl ⟨rfl, .inr ⟨_, z.2.2⟩⟩))
  · cases e
def mTyp (i : Nat) (T : String) (p : List Stp) : M Unit := fun ρ => match ρ[i]? with
  | some (some d) => match dAt d p with
    | some c => if ndT c = some T then .ok () ρ else .bad
    | none => .bad
  | _ => .bad
theorem typ_ok {σ : L2.St} {i : Nat} {T : String} {p : List Stp} {ρ : Env} {u v : V} {k : Unit → Env → Hp → Hp → Prop} (f : Fits ρ σ) (G : Gd X.K B [] F H (slots ρ σ ++ I)) (eu : σ[i]? = some (some u)) (hw : Walk X.K H u p v)
    (r : Run X B E pr σ F H I (mTyp i T p ρ) k) : tyV X.K T v H ∧ Run X B E pr σ F H I ((mr () : M Unit) ρ) k := by
  unfold mTyp at r
  split at r
  · rename_i d e1
    split at r
    · rename_i c e2
      split at r
      · rename_i e3
        obtain ⟨u', e4, hm⟩ := slots_mem f e1
        rw [eu] at e4
        cases e4
        obtain ⟨O, rp⟩ := G.repm (List.mem_append_left I hm)
        obtain ⟨v', O', hw', rc⟩ := walk_rep rp e2
        cases hw.one hw'
        exact ⟨ndT_ok rc e3, r⟩
      · exact r.elim
    · exact r.elim
  · exact r.elim
def mUpd (pr : Bool) (i : Nat) (wf : D → List D → Option (D × D)) (p : List Stp) (xs : List D) : M D := fun ρ => if pr = true ∨ p = [] then match ρ[i]? with
  | some (some d) => match dUp (fun c => wf c xs) d p with
    | some r => .ok r.2 (ρ.set i (some r.1))
    | none => .bad
  | _ => .bad
  else .bad
def mBmW (pr : Bool) (i : Nat) (T : String) (wf : D → List D → Option (D × D)) (mp : M (List Stp)) (ms : M (List D)) : M D := mb mp fun p => mb (mTyp i T p) fun _ => mb ms fun xs => mUpd pr i wf p xs
theorem upd_ok {r : V → List V → Hp → VK → Prop} {wf : D → List D → Option (D × D)} (hw : WrS X r wf) {σ : L2.St} {ρ : Env} {i : Nat} {p : List Stp} {ds : List D} {xs : List V} {u v : V} {Q : VK} (f : Fits ρ σ) (eu : σ[i]? = some (some u)) (wk : pr = true ∨ p = [] → Walk X.K H u p v)
    (G : Gd X.K B [] F H (ds.zip xs ++ (slots ρ σ ++ I))) (hl : ds.length = xs.length) (k : Run X B E false σ F H I (mUpd pr i wf p ds ρ) fun d ρ' F' H' => ∀ w, Gd X.K B [] F' H' ((d, w) :: (slots ρ' σ ++ I)) → Q w H') : r v xs H Q := by
  unfold mUpd at k
  split at k
  · rename_i hp
    split at k
    · rename_i d e1
      split at k
      · rename_i rr e2
        obtain ⟨c, c', R', J1, ef, G1, close⟩ := plw (J := ds.zip xs) f e1 e2 eu (wk hp) G
        refine hw _ _ _ _ _ _ _ _ _ _ _ _ G1 hl ef fun H' F' w same G' => ?_
        obtain ⟨G2, f2⟩ := close F' H' [(rr.2, w)] same G'
        exact k H' F' (fun z => by cases z) f2 w G2
      · exact k.elim
    · exact k.elim
  · exact k.elim
theorem s_bmW {name : Str} {T id : String} {apos cpos : Pos} {r : V → List V → Hp → VK → Prop} {wf : D → List D → Option (D × D)} {i : Nat} {mp : M (List Stp)} {ms : M (List D)}
    (pa : PlainAttrs T) (slot : Slot T name id) (hty : typeOf (.builtin id) = pure (.type "method_descriptor")) (hm : MtR X id r) (hw : WrS X r wf) (ho : PE X o (TP X B E i mp)) (ha : PA X (e :: es) (Ta X B E pr ms))
    (hbase : attributeBase o name X.env (eval o X.env) = eval o X.env := by rfl)
    (hfew : ((backTo cpos (starEach (e :: es) X.env)).all (fun x => !x.1) && (backToKw cpos (keywordEach [] X.env)).all (fun x => x.1.isSome)
      && decide ((e :: es).length + ([] : List Keyword).length + (if ([] : List Keyword).isEmpty then 0 else 1) < 30)) = true := by rfl)
    (hline : (apos.endLine == cpos.line) = true := by rfl) (hs : starEach (e :: es) X.env = (false, eval e X.env) :: starEach es X.env := by rfl) (hplain : (backTo cpos (starEach es X.env)).any (·.1) = false := by rfl) :
    PE X (.Call (.Attribute o name apos) (e :: es) [] cpos) (Sm.T X B E false (mBmW pr i T wf mp ms)) := PE.imp (pe_bm pa slot hty hm ho ha hbase hfew hline hs hplain) fun σ H Q ⟨ρ, F, I, f0, G, r0⟩ => by
  refine ⟨ρ, F, I, f0, G, ?_⟩
  refine Run.bind (p1 := true) (fun z => by cases z) r0 sub_refl fun q ρ1 H1 F1 s1 f1 r1 u v e1 hwk G1 => ?_
  have r1' : Run X B E false σ F1 H1 I ((mTyp i T q ρ1).bind fun _ => mb ms fun xs => mUpd pr i wf q xs) _ := Run.later (p1 := false) (p2 := false) (I' := I) (fun z => by cases z) (fun z => by cases z) r1 sub_refl fun x ρ' H' F' _ _ k => k
  cases e3 : mTyp i T q ρ1 with
  | ok y ρ2 =>
    have e4 : ρ2 = ρ1 := by
      unfold mTyp at e3
      repeat' split at e3
      all_goals first | (injection e3 with _ e3; exact e3.symm) | cases e3
    subst e4
    rw [e3] at r1'
    obtain ⟨ty, _⟩ := typ_ok (X := X) (B := B) (E := E) (pr := false) (k := fun _ _ _ _ => True) f1 G1 e1 hwk (by rw [e3]; exact fun _ _ _ _ => trivial)
    refine ⟨ty, ρ2, F1, I, f1, G1, ?_⟩
    refine Run.bind (p1 := pr) (fun z => by cases z) (show Run X B E false σ F1 H1 I ((ms ρ2).bind fun xs => mUpd pr i wf q xs) _ from r1') sub_refl fun ds ρ3 H3 F3 s3 f3 r3 xs hl G3 => ?_
    refine upd_ok (pr := pr) hw (p := q) f3 e1 (fun z => ?_) G3 hl (Run.later (p1 := false) (p2 := false) (fun z => by cases z) (fun z => by cases z) r3 sub_refl fun x ρ' H' F' _ _ k => k)
    rcases z with z | z
    · exact hwk.same (s3 z).1
    · subst z
      exact hwk
  | exc x ρ2 =>
    unfold mTyp at e3
    repeat' split at e3
    all_goals cases e3
  | bad => rw [e3] at r1'; exact r1'.elim
/-! ### append -/
def wAppend : D → List D → Option (D × D)
  | .n .lst ds, [x] => if ds.length < sizeLine then some (.n .lst (ds ++ [x]), .non) else none
  | _, _ => none
theorem zip_snoc {ds : List D} {vs : List V} {x : D} {y : V} (hl : ds.length = vs.length) : (ds ++ [x]).zip (vs ++ [y]) = ds.zip vs ++ [(x, y)] := by
  rw [List.zip_append hl]
  rfl
theorem wr_append : WrS X rAppend wAppend := fun B R F H J c v ds xs c' d Q G hl e q => by
  unfold wAppend at e
  split at e
  · rename_i ds' x
    split at e
    · rename_i hz
      cases e
      match xs, hl with
      | [y], _ =>
        obtain ⟨a, vs, rfl, ow, hl', G1, wr⟩ := G.rew (by intro z; cases z)
        obtain ⟨G2, same⟩ := wr (.lst (vs ++ [y])) .lst (vs ++ [y]) (ds' ++ [x]) J (fun _ z => by cases z) upd_same (by simp [hl']) (by
          rw [zip_snoc hl', List.append_assoc]
          exact G1)
        exact ⟨a, vs, y, rfl, rfl, ow, hl' ▸ hz, q _ F .non same (G2.perm (List.Perm.refl _) |>.atom.perm (List.Perm.swap _ _ _))⟩
    · cases e
  · cases e
end
end Sm

namespace Sm
open PySem PySem.Spec PyProof.Rows L2

section
variable {X : Cx} {B : Bs} {E : XK} {Y : Fx} {pr p1 p2 : Bool} {a b c e o value : Expr} {es : List Expr} {pos pos' p : Pos} {K : PySem.W.Frag} {F H : Hp} {I J : List It} {R : List Addr}
/-! ### d[k] = v -/
def wPut (k : Key) : D → List D → Option (D × D)
  | .n (.dk ks) ds, [x] => if ds.length < sizeLine then match idxOf k ks with
    | some j => some (.n (.dk ks) (ds.set j x), .non)
    | none => some (.n (.dk (ks ++ [k])) (ds ++ [x]), .non)
    else none
  | _, _ => none
theorem idxOf_none {α : Type} [DecidableEq α] {x : α} : ∀ {ks : List α}, idxOf x ks = none → x ∉ ks
  | [], _ => by simp
  | k :: ks, e => by
    unfold idxOf at e
    by_cases h : k = x
    · rw [if_pos h] at e; cases e
    · rw [if_neg h] at e
      have e' : idxOf x ks = none := by
        cases z : idxOf x ks with
        | none => rfl
        | some j => rw [z] at e; cases e
      intro hm
      rcases List.mem_cons.mp hm with z | z
      · exact h z.symm
      · exact idxOf_none e' z
theorem idxOf_some {α : Type} [DecidableEq α] {x : α} : ∀ {ks : List α} {j : Nat}, idxOf x ks = some j → ks[j]? = some x
  | [], j, e => by cases e
  | k :: ks, j, e => by
    unfold idxOf at e
    by_cases h : k = x
    · rw [if_pos h] at e
      cases e
      rw [h]
      rfl
    · rw [if_neg h] at e
      obtain ⟨j', e', rfl⟩ := Option.map_eq_some_iff.mp e
      simpa using idxOf_some e'
theorem put_new {ks : List Key} {vs : List V} {k : Key} {v : V} (hl : ks.length = vs.length) (e : idxOf k ks = none) : putK (ks.zip vs) k v = (ks ++ [k]).zip (vs ++ [v]) := by
  unfold putK
  rw [if_neg, List.zip_append hl]
  · rfl
  · intro h
    obtain ⟨q, hq, hk⟩ := List.any_eq_true.mp h
    have h2 : q.1 = k := of_decide_eq_true hk
    exact idxOf_none e (h2 ▸ (List.of_mem_zip (show (q.1, q.2) ∈ _ from hq)).1)
theorem map_miss {k : Key} {v : V} : ∀ {ks : List Key} {vs : List V}, k ∉ ks → ((ks.zip vs).map fun kv => if kv.1 = k then (kv.1, v) else kv) = ks.zip vs
  | [], _, _ => rfl
  | _ :: _, [], _ => rfl
  | q :: ks, w :: vs, h => by
    show (if q = k then (q, v) else (q, w)) :: (ks.zip vs).map _ = (q, w) :: ks.zip vs
    rw [if_neg (fun z => h (by rw [z]; exact List.mem_cons_self)), map_miss fun z => h (List.mem_cons_of_mem _ z)]
theorem map_hit {k : Key} {v : V} : ∀ {ks : List Key} {vs : List V} {j : Nat}, ks.Nodup → ks.length = vs.length → idxOf k ks = some j → ((ks.zip vs).map fun kv => if kv.1 = k then (kv.1, v) else kv) = ks.zip (vs.set j v)
  | [], _, _, _, _, e => by cases e
  | _ :: _, [], _, _, l, _ => by cases l
  | q :: ks, w :: vs, j, nd, l, e => by
    unfold idxOf at e
    by_cases h : q = k
    · rw [if_pos h] at e
      cases e
      show (if q = k then (q, v) else (q, w)) :: (ks.zip vs).map _ = (q, v) :: ks.zip vs
      rw [if_pos h, map_miss (h ▸ (List.nodup_cons.mp nd).1)]
    · rw [if_neg h] at e
      obtain ⟨j', e', rfl⟩ := Option.map_eq_some_iff.mp e
      show (if q = k then (q, v) else (q, w)) :: (ks.zip vs).map _ = (q, w) :: ks.zip (vs.set j' v)
      rw [if_neg h, map_hit (List.nodup_cons.mp nd).2 (Nat.succ.inj l) e']
theorem put_old {ks : List Key} {vs : List V} {k : Key} {v : V} {j : Nat} (nd : ks.Nodup) (hl : ks.length = vs.length) (e : idxOf k ks = some j) : putK (ks.zip vs) k v = ks.zip (vs.set j v) := by
  unfold putK
  rw [if_pos, map_hit nd hl e]
  obtain ⟨w, e1, e2⟩ := idxOf_lookup e hl
  exact List.any_eq_true.mpr ⟨(k, w), List.mem_of_find?_eq_some e2, by simp⟩
/-- a zip, one value exchanged -/
theorem zip_set : ∀ {ds : List D} {vs : List V} {j : Nat} {x : D} {y : V}, j < ds.length → ds.length = vs.length → ∃ L : It × List It, (ds.zip vs).Perm (L.1 :: L.2) ∧ ((ds.set j x).zip (vs.set j y)).Perm ((x, y) :: L.2)
  | [], vs, j, x, y, h, _ => by simp at h
  | d :: ds, [], j, x, y, _, l => by cases l
  | d :: ds, v :: vs, 0, x, y, _, _ => ⟨((d, v), ds.zip vs), .refl _, .refl _⟩
  | d :: ds, v :: vs, j + 1, x, y, h, l => by
    obtain ⟨L, h1, h2⟩ := zip_set (ds := ds) (vs := vs) (j := j) (x := x) (y := y) (by simpa using h) (Nat.succ.inj l)
    exact ⟨(L.1, (d, v) :: L.2), (h1.cons _).trans (List.Perm.swap _ _ _), (h2.cons _).trans (List.Perm.swap _ _ _)⟩
theorem wr_put {k : Key} : WrS X (fun x ys H Q => ∃ a y H', x = .ref a ∧ ys = [y] ∧ DPut H a (kV k) y H' ∧ Q .non H') (wPut k) := fun B R F H J c v ds xs c' d Q G hl e q => by
  unfold wPut at e
  split at e
  · rename_i ks ds' x
    split at e
    · rename_i hz
      match xs, hl with
      | [y], _ =>
        obtain ⟨a, vs, rfl, ow, hl', G1, wr⟩ := G.rew (by intro z; cases z)
        obtain ⟨hk, nd, ho⟩ := (show _ ∧ _ ∧ _ from ow)
        have hz' : (ks.zip vs).length < sizeLine := by
          rw [List.length_zip, hk, Nat.min_self, ← hl']
          exact hz
        split at e
        · rename_i j ej
          cases e
          have hj : j < ds'.length := by
            have h1 := (List.getElem?_eq_some_iff.mp (idxOf_some ej)).1
            omega
          obtain ⟨L, z1, z2⟩ := zip_set (x := x) (y := y) hj hl'
          obtain ⟨G2, same⟩ := wr (.dK (ks.zip (vs.set j y))) (.dk ks) (vs.set j y) (ds'.set j x) J (fun _ z => by cases z) ⟨by simpa using hk, nd, upd_same⟩ (by simp [hl']) (by
            refine Gd.perm (I := (x, y) :: (L.2 ++ J)) ?_ ((z2.append_right J).symm)
            have G3 := G1.perm (z1.append_right _)
            exact G3.tail.perm List.perm_middle)
          exact ⟨a, y, _, rfl, rfl, .inl ⟨_, k, ho, rfl, hz', rfl⟩, q _ F .non (by rw [put_old nd hk ej]; exact same) (by
            rw [put_old nd hk ej]
            exact G2.atom.perm (List.Perm.swap _ _ _))⟩
        · rename_i ej
          cases e
          obtain ⟨G2, same⟩ := wr (.dK ((ks ++ [k]).zip (vs ++ [y]))) (.dk (ks ++ [k])) (vs ++ [y]) (ds' ++ [x]) J (fun _ z => by cases z) ⟨by simp [hk], List.nodup_append.mpr ⟨nd, by simp, fun a ha b hb z => by
              rw [List.mem_singleton.mp hb] at z
              exact idxOf_none ej (z ▸ ha)⟩, upd_same⟩ (by simp [hl']) (by
            rw [zip_snoc hl', List.append_assoc]
            exact G1)
          exact ⟨a, y, _, rfl, rfl, .inl ⟨_, k, ho, rfl, hz', rfl⟩, q _ F .non (by rw [put_new hk ej]; exact same) (by
            rw [put_new hk ej]
            exact G2.atom.perm (List.Perm.swap _ _ _))⟩
    · cases e
  · cases e
def mPutK (i : Nat) (p : List Stp) (x : D) : Option Key → M D
  | some k => mUpd true i (wPut k) p [x]
  | none => fun _ => .bad
def mPut (i : Nat) (mp : M (List Stp)) (mk mv : M D) : M D := mb mv fun x => mb mp fun p => mb mk fun k => mPutK i p x (keyOf k)
def mDo (m : M D) : MS := fun ρ => (m ρ).s fun _ ρ => .next ρ
theorem upd_noexc {pr : Bool} {i : Nat} {wf : D → List D → Option (D × D)} {q : List Stp} {xs : List D} {ρ ρ' : Env} {z : Ex} (e : mUpd pr i wf q xs ρ = .exc z ρ') : False := by
  unfold mUpd at e
  repeat' split at e
  all_goals cases e
theorem c_put {i : Nat} {mp : M (List Stp)} {mk mv : M D} (hu : X.A.units + 1 < cLine) (ho : PE X o (TP X B E i mp)) (hi : PE X e (TV X B E true mk)) (hv : PE X value (T X B E pr mv)) (hs : swapsWith value (some (.Subscript o e pos')) pos.line X.env = pure false := by rfl) :
    PS X (.Assign [.Subscript o e pos'] value pos) (TSt X B Y E (mDo (mPut i mp mk mv))) := PS.imp (ps_dput hu ho hi hv hs) fun D σ H ⟨ρ, F, I, ok, f, G, r⟩ => by
  refine ⟨ρ, F, I, f, G, ?_⟩
  have r' : Run X B E false σ F H I (mPut i mp mk mv ρ) fun _ ρ' F' H' => ∀ (d : Sm.D) w, Gd X.K B [] F' H' ((d, w) :: (slots ρ' σ ++ I)) → D.nx σ H' :=
    SRun.run (f := fun _ ρ => .next ρ) (pr := false) ok r sub_refl fun x ρ1 H1 F1 _ f1 r1 d w G1 => r1 σ H1 F1 ok f1 G1.tail
  refine Run.bind (p1 := pr) (fun z => by cases z) r' sub_refl fun x ρ1 H1 F1 s1 f1 r1 v G1 => ?_
  refine ⟨ρ1, F1, (x, v) :: I, f1, G1.perm List.perm_middle.symm, ?_⟩
  have r2 : Run X B E false σ F1 H1 ((x, v) :: I) ((mp ρ1).bind fun p => mb mk fun k => mPutK i p x (keyOf k)) _ := Run.later (p1 := false) (p2 := false) (fun z => by cases z) (fun z => by cases z) r1 (fun {ρ'} => sub_cons (J := [(x, v)])) fun x ρ' H' F' _ _ k => k
  refine Run.bind (p1 := true) (fun z => by cases z) r2 sub_refl fun q ρ2 H2 F2 s2 f2 r3 u w e1 hwk G2 => ?_
  refine ⟨ρ2, F2, (x, v) :: I, f2, G2, ?_⟩
  have r4 : Run X B E false σ F2 H2 ((x, v) :: I) ((mk ρ2).bind fun k => mPutK i q x (keyOf k)) _ := Run.later (p1 := false) (p2 := false) (fun z => by cases z) (fun z => by cases z) r3 sub_refl fun x ρ' H' F' _ _ k => k
  refine Run.bind (p1 := true) (fun z => by cases z) r4 sub_refl fun y ρ3 H3 F3 s3 f3 r5 yv O rp G3 => ?_
  cases ek : keyOf y with
  | none => rw [ek] at r5; exact r5.elim
  | some k =>
    rw [ek] at r5
    rw [keyOf_ok rp ek]
    have G4 : Gd X.K B [] F3 H3 ([x].zip [v] ++ (slots ρ3 σ ++ I)) := G3.perm List.perm_middle
    have r6 : Run X B E false σ F3 H3 I (mUpd true i (wPut k) q [x] ρ3) fun _ ρ' F' H' => ∀ (d : Sm.D) w, Gd X.K B [] F' H' ((d, w) :: (slots ρ' σ ++ I)) → D.nx σ H' := by
      cases e6 : mUpd true i (wPut k) q [x] ρ3 with
      | ok z ρ4 => exact fun H' F' _ f => Run.ok r5 e6 H' F' (fun z => by cases z) f
      | exc z ρ4 => exact (upd_noexc e6).elim
      | bad => exact (Run.bad r5 e6).elim
    obtain ⟨a, y', H', e2, e3, e4, e5⟩ := upd_ok (pr := true) (Q := fun w H' => D.nx σ H') wr_put f3 e1 (fun _ => hwk.same (s3 rfl).1) G4 rfl (Run.later (p1 := false) (p2 := false) (fun z => by cases z) (fun z => by cases z) r6 sub_refl fun x ρ' H' F' _ _ k w G' => k x w G')
    cases e3
    exact ⟨a, H', e2, e4, e5⟩

/-! ### displays of dicts -/
/-- {k: v, ..}: keys that are texts of the program -/
structure DPs (X : Cx) (B : Bs) (E : XK) (pos : Pos) (pr : Bool) (keys : List (Option Expr)) (values : List Expr) (ks : List Str) (ms : M (List D)) : Prop where
  ex : ∃ trs, PPs X pos keys values trs ∧ ∀ (σ : L2.St) (H : Hp) (Q : List (V × V) → Hp → Prop), (Rdg X B E pr ms σ H fun ds ρ' I F' H' => ∀ vs, ds.length = vs.length → ds.length = ks.length → Gd X.K B [] F' H' (ds.zip vs ++ (slots ρ' σ ++ I)) → Q ((ks.map V.str).zip vs) H') → tPairs trs σ H Q
theorem dp_nil : DPs X B E pos true [] [] [] mNil := ⟨[], pps_nil, fun σ H Q ⟨ρ, F, I, f, G, r⟩ => r.mr H F (fun _ => Same.rfl2) f [] rfl rfl G⟩
theorem dp_cons {keys : List (Option Expr)} {values : List Expr} {ks : List Str} {k : Str} {j : Nat} {m : M D} {ms : M (List D)} (hv : PE X e (T X B E p1 m)) (hr : DPs X B E pos p2 keys values ks ms) :
    DPs X B E pos (p1 && p2) (some (.Constant (.str k) j pos') :: keys) (e :: values) (k :: ks) (mCons m ms) := by
  obtain ⟨trs, h1, h2⟩ := hr.ex
  refine ⟨_, pps_cons pe_str hv h1, fun σ H Q ⟨ρ, F, I, f, G, r0⟩ => ?_⟩
  refine ⟨ρ, F, I, f, G, ?_⟩
  refine Run.bind (fun z => (Bool.and_eq_true_iff.mp z).1) r0 sub_refl fun x ρ1 H1 F1 s1 f1 r1 v G1 => ?_
  refine h2 _ _ _ ⟨ρ1, F1, (x, v) :: I, f1, G1.perm List.perm_middle.symm, ?_⟩
  have r2 := Run.later (p2 := p1 && p2) (I' := (x, v) :: I) (fun z => ⟨(Bool.and_eq_true_iff.mp z).1, z⟩) s1 r1 (fun {ρ'} => sub_cons (J := [(x, v)])) fun x ρ' H' F' _ _ k => k
  refine Run.bind (fun z => (Bool.and_eq_true_iff.mp z).2) r2 sub_refl fun y ρ2 H2 F2 s2 f2 r3 ws hl hk G2 => ?_
  refine r3.mr H2 F2 (fun z => s2 (Bool.and_eq_true_iff.mp z).2) f2 (v :: ws) (congrArg Nat.succ hl) (congrArg Nat.succ hk) (G2.perm ?_)
  show (y.zip ws ++ (slots ρ2 σ ++ (x, v) :: I)).Perm ((x, v) :: (y.zip ws ++ (slots ρ2 σ ++ I)))
  rw [← List.append_assoc, ← List.append_assoc]
  exact List.perm_middle
def mDisp (ks : List Str) (ds : List D) : M D := fun ρ => if ds.length = ks.length then .ok (.n (.dk (ks.map .inr)) ds) ρ else .bad
theorem merge_new : ∀ (more kvs : List (Key × V)), (kvs ++ more).map (·.1) |>.Nodup → mergeK kvs more = kvs ++ more
  | [], kvs, _ => (List.append_nil kvs).symm
  | q :: r, kvs, nd => by
    have h1 : valV kvs q.1 = none := by
      cases z : valV kvs q.1 with
      | none => rfl
      | some x =>
        have h2 : (kvs.any fun kv => decide (kv.1 = q.1)) = true := by rw [valV_any, z]; rfl
        obtain ⟨w, hw, hk⟩ := List.any_eq_true.mp h2
        have h3 : w.1 = q.1 := of_decide_eq_true hk
        rw [List.map_append] at nd
        exact ((List.nodup_append.mp nd).2.2 w.1 (List.mem_map_of_mem hw) q.1 (List.mem_map_of_mem List.mem_cons_self) h3).elim
    show mergeK (putK kvs q.1 q.2) r = _
    rw [putK_new _ h1, merge_new r _ (by rw [List.append_assoc]; exact nd), List.append_assoc]
    rfl
theorem nodup_inr : ∀ {ks : List Str}, ks.Nodup → (ks.map Sum.inr : List Key).Nodup
  | [], _ => List.nodup_nil
  | k :: ks, h => List.nodup_cons.mpr ⟨fun z => by
      obtain ⟨y, hy, e⟩ := List.mem_map.mp z
      injection e with e
      exact (List.nodup_cons.mp h).1 (e ▸ hy), nodup_inr (List.nodup_cons.mp h).2⟩
theorem zip_keys : ∀ {ks : List Str} {vs : List V}, (ks.map V.str).zip vs = ((ks.map Sum.inr : List Key).zip vs).map fun kv => (kV kv.1, kv.2)
  | [], _ => rfl
  | k :: ks, [] => rfl
  | k :: ks, v :: vs => congrArg ((V.str k, v) :: ·) (zip_keys (ks := ks) (vs := vs))
theorem s_disp {keys : List (Option Expr)} {values : List Expr} {ks : List Str} {ms : M (List D)} (h : DPs X B E pos pr keys values ks ms) (nd : ks.Nodup) (hall : keys.all (·.isSome) = true := by rfl) (hl : keys.length = values.length := by rfl) (h0 : keys ≠ [] := by intro z; cases z)
    (h15 : keys.length ≤ 15 := by decide) (hk : ks.length ≤ 15 := by decide) : PE X (.Dict keys values pos) (T X B E pr (mb ms (mDisp ks))) := by
  obtain ⟨trs, h1, h2⟩ := h.ex
  refine PE.imp (pe_disp h1 hall hl h0 h15) fun σ H Q ⟨ρ, F, I, f, G, r0⟩ q hq => ?_
  have G0 : Gd X.K B [] F (upd H q (.dK [])) ((.n (.dk []) [], .ref q) :: (slots ρ σ ++ I)) :=
    (G.alloc hq (fun _ e => by cases e) (t := .dk []) (vs := []) ⟨rfl, List.nodup_nil, upd_same⟩).close (ds := []) ⟨rfl, List.nodup_nil, upd_same⟩ rfl
  refine h2 _ _ _ ⟨ρ, F, (.n (.dk []) [], .ref q) :: I, f, G0.perm List.perm_middle.symm, ?_⟩
  have sm : Same H (upd H q (.dK [])) := Same.alloc hq
  cases em0 : ms ρ with
  | bad => exact (Run.bad (r := (ms ρ).bind (mDisp ks)) r0 (by rw [em0]; rfl)).elim
  | exc x ρ1 => exact fun cls dd H' F' f1 G1 => Run.exc (r := (ms ρ).bind (mDisp ks)) r0 (by rw [em0]; rfl) cls dd H' F' f1 (G1.drop (sub_cons (J := [(.n (.dk []) [], .ref q)])))
  | ok ds ρ1 =>
  intro H1 F1 s1 f1 vs hl1 hl2 G1
  have r1 : Run X B E pr σ F H I (mDisp ks ds ρ1) fun d ρ' F' H' => ∀ v, Gd X.K B [] F' H' ((d, v) :: (slots ρ' σ ++ I)) → Q v H' := by
    have z : Run X B E pr σ F H I ((ms ρ).bind (mDisp ks)) fun d ρ' F' H' => ∀ v, Gd X.K B [] F' H' ((d, v) :: (slots ρ' σ ++ I)) → Q v H' := r0
    rw [em0] at z
    exact z
  have G2 : Gd X.K B [] F1 H1 ((.n (.dk []) [], .ref q) :: (ds.zip vs ++ (slots ρ1 σ ++ I))) := G1.perm (by
    rw [← List.append_assoc, ← List.append_assoc]
    exact List.perm_middle)
  obtain ⟨a, vs0, ea, ow, hl0, G3, wr⟩ := G2.rew (by intro z; cases z)
  cases ea
  have e0 : vs0 = [] := List.length_eq_zero_iff.mp hl0.symm
  subst e0
  have hkv : ks.length = vs.length := hl2.symm.trans hl1
  have ekv : (ks.map V.str).zip vs = ((ks.map Sum.inr : List Key).zip vs).map fun kv => (kV kv.1, kv.2) := zip_keys
  have nd2 : (ks.map Sum.inr : List Key).Nodup := nodup_inr nd
  have em : mergeK [] ((ks.map Sum.inr : List Key).zip vs) = (ks.map Sum.inr : List Key).zip vs := merge_new _ _ (by
    rw [List.nil_append, List.map_fst_zip (by rw [List.length_map]; omega)]
    exact nd2)
  refine ⟨ow.2.2, (ks.map Sum.inr : List Key).zip vs, ekv, by rw [List.length_zip, List.length_map]; omega, ?_⟩
  rw [em]
  obtain ⟨G4, _⟩ := wr (.dK ((ks.map Sum.inr : List Key).zip vs)) (.dk (ks.map Sum.inr)) vs ds (slots ρ1 σ ++ I) (fun _ z => by cases z) ⟨by rw [List.length_map]; exact hkv, nd2, upd_same⟩ hl1 G3
  refine Run.ok (x := .n (.dk (ks.map .inr)) ds) (ρ := ρ1) r1 (by unfold mDisp; rw [if_pos hl2]) _ F1 (fun z => ?_) f1 (.ref q) G4
  obtain ⟨sa, sb⟩ := s1 z
  refine ⟨fun b u hb => ?_, sb⟩
  have hne : b ≠ q := fun z => by rw [z, hq] at hb; cases hb
  have hb' : upd H q (.dK []) b = some u := by rw [upd_ne hne]; exact hb
  rw [upd_ne hne]
  exact sa b u hb'
theorem s_dnew : PE X (.Dict [] [] pos) (T X B E true (mr (.n (.dk []) []))) := PE.imp pe_dnewK fun σ H Q ⟨ρ, F, I, f, G, r⟩ q hq =>
  r.mr _ F (fun _ => ⟨Same.alloc hq, fun _ _ h => h⟩) f (.ref q) ((G.alloc hq (fun _ e => by cases e) (t := .dk []) (vs := []) ⟨rfl, List.nodup_nil, upd_same⟩).close (ds := []) ⟨rfl, List.nodup_nil, upd_same⟩ rfl)
theorem s_dnewT : PE X (.Dict [] [] pos) (T X B E true (mr (.n (.dt []) []))) := PE.imp pe_dnewT fun σ H Q ⟨ρ, F, I, f, G, r⟩ q hq =>
  r.mr _ F (fun _ => ⟨Same.alloc hq, fun _ _ h => h⟩) f (.ref q) ((G.alloc hq (fun _ e => by cases e) (t := .dt []) (vs := []) ⟨rfl, List.nodup_nil, upd_same⟩).close (ds := []) ⟨rfl, List.nodup_nil, upd_same⟩ rfl)
end
end Sm

namespace Sm
open PySem PySem.Spec PyProof.Rows L2

section
variable {X : Cx} {B : Bs} {E : XK} {Y : Fx} {pr p1 p2 : Bool} {a b c e o value : Expr} {es : List Expr} {pos pos' p : Pos} {K : PySem.W.Frag} {F H : Hp} {I J : List It} {R : List Addr}
/-! ### one of two readings -/
theorem PE.alt {t t' : TE} (h : PE X e t) (h' : PE X e t') : PE X e (fun σ H Q => t σ H Q ∨ t' σ H Q) := ⟨fun pins s σ H Q I hq => by
  rcases hq with hq | hq
  · exact h.run pins s σ H Q I hq
  · exact h'.run pins s σ H Q I hq⟩
theorem Rdg.congr {α : Type} {m m' : M α} {σ : L2.St} {H : Hp} {k : α → Env → List It → Hp → Hp → Prop} (q : ∃ ρ F I, Fits ρ σ ∧ Gd X.K B [] F H (slots ρ σ ++ I) ∧ m ρ = m' ρ ∧ Run X B E pr σ F H I (m ρ) fun x ρ' F' H' => k x ρ' I F' H') : Rdg X B E pr m' σ H k := by
  obtain ⟨ρ, F, I, f, G, e, r⟩ := q
  rw [e] at r
  exact ⟨ρ, F, I, f, G, r⟩
theorem v_alt {m m1 m2 : M D} (h1 : PE X e (TV X B E pr m1)) (h2 : PE X e (TV X B E pr m2)) (hm : ∀ ρ, m ρ = m1 ρ ∨ m ρ = m2 ρ) : PE X e (TV X B E pr m) := PE.imp (PE.alt h1 h2) fun σ H Q ⟨ρ, F, I, f, G, r⟩ => by
  rcases hm ρ with z | z
  · exact .inl (Rdg.congr ⟨ρ, F, I, f, G, z, r⟩)
  · exact .inr (Rdg.congr ⟨ρ, F, I, f, G, z, r⟩)
theorem s_alt {m m1 m2 : M D} (h1 : PE X e (T X B E pr m1)) (h2 : PE X e (T X B E pr m2)) (hm : ∀ ρ, m ρ = m1 ρ ∨ m ρ = m2 ρ) : PE X e (T X B E pr m) := PE.imp (PE.alt h1 h2) fun σ H Q ⟨ρ, F, I, f, G, r⟩ => by
  rcases hm ρ with z | z
  · exact .inl (Rdg.congr ⟨ρ, F, I, f, G, z, r⟩)
  · exact .inr (Rdg.congr ⟨ρ, F, I, f, G, z, r⟩)
theorem bin_alt {f g h : D → D → Option D} {m1 m2 : M D} (hf : ∀ x y, f x y = g x y ∨ f x y = h x y) (ρ : Env) : mBin f m1 m2 ρ = mBin g m1 m2 ρ ∨ mBin f m1 m2 ρ = mBin h m1 m2 ρ := by
  unfold mBin mb
  cases m1 ρ with
  | bad => exact .inl rfl
  | exc x ρ1 => exact .inl rfl
  | ok x ρ1 =>
    show (m2 ρ1).bind _ = (m2 ρ1).bind _ ∨ (m2 ρ1).bind _ = (m2 ρ1).bind _
    cases m2 ρ1 with
    | bad => exact .inl rfl
    | exc y ρ2 => exact .inl rfl
    | ok y ρ2 =>
      show mo (f x y) ρ2 = mo (g x y) ρ2 ∨ mo (f x y) ρ2 = mo (h x y) ρ2
      rcases hf x y with z | z
      · rw [z]
        exact .inl rfl
      · rw [z]
        exact .inr rfl
/-! ### o[e], any o -/
theorem rd_ixV : Rd2V X (rIx X.K) dIxV := fun B R F H I v1 v2 O1 O2 d1 d2 d Q G r1 r2 e q => by
  unfold dIxV at e
  cases u : un d1 with
  | a x =>
    simp only [u] at e
    have ev := r1.atom u
    subst ev
    cases v1 with
    | str z =>
      cases d2 with
      | a y => cases y with
        | int i =>
          have e' : (if z.length ≤ sizeLine then (atI z.cps.toList i).map fun c => D.str ⟨#[c]⟩ else none) = some d := e
          split at e'
          · rename_i hz
            obtain ⟨c, ec, e'⟩ := Option.map_eq_some_iff.mp e'
            subst e'
            exact .inr (.inr ⟨z, i, c, rfl, atom_of r2, hz, ec, q _ [] (by unfold Rep; exact ⟨rfl, rfl⟩)⟩)
          · cases e'
        | _ => cases e
      | n t ds => cases e
      | sh d' => cases e
    | _ => cases e
  | n t ds =>
    simp only [u] at e
    obtain ⟨a, vs, rfl, h2, hl, hk⟩ := r1.parts u G.le
    cases d2 with
    | a y => cases y with
      | int i =>
        cases t with
        | lst =>
          obtain ⟨v, ev, hm⟩ := atI_zip hl (show atI ds i = some d from e)
          obtain ⟨O', rp⟩ := hk _ hm
          exact .inl ⟨a, vs, i, v, rfl, atom_of r2, .inl h2, ev, q v O' rp⟩
        | tup =>
          obtain ⟨v, ev, hm⟩ := atI_zip hl (show atI ds i = some d from e)
          obtain ⟨O', rp⟩ := hk _ hm
          exact .inr (.inl ⟨a, vs, i, v, rfl, atom_of r2, TupAt.sq h2, ev, q v O' rp⟩)
        | kl => cases e
        | dk ks => cases e
        | dt ks => cases e
        | ins C fs => cases e
      | _ => cases t <;> cases e
    | n t' ds' => cases t <;> cases e
    | sh d' => cases t <;> cases e
  | sh d' => simp only [u] at e; cases e
theorem v_ix {m1 m2 : M D} (ha : PE X a (TV X B E p1 m1)) (hb : PE X b (TV X B E true m2)) (hs : PlainIx b := by exact fun _ _ => rfl) : PE X (.Subscript a b pos) (TV X B E p1 (mBin dIxV m1 m2)) := PE.imp (pe_ix ix_seq ha hb hs) (tbinVV rd_ixV)
/-- o[e] -/
def dSub (d k : D) : Option D := match un d with
  | .n (.dk _) _ => dGet d k
  | _ => dIxV d k
theorem dSub_alt (x y : D) : dSub x y = dIxV x y ∨ dSub x y = dGet x y := by
  unfold dSub
  split
  · exact .inr rfl
  · exact .inl rfl
theorem v_subs {m1 m2 : M D} (hu : X.A.units + 1 < cLine) (ho : PE X o (TV X B E p1 m1)) (hi : PE X e (TV X B E true m2)) (hs : NoSl e := by intro _ _; rfl) (hs' : PlainIx e := by exact fun _ _ => rfl) : PE X (.Subscript o e pos) (TV X B E p1 (mBin dSub m1 m2)) :=
  v_alt (v_ix ho hi hs') (s_dget hu ho hi hs) (bin_alt dSub_alt)
/-! ### a value, frozen -/
def mShr (m : M D) : M D := mb m fun x => mr (shr x)
theorem s_shr {m : M D} (h : PE X e (T X B E pr m)) : PE X e (T X B E pr (mShr m)) := PE.imp h fun σ H Q ⟨ρ, F, I, f, G, r⟩ => by
  refine ⟨ρ, F, I, f, G, ?_⟩
  refine Run.bind (fun z => z) r sub_refl fun x ρ1 H1 F1 s1 f1 r1 v G1 => ?_
  obtain ⟨F', sb, G2⟩ := G1.freeze
  exact r1.mr H1 F' (fun z => ⟨(s1 z).1, fun a o e => sb a o ((s1 z).2 a o e)⟩) f1 v G2
end
end Sm

namespace Sm
open PySem PySem.Spec PyProof.Rows L2

/-- the end of a law -/
theorem walk_E {l : PySem.W.OpenLaw} {n k : Nat} {q : Program} {loose : List Str} {XP : (Str → Option Value) → Heap → Prop} {YP : World → Heap → Prop} {d : DefRec} {x : Str}
    (hn : l.most = some n) (hn2 : n ≤ sizeLine) (hdf : d.params.defaults = []) (hr : Room k callerA)
    (F : ∀ (w : World) (mg : Str → Option Value) (fa : Addr) (h : Heap), YP w h → h.Ns mainGlobals mg → mg d.name = some (.ref fa) →
      ∃ (K : PySem.W.Frag) (fd : FuncData) (fm : FM), K.In h ∧ (∀ (s : Shared) (u : Value), BindsTo s fd ⟨[u], []⟩ [(x, u)]) ∧
        (∀ ns : List Int, ns.length ≤ n → (∀ z ∈ ns, Builtin.Int.intBits z ≤ 1048576) → fm [.sh (.n .kl (ns.map D.int))] = .ok (.bl true) []) ∧
        ∀ base : Heap, K.In base → base.Ns mainGlobals mg → FnOk l.prog w K mg base (CX l.prog w) k fa fd [x] (spF K [false] fm)) :
    PySem.W.WalkO q loose XP YP l.row.toRowW d [] (fun f vs => PySem.call f vs) := by
  refine Att.attach_callB hn hdf fun w s₀ s₁ mg mb fa o pm cd doc a vs ns G Y ho hd hcd hmg hobj hints hlen hbits hg => ?_
  obtain ⟨K, fd, fm, KX, hb, hm, hF⟩ := F w mg fa _ Y G.T.g hmg
  refine law_call KX G.T.g G.T.b G.T.builtins G.T.nolimit hg hobj hints (Nat.le_trans hlen hn2) hr hF hb (fun H hO hS => ?_) fun H e s' h => ?_
  · refine ⟨[.sh (.n .kl (ns.map D.int))], H, [], rfl, rfl, ⟨fun _ _ h => h, fun _ _ h => h, ⟨[], ⟨[], [], rfl, ?_, rfl⟩, by simp, by simp⟩, by simp, fun _ _ h => h, fun _ _ h => .inl h, fun _ _ h _ => h⟩, ?_⟩
    · show Rep K H H (.sh (.n .kl (ns.map D.int))) (.ref a) []
      have vl : ∀ ks : List Int, Vls K H (ks.map D.int) (ks.map V.int) := fun ks => by
        induction ks with
        | nil => unfold Vls; rfl
        | cons i ks ih =>
          rw [List.map_cons, List.map_cons]
          unfold Vls
          exact ⟨_, _, rfl, by unfold Val; rfl, ih⟩
      unfold Rep Val
      exact ⟨⟨a, ns.map V.int, rfl, hS, vl ns⟩, rfl⟩
    · rw [hm ns hlen hbits]
      intro v H' F' _ G'
      have z := G'.val0
      unfold Val at z
      exact z
  · obtain ⟨_, _, _, _, _, _, _, _, _, _, _, _, h⟩ := h
    exact h
end Sm

namespace Sm
open PySem PySem.Spec PyProof.Rows L2

section
variable {X : Cx} {B : Bs} {E : XK} {Y : Fx} {pr p1 p2 : Bool} {a b c e o value : Expr} {es : List Expr} {pos pos' p : Pos} {K : PySem.W.Frag} {F H : Hp} {I J : List It} {R : List Addr}
/-! ### small ones -/
def dIpI (f : Int → Int → Int) : D → D → Option D := dI fun i j => .int (f i j)
theorem rd_ipI {f : Int → Int → Int} : Rd2 X (ipI f) (dIpI f) := fun B R F H I v1 v2 O1 O2 d1 d2 d Q G r1 r2 e q => by
  unfold dIpI dI at e
  split at e
  · rename_i i j
    cases e
    exact ⟨i, j, atom_of r1, atom_of r2, Fin.atom G q⟩
  · cases e
def dNeg : D → Option D
  | .a (.int i) => some (.int (-i))
  | _ => none
theorem rd_neg : Rd1 X (rU fun i => .int (-i)) dNeg := fun B R F H I v1 O1 d1 d Q G r1 e q => by
  unfold dNeg at e
  split at e
  · rename_i i
    cases e
    exact ⟨i, atom_of r1, Fin.atom G q⟩
  · cases e
def mNotT (m : M D) : M D := mb (mb m mTru) fun k => mr (.bl (!k))
theorem s_not {m : M D} (h : PE X a (TV X B E pr m)) : PE X (.UnaryOp .Not a pos) (T X B E pr (mNotT m)) := PE.imp (pe_notT h) fun σ H Q ⟨ρ, F, I, f, G, r⟩ => by
  refine ttru (pr := pr) σ H (fun k H' => Q (.bl (!k)) H') ⟨ρ, F, I, f, G, ?_⟩
  refine Run.bind (fun z => z) r sub_refl fun x ρ1 H1 F1 s1 f1 r1 G1 => ?_
  exact (Run.mr r1) H1 F1 s1 f1 _ G1.atom
theorem tupK {a : Addr} {xs : List V} (h : ∀ H : Hp, SqT K H a xs) (H : Hp) : TupAt K H a xs := by
  rcases h (fun _ => none) with (h | ⟨o, h⟩) | h
  · cases h
  · cases h
  · exact .inr h
theorem s_gtup2 {x : Str} {a : Addr} {ys : List Str} (hg : Gl X x) (hm : X.mg x = some (.ref a)) (hs : ∀ H : Hp, SqT X.K H a (ys.map V.str)) (hd : (x == ("__debug__" : Str)) = false := by decide) :
    PE X (.Name x pos) (T X B E true (mr (.tup (ys.map D.str)))) := by
  have z := s_gtup (X := X) (B := B) (E := E) (pos := pos) hg hm (tupK hs) hd
  rw [List.map_map] at z
  exact z
def mMeth (T : String) (f : List D → Option D) (m : M D) (ms : M (List D)) : M D := mb m fun x => mb (if tyN x = some T then mr () else fun _ => .bad) fun _ => mb ms fun ys => mo (f (x :: ys))
/-- .. the receiver held, the arguments may change things -/
theorem s_bmT {name : Str} {T : String} {id : String} {apos : Pos} {r : V → List V → Hp → VK → Prop} {f : List D → Option D} {m : M D} {ms : M (List D)}
    (pa : PlainAttrs T) (slot : Slot T name id) (hty : typeOf (.builtin id) = pure (.type "method_descriptor")) (hm : MtR X id r)
    (hv : ∀ (B : Bs) (R : List Addr) (F H : Hp) (I : List It) (v : V) (O : List Addr) (d : D), Gd X.K B R F H I → Rep X.K F H d v O → tyN d = some T → tyV X.K T v H)
    (hr : Rda X (fun xs H Q => ∃ x ys, xs = x :: ys ∧ r x ys H Q) f) (ho : PE X o (Sm.T X B E p1 m)) (ha : PA X (e :: es) (TVa X B E p2 ms))
    (hbase : attributeBase o name X.env (eval o X.env) = eval o X.env := by rfl)
    (hfew : ((backTo pos (starEach (e :: es) X.env)).all (fun x => !x.1) && (backToKw pos (keywordEach [] X.env)).all (fun x => x.1.isSome)
      && decide ((e :: es).length + ([] : List Keyword).length + (if ([] : List Keyword).isEmpty then 0 else 1) < 30)) = true := by rfl)
    (hline : (apos.endLine == pos.line) = true := by rfl) (hs : starEach (e :: es) X.env = (false, eval e X.env) :: starEach es X.env := by rfl) (hplain : (backTo pos (starEach es X.env)).any (·.1) = false := by rfl) :
    PE X (.Call (.Attribute o name apos) (e :: es) [] pos) (Sm.T X B E (p1 && p2) (mMeth T f m ms)) := PE.imp (pe_bm pa slot hty hm ho ha hbase hfew hline hs hplain) fun σ H Q ⟨ρ, F, I, f0, G, r0⟩ => by
  refine ⟨ρ, F, I, f0, G, ?_⟩
  refine Run.bind (fun z => (Bool.and_eq_true_iff.mp z).1) r0 sub_refl fun x ρ1 H1 F1 s1 f1 r1 v G1 => ?_
  by_cases hx : tyN x = some T
  · rw [if_pos hx] at r1
    obtain ⟨O1, rp1⟩ := G1.rep
    refine ⟨hv _ _ _ _ _ _ _ _ G1 rp1 hx, ρ1, F1, (x, v) :: I, f1, G1.perm List.perm_middle.symm, ?_⟩
    have r2 := Run.later (p2 := p1 && p2) (I' := (x, v) :: I) (fun z => ⟨(Bool.and_eq_true_iff.mp z).1, z⟩) s1 (show Run X B E (p1 && p2) σ F H I (mb ms (fun ys => mo (f (x :: ys))) ρ1) _ from r1) (fun {ρ'} => sub_cons (J := [(x, v)])) fun x ρ' H' F' _ _ k => k
    refine Run.bind (fun z => (Bool.and_eq_true_iff.mp z).2) r2 sub_refl fun y ρ2 H2 F2 s2 f2 r3 ws rp G2 => ?_
    obtain ⟨d, e, k⟩ := r3.mo
    have G3 : Gd X.K B [] F2 H2 ((x, v) :: (slots ρ2 σ ++ I)) := G2.perm List.perm_middle
    obtain ⟨O2, rp2⟩ := G3.rep
    obtain ⟨x', ys', ex, hh⟩ := hr _ _ _ _ _ (v :: ws) (x :: y) d Q G3.tail (Vws.cons rp2 rp) e fun w H' F' s' sb G' => k H' F' (fun z => ⟨(s2 (Bool.and_eq_true_iff.mp z).2).1.trans s', fun a o e => sb a o ((s2 (Bool.and_eq_true_iff.mp z).2).2 a o e)⟩) f2 w G'
    obtain ⟨rfl, rfl⟩ := List.cons.inj ex
    exact hh
  · rw [if_neg hx] at r1
    exact r1.elim
theorem pass_c {P : Program} {w : World} {mg : Str → Option Value} {base : Heap} {N : List Str} {qual : Str} {scope : Scope} {f : Addr} {cdv : Value} {A : Around} {outer : List PySem.Env} {s : Shared} :
    Passes (CX P w) (cxOf (CX P w) P w K mg base N qual scope f cdv A outer s H E) E := passes_call (takes_of rfl rfl rfl rfl) fun _ _ _ _ h => h
theorem cNz_ok (i j : Int) (h : cNz i j = true) : j ≠ 0 := of_decide_eq_true h
def blkB (N : List Str) (sc scope : Scope) (own : List (Str × Nat)) : Bool :=
  decide (scope.kind = .function) && ((scope.names.all fun y => decide (scope.names.lookup y.1 = some y.2)) && ((own.all fun p => decide (N[p.2]? = some p.1)) &&
  ((scope.names.all fun y => !decide (y.2 = .free) || (decide (sc.names.lookup y.1 = some .cell) || decide (sc.names.lookup y.1 = some .free))) &&
    scope.names.all fun y => !(decide (y.2 = .local) || decide (y.2 = .cell)) || (decide (y.1 ∈ own.map (·.1)) || !decide (y.1 ∈ N)))))
theorem blk_ok {N : List Str} {sc scope : Scope} {own : List (Str × Nat)} (h : blkB N sc scope own = true) : BlkOk N sc scope own := by
  unfold blkB at h
  simp only [Bool.and_eq_true, List.all_eq_true, Bool.or_eq_true, Bool.not_eq_true', decide_eq_true_eq, decide_eq_false_iff_not] at h
  obtain ⟨h1, h2, h3, h4, h5⟩ := h
  refine ⟨h1, h2, h3, fun y hy hf => ?_, fun y hy hf => ?_⟩
  · rcases h4 y hy with z | z
    · exact (z hf).elim
    · exact z
  · rcases h5 y hy with z | z
    · have z' : ¬ (y.2 = .local ∨ y.2 = .cell) := by
        intro q
        rcases q with q | q <;> simp [q] at z
      exact (z' hf).elim
    · exact z
theorem T.lit {m : M D} (h : PE X e (T X B E p1 m)) (hp : p1 = p2) : PE X e (T X B E p2 m) := hp ▸ h
theorem TV.lit {m : M D} (h : PE X e (TV X B E p1 m)) (hp : p1 = p2) : PE X e (TV X B E p2 m) := hp ▸ h
theorem Ta.lit {m : M (List D)} (h : PA X es (Ta X B E p1 m)) (hp : p1 = p2) : PA X es (Ta X B E p2 m) := hp ▸ h
theorem TVa.lit {m : M (List D)} (h : PA X es (TVa X B E p1 m)) (hp : p1 = p2) : PA X es (TVa X B E p2 m) := hp ▸ h
theorem TOp.lit {m : M (Option Int)} {o : Option Expr} (h : PO X o (TOp X B E p1 m)) (hp : p1 = p2) : PO X o (TOp X B E p2 m) := hp ▸ h
theorem c_setLc {i : Nat} {y : Str} {py spos : Pos} {elt tg iter : Expr} {ifs : List Expr} {scope : Scope} {own : List (Str × Nat)} {mi : M (List D)} {g : MG} {mt : M Bool} {me : M D}
    (hi : PI X tg iter (TIt X B E p1 mi)) (ok : BlkOk X.N X.env.scope scope own)
    (hg : ∀ (s : Shared) (H : Hp) (C : Addr) (cl : List (Str × Addr)) (fp : List Addr), PG (X.blk s H scope (compEnvC scope cl C X.env) fp) tg (TGb X B (own.map (·.2)) g))
    (ht : ∀ (s : Shared) (H : Hp) (C : Addr) (cl : List (Str × Addr)) (fp : List Addr), PTs (X.blk s H scope (compEnvC scope cl C X.env) fp) ifs (Tb X B E0 p2 mt))
    (he : ∀ (s : Shared) (H : Hp) (C : Addr) (cl : List (Str × Addr)) (fp : List Addr), PE (X.blk s H scope (compEnvC scope cl C X.env) fp) elt (T X B E0 pr me))
    (hy : X.N[i]? = some y) (hyl : X.env.scope.names.lookup y = some .local) (hN : X.N.Nodup) (hY : Y.n = X.N.length) (hfx : Y.fx i = none)
    (hsw : swapsWith (.ListComp elt [⟨tg, iter, ifs, 0⟩] scope pos) (some (.Name y py)) spos.line X.env = pure true) (hc : X.calm = true := by rfl) (hs : ∀ x, foldedSetIterable iter X.env x = pure x := by intro _; rfl) :
    PS X (.Assign [.Name y py] (.ListComp elt [⟨tg, iter, ifs, 0⟩] scope pos) spos) (TSt X B Y E (mAsg (mLc (own.map (·.2)) mi g mt me) (gSet i))) :=
  PS.imp (ps_setLc hc hN hy hyl hsw hi ok hg ht he hs) fun D σ H q => tlc σ H _ (tset hy hY hfx D σ H q)
/-- exceptions do not come out of a block -/
theorem pass_0 {P : Program} {w : World} : Passes (CX P w) X E0 := fun pins σ H s e s' I h => by
  obtain ⟨_, _, _, _, _, _, _, _, _, _, _, _, h⟩ := h
  exact h.elim
theorem fn_bad {P : Program} {w : World} {mg : Str → Option Value} {base : Heap} {k : Nat} {f : Addr} {fd : FuncData} {ps : List Str} {md : List Bool} (hl : md.length = ps.length) : FnOk P w K mg base (CX P w) k f fd ps (spF K md fun _ => .bad) :=
  ⟨fun vs H Q E h => by
    obtain ⟨ds, F0, O, h1, h2, _⟩ := h
    rw [← h2, hl], fun A outer s H args us vs Q E hr he hb hv h => by
    obtain ⟨ds, F0, O, h1, h2, _, h3⟩ := h
    exact h3.elim⟩
end
end Sm

namespace Sm
open PySem PySem.Spec PyProof.Rows L2

/-! ### how mirrors are run -/
@[simp] theorem ev_bok {α β : Type} {x : α} {ρ : Env} {f : α → M β} : (Res.ok x ρ).bind f = f x ρ := Eq.trans rfl rfl
@[simp] theorem ev_bexc {α β : Type} {x : Ex} {ρ : Env} {f : α → M β} : (Res.exc x ρ : Res α).bind f = .exc x ρ := Eq.trans rfl rfl
@[simp] theorem ev_bbad {α β : Type} {f : α → M β} : (Res.bad : Res α).bind f = .bad := Eq.trans rfl rfl
@[simp] theorem ev_sok {α : Type} {x : α} {ρ : Env} {f : α → Env → SRes} : (Res.ok x ρ).s f = f x ρ := Eq.trans rfl rfl
@[simp] theorem ev_sexc {α : Type} {x : Ex} {ρ : Env} {f : α → Env → SRes} : (Res.exc x ρ : Res α).s f = .exc x ρ := Eq.trans rfl rfl
@[simp] theorem ev_sbad {α : Type} {f : α → Env → SRes} : (Res.bad : Res α).s f = .bad := Eq.trans rfl rfl
@[simp] theorem ev_mb {α β : Type} {m : M α} {f : α → M β} {ρ : Env} : mb m f ρ = (m ρ).bind f := Eq.trans rfl rfl
@[simp] theorem ev_mr {α : Type} {x : α} {ρ : Env} : mr x ρ = .ok x ρ := Eq.trans rfl rfl
@[simp] theorem ev_mos {α : Type} {x : α} {ρ : Env} : mo (some x) ρ = .ok x ρ := Eq.trans rfl rfl
@[simp] theorem ev_mon {α : Type} {ρ : Env} : mo (none : Option α) ρ = .bad := Eq.trans rfl rfl
@[simp] theorem ev_free {d : D} {ρ : Env} : mFree d ρ = if fre d = true then .ok d ρ else .bad := Eq.trans rfl rfl
@[simp] theorem ev_var {i : Nat} {ρ : Env} : mVar i ρ = (mLook i ρ).bind mFree := Eq.trans rfl rfl
@[simp] theorem ev_un {f : D → Option D} {m : M D} {ρ : Env} : mUn f m ρ = (m ρ).bind fun x => mo (f x) := Eq.trans rfl rfl
@[simp] theorem ev_bin {f : D → D → Option D} {m1 m2 : M D} {ρ : Env} : mBin f m1 m2 ρ = (m1 ρ).bind fun x => mb m2 fun y => mo (f x y) := Eq.trans rfl rfl
@[simp] theorem ev_args {f : List D → Option D} {m : M (List D)} {ρ : Env} : mArgs f m ρ = (m ρ).bind fun x => mo (f x) := Eq.trans rfl rfl
@[simp] theorem ev_nil {ρ : Env} : mNil ρ = .ok [] ρ := Eq.trans rfl rfl
@[simp] theorem ev_cons {m : M D} {ms : M (List D)} {ρ : Env} : mCons m ms ρ = (m ρ).bind fun x => mb ms fun xs => mr (x :: xs) := Eq.trans rfl rfl
@[simp] theorem ev_bl {k : Bool} {ρ : Env} : mBl (.a (.bl k)) ρ = .ok k ρ := Eq.trans rfl rfl
@[simp] theorem ev_tru {d : D} {ρ : Env} : mTru d ρ = mo (tru d) ρ := Eq.trans rfl rfl
@[simp] theorem ev_not {m : M Bool} {ρ : Env} : mNot m ρ = (m ρ).bind fun b => mr (!b) := Eq.trans rfl rfl
@[simp] theorem ev_and {m1 m2 : M Bool} {ρ : Env} : mAnd m1 m2 ρ = (m1 ρ).bind fun b => if b = true then m2 else mr false := Eq.trans rfl rfl
@[simp] theorem ev_or {m1 m2 : M Bool} {ρ : Env} : mOr m1 m2 ρ = (m1 ρ).bind fun b => if b = true then mr true else m2 := Eq.trans rfl rfl
@[simp] theorem ev_ite {α : Type} {c : M Bool} {m1 m2 : M α} {ρ : Env} : mIte c m1 m2 ρ = (c ρ).bind fun b => if b = true then m1 else m2 := Eq.trans rfl rfl
@[simp] theorem ev_tupn {ds : List D} {ρ : Env} : mTupN ds ρ = if ds.length ≤ sizeLine then .ok (.tup ds) ρ else .bad := Eq.trans rfl rfl
@[simp] theorem ev_lstn {ds : List D} {ρ : Env} : mLstN ds ρ = if ds.length ≤ sizeLine then .ok (.lst ds) ρ else .bad := Eq.trans rfl rfl
@[simp] theorem ev_skip {ρ : Env} : mSkip ρ = .next ρ := Eq.trans rfl rfl
@[simp] theorem ev_brk {ρ : Env} : mBrk ρ = .brk ρ := Eq.trans rfl rfl
@[simp] theorem ev_cont {ρ : Env} : mCont ρ = .cont ρ := Eq.trans rfl rfl
@[simp] theorem ev_seq {a b : MS} {ρ : Env} : mSeq a b ρ = (a ρ).seq b := Eq.trans rfl rfl
@[simp] theorem ev_sqn {b : MS} {ρ : Env} : (SRes.next ρ).seq b = b ρ := Eq.trans rfl rfl
@[simp] theorem ev_sqr {b : MS} {d : D} {ρ : Env} : (SRes.ret d ρ).seq b = .ret d ρ := Eq.trans rfl rfl
@[simp] theorem ev_sqb {b : MS} {ρ : Env} : (SRes.brk ρ).seq b = .brk ρ := Eq.trans rfl rfl
@[simp] theorem ev_sqc {b : MS} {ρ : Env} : (SRes.cont ρ).seq b = .cont ρ := Eq.trans rfl rfl
@[simp] theorem ev_sqe {b : MS} {x : Ex} {ρ : Env} : (SRes.exc x ρ).seq b = .exc x ρ := Eq.trans rfl rfl
@[simp] theorem ev_sqx {b : MS} : SRes.bad.seq b = .bad := Eq.trans rfl rfl
@[simp] theorem ev_drop {m : M D} {ρ : Env} : mDrop m ρ = (m ρ).s fun _ ρ => .next ρ := Eq.trans rfl rfl
@[simp] theorem ev_do {m : M D} {ρ : Env} : mDo m ρ = (m ρ).s fun _ ρ => .next ρ := Eq.trans rfl rfl
@[simp] theorem ev_ret {m : M D} {ρ : Env} : mRet m ρ = (m ρ).s .ret := Eq.trans rfl rfl
@[simp] theorem ev_retn {ρ : Env} : mRetN ρ = .ret .non ρ := Eq.trans rfl rfl
@[simp] theorem ev_if {c : M Bool} {a b : MS} {ρ : Env} : mIf c a b ρ = (c ρ).s fun k => if k = true then a else b := Eq.trans rfl rfl
@[simp] theorem ev_asgs {m : M D} {i : Nat} {ρ : Env} : mAsg m (gSet i) ρ = (m ρ).s fun d ρ => .next (ρ.set i (some d)) := Eq.trans rfl rfl
@[simp] theorem ev_gtup {n : Nat} {gs : MGs} {ds : List D} {ρ : Env} : gTupN n gs (.n .tup ds) ρ = if ds.length = n then gs ds ρ else none := Eq.trans rfl rfl
@[simp] theorem ev_gcons {g : MG} {gs : MGs} {d : D} {ds : List D} {ρ : Env} : gsCons g gs (d :: ds) ρ = (g d ρ).bind (gs ds) := Eq.trans rfl rfl
@[simp] theorem ev_gnil {ρ : Env} : gsNil [] ρ = some ρ := Eq.trans rfl rfl
@[simp] theorem ev_gset {i : Nat} {d : D} {ρ : Env} : gSet i d ρ = some (ρ.set i (some d)) := Eq.trans rfl rfl
@[simp] theorem ev_gsetc {i : Nat} {d : D} {ρ : Env} : gSetC i d ρ = if i < ρ.length then some (ρ.set i (some d)) else none := Eq.trans rfl rfl
@[simp] theorem ev_fors {m : M (List D)} {g : MG} {b : MS} {ρ : Env} : mForS m g b ρ = (m ρ).s (mFor g b) := Eq.trans rfl rfl
@[simp] theorem ev_isN {m : M D} {ρ : Env} : mIsN m ρ = (m ρ).bind fun d => mr (.bl (dIsN d)) := Eq.trans rfl rfl
@[simp] theorem ev_notN {m : M D} {ρ : Env} : mNotN m ρ = (m ρ).bind fun d => mr (.bl (!dIsN d)) := Eq.trans rfl rfl
@[simp] theorem ev_test {m : M D} {ρ : Env} : mTest m ρ = (m ρ).bind mBl := Eq.trans rfl rfl
@[simp] theorem ev_chain {f g : D → D → Option D} {m1 m2 m3 : M D} {ρ : Env} : mChain f g m1 m2 m3 ρ = (m1 ρ).bind fun x => mb m2 fun y => mb (mo (f x y)) fun z => mb (mBl z) fun k => if k = true then mb m3 fun w => mo (g y w) else mr (.bl false) := Eq.trans rfl rfl
@[simp] theorem ev_andV {m1 m2 : M D} {ρ : Env} : mAndV m1 m2 ρ = (mb m1 mBl ρ).bind fun k => if k = true then m2 else mr (.bl false) := Eq.trans rfl rfl
@[simp] theorem ev_orV {m1 m2 : M D} {ρ : Env} : mOrV m1 m2 ρ = (mb m1 mBl ρ).bind fun k => if k = true then mr (.bl true) else m2 := Eq.trans rfl rfl
@[simp] theorem ev_bv {m : M Bool} {ρ : Env} : mBv m ρ = (m ρ).bind fun k => mr (.bl k) := Eq.trans rfl rfl
@[simp] theorem ev_notT {m : M D} {ρ : Env} : mNotT m ρ = (mb m mTru ρ).bind fun k => mr (.bl (!k)) := Eq.trans rfl rfl
@[simp] theorem ev_into {i : Int} {ρ : Env} : mIntO (.a (.int i)) ρ = .ok (some i) ρ := Eq.trans rfl rfl
@[simp] theorem ev_sl {m : M D} {l u : M (Option Int)} {ρ : Env} : mSl m l u ρ = (m ρ).bind fun x => mb l fun l => mb u fun u => mo (dSl x l u) := Eq.trans rfl rfl
@[simp] theorem ev_meth {T : String} {f : List D → Option D} {m : M D} {ms : M (List D)} {ρ : Env} : mMeth T f m ms ρ = (m ρ).bind fun x => mb (if tyN x = some T then mr () else fun _ => .bad) fun _ => mb ms fun ys => mo (f (x :: ys)) := Eq.trans rfl rfl
@[simp] theorem ev_shr {m : M D} {ρ : Env} : mShr m ρ = (m ρ).bind fun x => mr (Sm.shr x) := Eq.trans rfl rfl
@[simp] theorem ev_knil {ρ : Env} : kNil ρ = .ok [] ρ := Eq.trans rfl rfl
@[simp] theorem ev_kval {m : M D} {ms : M (List AR)} {ρ : Env} : kVal m ms ρ = (m ρ).bind fun x => mb ms fun as => mr (.val x :: as) := Eq.trans rfl rfl
@[simp] theorem ev_kbor {j : Nat} {ms : M (List AR)} {ρ : Env} : kBor j ms ρ = (mLook j ρ).bind fun _ => mb ms fun as => mr (.bor j :: as) := Eq.trans rfl rfl
@[simp] theorem ev_kio {j : Nat} {ms : M (List AR)} {ρ : Env} : kIo j ms ρ = (mLook j ρ).bind fun _ => mb ms fun as => mr (.io j :: as) := Eq.trans rfl rfl
@[simp] theorem ev_bmw {pr : Bool} {i : Nat} {T : String} {wf : D → List D → Option (D × D)} {mp : M (List Stp)} {ms : M (List D)} {ρ : Env} : mBmW pr i T wf mp ms ρ = (mp ρ).bind fun p => mb (mTyp i T p) fun _ => mb ms fun xs => mUpd pr i wf p xs := Eq.trans rfl rfl
@[simp] theorem ev_put {i : Nat} {mp : M (List Stp)} {mk mv : M D} {ρ : Env} : mPut i mp mk mv ρ = (mv ρ).bind fun x => mb mp fun p => mb mk fun k => mPutK i p x (keyOf k) := Eq.trans rfl rfl
@[simp] theorem ev_putk {i : Nat} {p : List Stp} {x : D} {k : Key} {ρ : Env} : mPutK i p x (some k) ρ = mUpd true i (wPut k) p [x] ρ := Eq.trans rfl rfl
@[simp] theorem ev_disp {ks : List Str} {ds : List D} {ρ : Env} : mDisp ks ds ρ = if ds.length = ks.length then .ok (.n (.dk (ks.map .inr)) ds) ρ else .bad := Eq.trans rfl rfl
@[simp] theorem ev_plf {i : Nat} {m : M (List Stp)} {C f : Str} {ρ : Env} : mPlF i m C f ρ = (m ρ).bind fun p => mChk i (p ++ [.fl C f]) := Eq.trans rfl rfl
@[simp] theorem ev_lc {own : List Nat} {mi : M (List D)} {g : MG} {t : M Bool} {e : M D} {ρ : Env} : mLc own mi g t e ρ = (mi ρ).bind fun ds ρ => lcGo own g t e ds [] (wipeE own ρ) := Eq.trans rfl rfl
@[simp] theorem ev_yes {ρ : Env} : mYes ρ = .ok true ρ := Eq.trans rfl rfl
@[simp] theorem ev_una {x : V} : Sm.un (.a x) = .a x := Eq.trans rfl rfl
@[simp] theorem ev_unn {t : Tg} {ds : List D} : Sm.un (.n t ds) = .n t ds := Eq.trans rfl rfl
@[simp] theorem ev_unsa {x : V} : Sm.un (.sh (.a x)) = .a x := Eq.trans rfl rfl
@[simp] theorem ev_unsn {t : Tg} {ds : List D} : Sm.un (.sh (.n t ds)) = .n t (shrs ds) := Eq.trans rfl rfl
@[simp] theorem ev_frea {x : V} : fre (.a x) = true := Eq.trans rfl rfl
@[simp] theorem ev_fresh {d : D} : fre (.sh d) = true := Eq.trans rfl rfl
@[simp] theorem ev_fresn  : fres [] = true := Eq.trans rfl rfl
@[simp] theorem ev_fresc {d : D} {ds : List D} : fres (d :: ds) = (fre d && fres ds) := Eq.trans rfl rfl
@[simp] theorem ev_fret {ds : List D} : fre (.n .tup ds) = (true && fres ds) := Eq.trans rfl rfl
@[simp] theorem ev_frel {ds : List D} : fre (.n .lst ds) = (false && fres ds) := Eq.trans rfl rfl
@[simp] theorem ev_shra {x : V} : Sm.shr (.a x) = .a x := Eq.trans rfl rfl
@[simp] theorem ev_shrsh {d : D} : Sm.shr (.sh d) = .sh d := Eq.trans rfl rfl
@[simp] theorem ev_shrl {ds : List D} : Sm.shr (.n .lst ds) = .sh (.n .lst ds) := Eq.trans rfl rfl
@[simp] theorem ev_shrdk {ks : List Key} {ds : List D} : Sm.shr (.n (.dk ks) ds) = .sh (.n (.dk ks) ds) := Eq.trans rfl rfl
@[simp] theorem ev_shrt {ds : List D} : Sm.shr (.n .tup ds) = .n .tup (shrs ds) := Eq.trans rfl rfl
@[simp] theorem ev_shrsn  : shrs [] = [] := Eq.trans rfl rfl
@[simp] theorem ev_shrsc {d : D} {ds : List D} : shrs (d :: ds) = Sm.shr d :: shrs ds := Eq.trans rfl rfl
@[simp] theorem ev_clna {x : V} : cln (.a x) = true := Eq.trans rfl rfl
@[simp] theorem ev_clnsh {d : D} : cln (.sh d) = false := Eq.trans rfl rfl
@[simp] theorem ev_clnn {t : Tg} {ds : List D} : cln (.n t ds) = clns ds := Eq.trans rfl rfl
@[simp] theorem ev_clnsn  : clns [] = true := Eq.trans rfl rfl
@[simp] theorem ev_clnsc {d : D} {ds : List D} : clns (d :: ds) = (cln d && clns ds) := Eq.trans rfl rfl
@[simp] theorem ev_dI {g : Int → Int → V} {i j : Int} : dI g (.a (.int i)) (.a (.int j)) = some (.a (g i j)) := Eq.trans rfl rfl
@[simp] theorem ev_dIs {g : Int → Int → V} {i j : Str} : dI g (.a (.str i)) (.a (.str j)) = none := Eq.trans rfl rfl
@[simp] theorem ev_dSs {g : Str → Str → V} {i j : Str} : dS g (.a (.str i)) (.a (.str j)) = some (.a (g i j)) := Eq.trans rfl rfl
@[simp] theorem ev_dIc {c : Int → Int → Bool} {g : Int → Int → V} {i j : Int} : dIc c g (.a (.int i)) (.a (.int j)) = if c i j = true then some (.a (g i j)) else none := Eq.trans rfl rfl
@[simp] theorem ev_dIp {f : Int → Int → Int} {i j : Int} : dIpI f (.a (.int i)) (.a (.int j)) = some (.int (f i j)) := Eq.trans rfl rfl
@[simp] theorem ev_dAdd {i j : Int} : dAdd (.a (.int i)) (.a (.int j)) = some (.int (i + j)) := Eq.trans rfl rfl
@[simp] theorem ev_dLt {i j : Int} : dLt (.a (.int i)) (.a (.int j)) = some (.bl (decide (i < j))) := Eq.trans rfl rfl
@[simp] theorem ev_dLe {i j : Int} : dLe (.a (.int i)) (.a (.int j)) = some (.bl (decide (i ≤ j))) := Eq.trans rfl rfl
@[simp] theorem ev_dGt {i j : Int} : dGt (.a (.int i)) (.a (.int j)) = some (.bl (decide (j < i))) := Eq.trans rfl rfl
@[simp] theorem ev_dGe {i j : Int} : dGe (.a (.int i)) (.a (.int j)) = some (.bl (decide (j ≤ i))) := Eq.trans rfl rfl
@[simp] theorem ev_dLtS {i j : Str} : dLt (.a (.str i)) (.a (.str j)) = some (.bl (decide (i.cps.toList < j.cps.toList))) := Eq.trans rfl rfl
@[simp] theorem ev_dLeS {i j : Str} : dLe (.a (.str i)) (.a (.str j)) = some (.bl (!decide (j.cps.toList < i.cps.toList))) := Eq.trans rfl rfl
@[simp] theorem ev_dEq {x y : V} {n : Bool} : dEq n (.a x) (.a y) = if scal x y = true then some (.bl (if n then !decide (x = y) else decide (x = y))) else none := Eq.trans rfl rfl
@[simp] theorem ev_dNeg {i : Int} : dNeg (.a (.int i)) = some (.int (-i)) := Eq.trans rfl rfl
@[simp] theorem ev_dInt {i : Int} : dInt [.a (.int i)] = some (.int i) := Eq.trans rfl rfl
@[simp] theorem ev_dAbs {i : Int} : dAbs [.a (.int i)] = some (.int (if i < 0 then -i else i)) := Eq.trans rfl rfl
@[simp] theorem ev_dLenS {z : Str} : dLen [.a (.str z)] = if z.length ≤ sizeLine then some (.int z.length) else none := Eq.trans rfl rfl
@[simp] theorem ev_dLenL {ds : List D} : dLen [.n .lst ds] = some (.int ds.length) := Eq.trans rfl rfl
@[simp] theorem ev_dLenT {ds : List D} : dLen [.n .tup ds] = some (.int ds.length) := Eq.trans rfl rfl
@[simp] theorem ev_dLenLs {ds : List D} : dLen [.sh (.n .lst ds)] = some (.int (shrs ds).length) := Eq.trans rfl rfl
@[simp] theorem ev_dLenTs {ds : List D} : dLen [.sh (.n .tup ds)] = some (.int (shrs ds).length) := Eq.trans rfl rfl
@[simp] theorem ev_key1 {i : Int} : keyOf (.a (.int i)) = some (.inl i) := Eq.trans rfl rfl
@[simp] theorem ev_key2 {x : Str} : keyOf (.a (.str x)) = some (.inr x) := Eq.trans rfl rfl
@[simp] theorem ev_dGet {ks : List Key} {ds : List D} {k : D} : dSub (.n (.dk ks) ds) k = (keyOf k).bind fun k => (Sm.idxOf k ks).bind fun j => ds[j]? := Eq.trans rfl rfl
@[simp] theorem ev_dGetS {ks : List Key} {ds : List D} {k : D} : dSub (.sh (.n (.dk ks) ds)) k = (keyOf k).bind fun k => (Sm.idxOf k ks).bind fun j => (shrs ds)[j]? := Eq.trans rfl rfl
@[simp] theorem ev_dSubL {ds : List D} {i : Int} : dSub (.n .lst ds) (.a (.int i)) = atI ds i := Eq.trans rfl rfl
@[simp] theorem ev_dSubLs {ds : List D} {i : Int} : dSub (.sh (.n .lst ds)) (.a (.int i)) = atI (shrs ds) i := Eq.trans rfl rfl
@[simp] theorem ev_dSubT {ds : List D} {i : Int} : dSub (.n .tup ds) (.a (.int i)) = atI ds i := Eq.trans rfl rfl
@[simp] theorem ev_dSubTs {ds : List D} {i : Int} : dSub (.sh (.n .tup ds)) (.a (.int i)) = atI (shrs ds) i := Eq.trans rfl rfl
@[simp] theorem ev_dSubS {z : Str} {i : Int} : dSub (.a (.str z)) (.a (.int i)) = if z.length ≤ sizeLine then (atI z.cps.toList i).map fun c => .str ⟨#[c]⟩ else none := Eq.trans rfl rfl
@[simp] theorem ev_iterL {ds : List D} {ρ : Env} : mIterL (.n .lst ds) ρ = if fres ds = true then .ok ds ρ else .bad := Eq.trans rfl rfl
@[simp] theorem ev_iterLs {ds : List D} {ρ : Env} : mIterL (.sh (.n .lst ds)) ρ = if fres (shrs ds) = true then .ok (shrs ds) ρ else .bad := Eq.trans rfl rfl
@[simp] theorem ev_iterKs {ds : List D} {ρ : Env} : mIterL (.sh (.n .kl ds)) ρ = if fres (shrs ds) = true then .ok (shrs ds) ρ else .bad := Eq.trans rfl rfl
@[simp] theorem ev_forn {g : MG} {b : MS} {ρ : Env} : mFor g b [] ρ = .next ρ := Eq.trans rfl rfl
@[simp] theorem ev_isN0  : dIsN (.a .non) = true := Eq.trans rfl rfl
@[simp] theorem ev_isN1 {i : Int} : dIsN (.a (.int i)) = false := Eq.trans rfl rfl
@[simp] theorem ev_isN2 {i : Bool} : dIsN (.a (.bl i)) = false := Eq.trans rfl rfl
@[simp] theorem ev_isN3 {i : Str} : dIsN (.a (.str i)) = false := Eq.trans rfl rfl
@[simp] theorem ev_isN4 {t : Tg} {ds : List D} : dIsN (.n t ds) = false := Eq.trans rfl rfl
@[simp] theorem ev_isN5 {t : Tg} {ds : List D} : dIsN (.sh (.n t ds)) = false := Eq.trans rfl rfl
@[simp] theorem ev_sel1 {α : Type} {m : List Bool} {x : α} {xs : List α} : Sm.sel (true :: m) (x :: xs) = x :: Sm.sel m xs := Eq.trans rfl rfl
@[simp] theorem ev_sel2 {α : Type} {m : List Bool} {x : α} {xs : List α} : Sm.sel (false :: m) (x :: xs) = Sm.sel m xs := Eq.trans rfl rfl
@[simp] theorem ev_outs1 {m : List Bool} {d : D} {ρ : Env} : outs (true :: m) (some d :: ρ) = (outs m ρ).map (d :: ·) := Eq.trans rfl rfl
@[simp] theorem ev_outs2 {m : List Bool} {x : Option D} {ρ : Env} : outs (false :: m) (x :: ρ) = outs m ρ := Eq.trans rfl rfl
@[simp] theorem ev_outs3 {ρ : Env} : outs [] ρ = some [] := Eq.trans rfl rfl
def FRes.res (js : List Nat) (ρ : Env) : FRes → Res D
  | .ok r os => .ok r (puts js os ρ)
  | .exc x os => .exc x (puts js os ρ)
  | .bad => .bad
@[simp] theorem ev_res0 {r : D} {os : List D} {ρ : Env} : FRes.res [] ρ (.ok r os) = .ok r ρ := by unfold FRes.res; cases os <;> rfl
@[simp] theorem ev_res1 {r o : D} {j : Nat} {ρ : Env} : FRes.res [j] ρ (.ok r [o]) = .ok r (ρ.set j (some o)) := by unfold FRes.res; rfl
theorem shr0 {ρ : Env} : shrJ [] ρ = ρ := by unfold shrJ; rfl
theorem call_nb {q : Bool} {md : List Bool} {f : FM} {as : List AR} {ds : List D} {ρ : Env} (h1 : as.map AR.isIo = md) (h2 : boJ as = []) (h3 : (ioJ as).Nodup) (h4 : aDs as ρ = some ds) (h5 : (!q || ((ioJ as).isEmpty && fres (avals as))) = true) :
    mCall q md f as ρ = (f ds).res (ioJ as) ρ := by
  unfold mCall FRes.res
  rw [if_pos (by rw [h2, List.append_nil, h5]; simp [h1, h3]), h4]
  simp only [h2, shr0]
  cases f ds <;> simp
@[simp] theorem ev_call0 {q : Bool} {f : FM} {ρ : Env} : mCall q [] f [] ρ = (f []).res [] ρ := call_nb rfl rfl (by unfold ioJ; exact List.nodup_nil) (by unfold aDs; rfl) (by cases q <;> rfl)
@[simp] theorem ev_call1 {q : Bool} {f : FM} {a : D} {ρ : Env} (h : (!q || fre a) = true) : mCall q [false] f [.val a] ρ = (f [a]).res [] ρ := call_nb rfl rfl List.nodup_nil rfl (by revert h; cases q <;> simp [ioJ, avals, fres])
@[simp] theorem ev_call2 {q : Bool} {f : FM} {a b : D} {ρ : Env} (h : (!q || (fre a && fre b)) = true) : mCall q [false, false] f [.val a, .val b] ρ = (f [a, b]).res [] ρ := call_nb rfl rfl List.nodup_nil rfl (by revert h; cases q <;> simp [ioJ, avals, fres])
@[simp] theorem ev_call3 {q : Bool} {f : FM} {a b c : D} {ρ : Env} (h : (!q || (fre a && (fre b && fre c))) = true) : mCall q [false, false, false] f [.val a, .val b, .val c] ρ = (f [a, b, c]).res [] ρ := call_nb rfl rfl List.nodup_nil rfl (by revert h; cases q <;> simp [ioJ, avals, fres])
@[simp] theorem ev_call4 {q : Bool} {f : FM} {a b c d : D} {ρ : Env} (h : (!q || (fre a && (fre b && (fre c && fre d)))) = true) : mCall q [false, false, false, false] f [.val a, .val b, .val c, .val d] ρ = (f [a, b, c, d]).res [] ρ := call_nb rfl rfl List.nodup_nil rfl (by revert h; cases q <;> simp [ioJ, avals, fres])
theorem ev_io1 {f : FM} {j : Nat} {a : D} {ρ : Env} (h : ρ[j]? = some (some a)) : mCall false [true] f [.io j] ρ = (f [a]).res [j] ρ := call_nb rfl rfl (by unfold ioJ ioJ; simp) (by unfold aDs aDs; simp [h]) rfl
theorem ev_io2 {f : FM} {j : Nat} {a b : D} {ρ : Env} (h : ρ[j]? = some (some a)) : mCall false [true, false] f [.io j, .val b] ρ = (f [a, b]).res [j] ρ := call_nb rfl rfl (by unfold ioJ ioJ ioJ; simp) (by unfold aDs aDs aDs; simp [h]) rfl
theorem fRun_ret {md : List Bool} {n : Nat} {m : MS} {ds os : List D} {d : D} {ρ : Env} (h : m (env0 n ds) = .ret d ρ) (ho : outs md ρ = some os) : fRun md n m ds = .ok d os := by
  unfold fRun
  rw [h]
  simp only [ho]
theorem fRun_next {md : List Bool} {n : Nat} {m : MS} {ds os : List D} {ρ : Env} (h : m (env0 n ds) = .next ρ) (ho : outs md ρ = some os) : fRun md n m ds = .ok .non os := by
  unfold fRun
  rw [h]
  simp only [ho]
theorem fRun_exc {md : List Bool} {n : Nat} {m : MS} {ds os : List D} {x : Ex} {ρ : Env} (h : m (env0 n ds) = .exc x ρ) (ho : outs md ρ = some os) : fRun md n m ds = .exc x os := by
  unfold fRun
  rw [h]
  simp only [ho]
end Sm

namespace Sm
open PySem PySem.Spec PyProof.Rows L2
theorem mFor_next {g : MG} {b : MS} {d : D} {ds : List D} {ρ ρ1 ρ2 : Env} (hg : g d ρ = some ρ1) (hb : b ρ1 = .next ρ2) : mFor g b (d :: ds) ρ = mFor g b ds ρ2 := by
  show (match g d ρ with
    | none => SRes.bad
    | some ρ1 => _) = _
  rw [hg]
  simp only [hb]
theorem mFor_cont {g : MG} {b : MS} {d : D} {ds : List D} {ρ ρ1 ρ2 : Env} (hg : g d ρ = some ρ1) (hb : b ρ1 = .cont ρ2) : mFor g b (d :: ds) ρ = mFor g b ds ρ2 := by
  show (match g d ρ with
    | none => SRes.bad
    | some ρ1 => _) = _
  rw [hg]
  simp only [hb]
theorem mFor_ret {g : MG} {b : MS} {d r : D} {ds : List D} {ρ ρ1 ρ2 : Env} (hg : g d ρ = some ρ1) (hb : b ρ1 = .ret r ρ2) : mFor g b (d :: ds) ρ = .ret r ρ2 := by
  show (match g d ρ with
    | none => SRes.bad
    | some ρ1 => _) = _
  rw [hg]
  simp only [hb]
theorem mFor_brk {g : MG} {b : MS} {d : D} {ds : List D} {ρ ρ1 ρ2 : Env} (hg : g d ρ = some ρ1) (hb : b ρ1 = .brk ρ2) : mFor g b (d :: ds) ρ = .next ρ2 := by
  show (match g d ρ with
    | none => SRes.bad
    | some ρ1 => _) = _
  rw [hg]
  simp only [hb]
theorem lc_yes {own : List Nat} {g : MG} {t : M Bool} {e : M D} {d y : D} {ds acc : List D} {ρ ρ1 ρ2 ρ3 : Env} (hg : g d ρ = some ρ1) (ht : t ρ1 = .ok true ρ2) (he : e ρ2 = .ok y ρ3) (ha : acc.length < sizeLine) :
    lcGo own g t e (d :: ds) acc ρ = lcGo own g t e ds (acc ++ [y]) (wipeE own ρ3) := by
  show (match g d ρ with
    | none => Res.bad
    | some ρ1 => _) = _
  rw [hg]
  simp only [ht, he, if_pos ha]
theorem lc_no {own : List Nat} {g : MG} {t : M Bool} {e : M D} {d : D} {ds acc : List D} {ρ ρ1 ρ2 : Env} (hg : g d ρ = some ρ1) (ht : t ρ1 = .ok false ρ2) :
    lcGo own g t e (d :: ds) acc ρ = lcGo own g t e ds acc (wipeE own ρ2) := by
  show (match g d ρ with
    | none => Res.bad
    | some ρ1 => _) = _
  rw [hg]
  simp only [ht]
@[simp] theorem lc_nil {own : List Nat} {g : MG} {t : M Bool} {e : M D} {acc : List D} {ρ : Env} : lcGo own g t e [] acc ρ = .ok (.lst acc) ρ := rfl
theorem mWhile_stop {c : M Bool} {b : MS} {ρ ρ1 : Env} (h : c ρ = .ok false ρ1) : mWhile c b ρ = .next ρ1 := by
  rw [mWhile_eq, h]
theorem mWhile_go {c : M Bool} {b : MS} {ρ ρ1 ρ2 : Env} (h : c ρ = .ok true ρ1) (hb : b ρ1 = .next ρ2) : mWhile c b ρ = mWhile c b ρ2 := by
  rw [mWhile_eq, h]
  simp only [hb]
theorem mWhile_goc {c : M Bool} {b : MS} {ρ ρ1 ρ2 : Env} (h : c ρ = .ok true ρ1) (hb : b ρ1 = .cont ρ2) : mWhile c b ρ = mWhile c b ρ2 := by
  rw [mWhile_eq, h]
  simp only [hb]
theorem mWhile_ret {c : M Bool} {b : MS} {ρ ρ1 ρ2 : Env} {d : D} (h : c ρ = .ok true ρ1) (hb : b ρ1 = .ret d ρ2) : mWhile c b ρ = .ret d ρ2 := by
  rw [mWhile_eq, h]
  simp only [hb]
theorem mWhile_brk {c : M Bool} {b : MS} {ρ ρ1 ρ2 : Env} (h : c ρ = .ok true ρ1) (hb : b ρ1 = .brk ρ2) : mWhile c b ρ = .next ρ2 := by
  rw [mWhile_eq, h]
  simp only [hb]
@[simp] theorem wipe_nil {ρ : Env} : wipeE [] ρ = ρ := rfl
@[simp] theorem wipe_cons {j : Nat} {js : List Nat} {ρ : Env} : wipeE (j :: js) ρ = (wipeE js ρ).set j none := rfl
end Sm

namespace Sm
open PySem PySem.Spec PyProof.Rows L2

section
variable {X : Cx} {B : Bs} {E : XK} {Y : Fx} {pr p1 p2 : Bool} {a b c e o value : Expr} {es : List Expr} {pos pos' p : Pos} {K : PySem.W.Frag} {F H : Hp} {I J : List It} {R : List Addr}
/-! ### str(n), tuple(xs), tuples joined -/
def dStrI : List D → Option D
  | [.a (.int i)] => if i.natAbs.log2 < 1920 then some (.str (toString i)) else none
  | _ => none
theorem rd_strI : Rda X (fun xs H Q => ∃ i, xs = [.int i] ∧ i.natAbs.log2 < 1920 ∧ Q (.str (toString i)) H) dStrI := fun B R F H I vs ds d Q G hv e q => by
  unfold dStrI at e
  split at e
  · split at e
    · rename_i h
      cases e
      exact ⟨_, vws1 hv, h, Fin.atom G q⟩
    · cases e
  · cases e
theorem s_strC {ms : M (List D)} (hg : Gl X "str") (hm : X.mg "str" = none) (ha : PA X [a] (TVa X B E pr ms)) (he : starEach [a] X.env = (false, eval a X.env) :: starEach [] X.env := by rfl) (hpl : (backTo pos (starEach [] X.env)).any (·.1) = false := by rfl) :
    PE X (.Call (.Name "str" p) [a] [] pos) (T X B E pr (mArgs dStrI ms)) := PE.imp (pe_callTy call_str_int hg hm (by decide +kernel) ha (by decide) (by decide) he hpl) (targs rd_strI)
theorem Gd.unres {a : Addr} {B : Bs} (G : Gd K B (a :: R) F H I) : Gd K B R F H I := by
  obtain ⟨O, t, nd, k⟩ := G.ex
  exact ⟨G.sub, G.tup, ⟨O, t, nd.sublist ((List.sublist_cons_self a R).append_left O), fun b hb => k b (by
    rcases List.mem_append.mp hb with z | z
    · exact List.mem_append_left _ z
    · exact List.mem_append_right _ (List.mem_cons_of_mem _ z))⟩, fun b hb => G.res b (List.mem_cons_of_mem _ hb), G.base, G.new, G.keep⟩
def mTupC (d : D) : M D := fun ρ => match d with
  | .n .lst ds => .ok (.tup ds) ρ
  | .n .tup ds => .ok (.tup ds) ρ
  | .sh (.n .lst ds) => .ok (.tup (shrs ds)) ρ
  | _ => .bad
theorem s_tupC {m : M D} (hg : Gl X "tuple") (hm : X.mg "tuple" = none) (ha : PE X a (T X B E pr m)) (na : starEach [a] X.env = (false, eval a X.env) :: starEach [] X.env := by rfl) :
    PE X (.Call (.Name "tuple" p) [a] [] pos) (T X B E pr (mb m mTupC)) := PE.imp (pe_tupleOf hg hm ha na) fun σ H Q ⟨ρ, F, I, f0, G, r0⟩ => by
  refine ⟨ρ, F, I, f0, G, ?_⟩
  refine Run.bind (fun z => z) r0 sub_refl fun x ρ1 H1 F1 s1 f1 r1 v G1 => ?_
  show kTup X.K v H1 Q
  have new : ∀ (ds : List D) (vs : List V) (q : Addr), H1 q = none → ds.length = vs.length → Gd X.K B [] F1 H1 (ds.zip vs ++ (slots ρ1 σ ++ I)) → mTupC x ρ1 = .ok (.tup ds) ρ1 → Q (.ref q) (upd H1 q (.tup vs)) := fun ds vs q hq hl G2 e => by
    obtain ⟨F', sb, G'⟩ := G2.allocT hl hq
    exact Run.ok r1 e _ F' (fun z => ⟨(s1 z).1.trans (Same.alloc hq), fun a o e => sb a o ((s1 z).2 a o e)⟩) f1 (.ref q) G'
  match x with
  | .n .lst ds =>
    obtain ⟨a, vs, rfl, ow, hl, G2⟩ := G1.open (by intro z; cases z)
    exact .inl ⟨a, vs, rfl, .inl (.inl ow), fun q hq => new ds vs q hq hl G2.unres rfl⟩
  | .n .tup ds =>
    obtain ⟨O, rp⟩ := G1.rep
    obtain ⟨a, vs, rfl, h2, hl, _⟩ := rp.parts (show Sm.un (.n .tup ds) = .n .tup ds from rfl) G1.le
    exact .inr ⟨a, vs, rfl, TupAt.sq h2, Run.ok r1 rfl _ F1 s1 f1 _ G1⟩
  | .sh (.n .lst ds) =>
    obtain ⟨O, rp⟩ := G1.rep
    obtain ⟨a, vs, rfl, h2, hl, hk⟩ := rp.parts (show Sm.un (.sh (.n .lst ds)) = .n .lst (shrs ds) from rfl) G1.le
    exact .inl ⟨a, vs, rfl, .inl h2, fun q hq => new (shrs ds) vs q hq hl (G1.tail.adds (fres_all hk (fres_shrs ds) hl)) rfl⟩
  | .a _ => exact r1.elim
  | .n .kl _ => exact r1.elim
  | .n (.dk _) _ => exact r1.elim
  | .n (.dt _) _ => exact r1.elim
  | .n (.ins _ _) _ => exact r1.elim
  | .sh (.a _) => exact r1.elim
  | .sh (.sh _) => exact r1.elim
  | .sh (.n .tup _) => exact r1.elim
  | .sh (.n .kl _) => exact r1.elim
  | .sh (.n (.dk _) _) => exact r1.elim
  | .sh (.n (.dt _) _) => exact r1.elim
  | .sh (.n (.ins _ _) _) => exact r1.elim
/-- tuple + tuple -/
def dCatT (d1 d2 : D) : Option D := match d1, d2 with
  | .n .tup xs, .n .tup ys => if xs ≠ [] ∧ xs.length + ys.length ≤ sizeLine ∧ fres xs = true ∧ fres ys = true then some (.tup (xs ++ ys)) else none
  | _, _ => none
theorem rd_catT : Rd2 X (rCatT X.K) dCatT := fun B R F H I v1 v2 O1 O2 d1 d2 d Q G r1 r2 e q => by
  unfold dCatT at e
  split at e
  · rename_i xs ys
    split at e
    · rename_i h
      cases e
      obtain ⟨h0, hz, hx, hy⟩ := h
      obtain ⟨a, vs, rfl, h2, hl, hk⟩ := r1.parts (show Sm.un (.n .tup xs) = .n .tup xs from rfl) G.le
      obtain ⟨b, ws, rfl, h3, hl', hk'⟩ := r2.parts (show Sm.un (.n .tup ys) = .n .tup ys from rfl) G.le
      have t1 := fres_all hk hx hl
      have t2 := fres_all hk' hy hl'
      refine ⟨a, b, vs, ws, rfl, rfl, TupAt.sq h2, TupAt.sq h3, fun z => ?_, by rw [← hl, ← hl']; exact hz, fun z => ?_, fun _ p hp => ?_⟩
      · rw [z] at hl
        exact h0 (List.length_eq_zero_iff.mp hl)
      · rw [z] at hl'
        have e2 : ys = [] := List.length_eq_zero_iff.mp hl'
        subst e2
        rw [List.append_nil] at q
        refine q _ H F (Same.refl H) (fun _ _ h => h) (G.add ?_)
        exact r1.addF (by unfold fre; rw [hx]; rfl)
      · refine Fin.tup G ?_ (by rw [List.length_append, List.length_append, hl, hl']) hp q
        rw [List.zip_append hl]
        exact t1.append t2
    · cases e
  · cases e
def dAddT (a b : D) : Option D := (dAdd a b).or (dCatT a b)
theorem op_addT : OpR X (binaryOp .Add) (fun x y H Q => (rI0 (fun i j => .int (i + j)) x y H Q ∨ (∃ i j, x = .str i ∧ y = .str j ∧ i.length + j.length ≤ sizeLine ∧ Q (.str (i ++ j)) H) ∨ rCatR x y H Q) ∨ rCatT X.K x y H Q) := op_addA.or op_catT
theorem rd_addT : Rd2 X (fun x y H Q => (rI0 (fun i j => .int (i + j)) x y H Q ∨ (∃ i j, x = .str i ∧ y = .str j ∧ i.length + j.length ≤ sizeLine ∧ Q (.str (i ++ j)) H) ∨ rCatR x y H Q) ∨ rCatT X.K x y H Q) dAddT := rd_add.or rd_catT
@[simp] theorem ev_dAddT {i j : Int} : dAddT (.a (.int i)) (.a (.int j)) = some (.int (i + j)) := Eq.trans rfl rfl
theorem dAddT_s {i j : Str} (h : i.length + j.length ≤ sizeLine) : dAddT (.a (.str i)) (.a (.str j)) = some (.str (i ++ j)) := by
  have e : dAddT (.a (.str i)) (.a (.str j)) = ((if decide (i.length + j.length ≤ sizeLine) = true then some (D.str (i ++ j)) else none).or none).or none := rfl
  rw [e, if_pos (decide_eq_true h)]
  rfl
theorem dAddT_t {xs ys : List D} (h0 : xs ≠ []) (hz : xs.length + ys.length ≤ sizeLine) (hx : fres xs = true) (hy : fres ys = true) : dAddT (.n .tup xs) (.n .tup ys) = some (.n .tup (xs ++ ys)) := by
  have e : dAddT (.n .tup xs) (.n .tup ys) = dCatT (.n .tup xs) (.n .tup ys) := rfl
  rw [e]
  unfold dCatT
  simp [h0, hz, hx, hy]
@[simp] theorem ev_tupcl {ds : List D} {ρ : Env} : mTupC (.n .lst ds) ρ = .ok (.tup ds) ρ := Eq.trans rfl rfl
@[simp] theorem ev_tupct {ds : List D} {ρ : Env} : mTupC (.n .tup ds) ρ = .ok (.tup ds) ρ := Eq.trans rfl rfl
@[simp] theorem ev_tupcs {ds : List D} {ρ : Env} : mTupC (.sh (.n .lst ds)) ρ = .ok (.tup (shrs ds)) ρ := Eq.trans rfl rfl
end
end Sm

namespace Sm
open PySem PySem.Spec PyProof.Rows L2

/-! ### a def that wants a token to be out -/
structure FnT (P : Program) (w : World) (K : PySem.W.Frag) (mg : Str → Option Value) (base : Heap) (CX : CXT) (k : Nat) (f : Addr) (fd : FuncData) (ps : List Str) (sp : Sp) : Prop where
  len : ∀ vs H Q E, sp vs H Q E → vs.length = ps.length
  run : ∀ (A : Around) (outer : List PySem.Env) (s : Shared) (H : Hp) (args : Args) (us : List Value) (vs : List V) (Q : VK) (E : XK), 1 ≤ s.toks → Room k A → Env0 P w K mg base A outer s H → BindsTo s fd args (ps.zip us) → Vals vs us → sp vs H Q E →
    codeAny (model P w) A (.call (.ref f) args) (CR CX outer P w H s Q E) s
theorem fnT_of {CX : CXT} {P : Program} {w : World} {K : PySem.W.Frag} {mg : Str → Option Value} {base : Heap} {k : Nat} {f : Addr} {name qual : Str} {params : Arguments} {body : List Stmt} {scope : Scope} {dV kV doc pm cdv ct oc : Value} {an od : Option Addr}
    {osl : Array (Option Value)} {N ps : List Str} {sp : Sp} (lk : K.lookup f = some ⟨oc, od, .func (PySem.W.fnOf name qual params body scope dV kV doc pm an cdv ct), osl⟩) (hcd : PySem.W.codeIn K cdv qual = true) (S : FnScope N ps scope)
    (len : ∀ vs H Q E, sp vs H Q E → vs.length = ps.length)
    (hbody : ∀ (A : Around) (outer : List PySem.Env) (s : Shared) (H : Hp) (vs : List V) (Q : VK) (E : XK), Room k (A.deeper (envOfC qual scope s.heap.objs.size f cdv)) → sp vs H Q E →
      ∃ t, PSsT (cxOf CX P w K mg base N qual scope f cdv A outer s H E) body t ∧ t { nx := fun _ H' => Q .non H', rt := Q } (L2.start N vs) H) :
    FnT P w K mg base CX (k + 1) f (PySem.W.fnOf name qual params body scope dV kV doc pm an cdv ct) ps sp := by
  refine ⟨len, fun A outer s H args us vs Q E h1 hr e0 hb r hsp => ?_⟩
  have hl := len _ _ _ _ hsp
  have KX : K.In s.heap := e0.mod.kin.keeps fun b o e => (e0.bs b o e).1
  have lim : s.heap.NoLimit := e0.mod.nolimit.keeps fun b o e => (e0.bs b o e).1
  have hkind : ∀ y ∈ ps.zip us, scope.names.lookup y.1 = some .local ∨ (scope.names.lookup y.1 = some .cell ∧ ((cellsFrom (s.heap.objs.size + 1) scope.names []).lookup y.1).isSome = true) := fun ⟨n, v⟩ hy => by
    rcases S.par n (List.of_mem_zip hy).1 with q | q
    · exact .inl q
    · exact .inr ⟨q, PySem.W.cellsFrom_some _ _ _ (.inl q)⟩
  refine codeAny_call_function hr.depth (KX _ _ lk) rfl S.co S.gen rfl (PySem.W.codeRec_of KX hcd) (hb _ _ _ _ ?_)
  refine wpAny_mono (PySem.wpAny_toks (wpAny_newFunctionEnv_cells (Q := fun env s1 => env = envOfC qual scope s.heap.objs.size f cdv ∧ InCallC s env.locals (bindL env.kindOf (ps.zip us) fun _ => none) env.cells (bindC env.kindOf (ps.zip us) fun _ => none) s1) S.kind hkind fun env he s1 x => ⟨he, x⟩)) (fun env s1 q => ?_) fun _ _ z => z.2
  obtain ⟨hk, he, x⟩ := q
  subst he
  refine ⟨lim.keeps x.toInCall.keep, codeAny_func ?_⟩
  obtain ⟨t, ht, hq⟩ := hbody A outer s H vs Q E (hr.deeper _) hsp
  have I : Inv (cxOf CX P w K mg base N qual scope f cdv A outer s H E) [] (L2.start N vs) H s1 := inv_start S hr.hd e0 hl r x
  refine wpAny_mono (ht [] s1 (L2.start N vs) H _ (Nat.le_trans h1 hk) I hq) (fun fl s' hs => ?_) fun e s' hs => hs
  have fin : ∀ {σ' : L2.St} {H' : Hp} {v : V} {u : Value}, Inv (cxOf CX P w K mg base N qual scope f cdv A outer s H E) [] σ' H' s' → RelV v u → Q v H' → CE outer P w H s Q u s' :=
    fun {σ' H' v u} J rv q => ⟨v, H', J.os, J.bare, J.base, J.hok, rv, q⟩
  cases fl with
  | ret u =>
    obtain ⟨v, σ', H', J, rv, q⟩ := hs
    exact fin J rv q
  | next =>
    obtain ⟨σ', H', J, q⟩ := hs
    exact fin (v := V.non) (u := Value.none) J rfl q
  | brk =>
    obtain ⟨_, _, _, q⟩ := hs
    exact False.elim q
  | cont =>
    obtain ⟨_, _, _, q⟩ := hs
    exact False.elim q
section
variable {X : Cx} {CX' : CXT} {k : Nat} {f : Addr} {fd : FuncData} {ps : List Str} {sp : Sp} {E : XK} {B : Bs} {x : Str} {p pos apos : Pos} {e o : Expr} {es : List Expr} {t : TA} {pr p1 p2 : Bool}
theorem runT {pins : List (Addr × Obj)} {σ : L2.St} {H : Hp} {s : Shared} {Q : VK} {us : List Value} {vs : List V} (F : FnT X.prog X.w X.K X.mg X.base CX' k f fd ps sp) (hr : Room k X.A) (hb : Binds X.K fd ps []) (hx : Passes CX' X E)
    (h0 : 1 ≤ s.toks) (I : Inv X pins σ H s) (r : Vals vs us) (h : sp vs H Q E) : wpAny (model X.prog X.w) X.A (call (.ref f) us) (EP X pins σ Q) X.xe s := by
  have hl : (us ++ []).length = ps.length := by rw [List.append_nil, ← r.length]; exact F.len _ _ _ _ h
  refine wpAny_call (codeAny_mono (F.run X.A X.stack s H ⟨us, []⟩ (us ++ []) vs Q E h0 hr I.env0 (hb s us I.kIn hl) (by rw [List.append_nil]; exact r) h) fun r s' hq => ?_)
  cases r with
  | error e => exact hx pins σ H s e s' I hq
  | ok fl =>
    cases fl with
    | ret u => exact I.after hq
    | next => exact False.elim hq
    | brk => exact False.elim hq
    | cont => exact False.elim hq
theorem pet_call (F : FnT X.prog X.w X.K X.mg X.base CX' k f fd ps sp) (hr : Room k X.A) (hg : Gl X x) (hm : X.mg x = some (.ref f)) (hk : PySem.W.keepIn X.K (.ref f) = true) (hb : Binds X.K fd ps []) (hx : Passes CX' X E)
    (ha : PA X (e :: es) t) (hdb : (x == ("__debug__" : Str)) = false := by decide) (he : starEach (e :: es) X.env = (false, eval e X.env) :: starEach es X.env := by rfl) (hpl : (backTo pos (starEach es X.env)).any (·.1) = false := by rfl) :
    PET X (.Call (.Name x p) (e :: es) [] pos) (tCall sp [] E t) := by
  intro pins s σ H Q h0 I h
  refine wpAny_Call_Name_kw (ld_glob I hg hm ?_ hdb)
  refine PySem.W.callWith_K (h₀ := X.base) I.ok.mod.kin hk (wpAny_mono (PySem.wpAny_toks (ha.run pos pins s σ H _ I h)) (fun us s1 q => ?_) fun _ _ z => z.2) he hpl
  obtain ⟨hk1, vs, H1, I1, r, q⟩ := q
  exact ⟨I1.kIn, runT F hr hb hx (Nat.le_trans h0 hk1) I1 r (by
    have q' : sp (vs ++ []) H1 Q E := q
    rw [List.append_nil] at q'
    exact q')⟩
/-- behind a constant text a token is out -/
theorem pa_tok {c : Str} {j : Nat} (hr : PAT X es t) (hs : starEach (.Constant (.str c) j pos :: es) X.env = (false, eval (.Constant (.str c) j pos) X.env) :: starEach es X.env := by rfl) :
    PA X (.Constant (.str c) j pos :: es) (tCons (tC (.str c)) t) := ⟨fun pos' pins s σ H Q I h => by
  rw [hs]
  show wpAny _ _ (spliced ((false, eval (.Constant (.str c) j pos) X.env) :: backTo pos' (starEach es X.env))) _ _ s
  refine Calls.spliced_cons (Calls.Constant_str ?_)
  have h' : t σ H fun xs H2 => Q (.str c :: xs) H2 := h
  exact thn (hr pos' pins { s with toks := s.toks + 1 } σ H _ (by show 1 ≤ s.toks + 1; omega) (I.tok _) h') fun us s2 ⟨xs, H2, I2, r2, q2⟩ => ⟨.str c :: xs, H2, I2, .cons ⟨_, rfl⟩ r2, q2⟩⟩
end
end Sm

namespace Sm
open PySem PySem.Spec PyProof.Rows L2

/-! ### name.replace('..', str(number)) -/
def tReplN (to tn : TE) (y : Str) : TE := fun σ H Q => to σ H fun v H1 => ∃ x, v = .str x ∧ tn σ H1 fun n H2 => ∃ i : Int, [n] = [V.int i] ∧ i.natAbs.log2 < 1920 ∧ (y == (toString i : String)) = false ∧ x.length + (x.length + 1) * (Str.ofString (toString i)).length ≤ 16777216 ∧ Q (.str (Txt.replace x y (toString i))) H2
section
variable {X : Cx} {o e : Expr} {to tn : TE} {y : Str} {j : Nat} {c0 apos pos p pos2 : Pos}
theorem pet_replN (ho : PE X o to) (he : PE X e tn) (hg : Gl X "str") (hm : X.mg "str" = none)
    (hst : starEach [.Constant (.str y) j c0, .Call (.Name "str" p) [e] [] pos2] X.env = [(false, eval (.Constant (.str y) j c0) X.env), (false, eval (.Call (.Name "str" p) [e] [] pos2) X.env)] := by rfl)
    (hs1 : starEach [e] X.env = (false, eval e X.env) :: starEach [] X.env := by rfl) (hpl : (backTo pos2 (starEach [] X.env)).any (·.1) = false := by rfl)
    (hbase : attributeBase o "replace" X.env (eval o X.env) = eval o X.env := by rfl) (hline : (apos.endLine == pos.line) = true := by rfl) :
    PET X (.Call (.Attribute o "replace" apos) [.Constant (.str y) j c0, .Call (.Name "str" p) [e] [] pos2] [] pos) (tReplN to tn y) := by
  intro pins s σ H Q h0 I h
  refine PySem.Call_method2 hbase hst hline (wpAny_mono (PySem.wpAny_toks (ho.run pins s σ H _ I h)) (fun v s1 q => ?_) fun _ _ z => z.2)
  obtain ⟨hk, v', H1, I1, r1, x, e1, q⟩ := q
  subst e1
  obtain ⟨tx, e2⟩ := r1
  subst e2
  refine ⟨"str", _, PySem.F.plainAttrs_str, PySem.F.slot_str_replace, PySem.F.type_str_replace, typeIs_str _ _ _, (fun _ e => nomatch e), Calls.callWith_builtin rfl (Calls.evalArgs_plain (Calls.spliced_cons ?_))⟩
  refine Calls.Constant_str (Calls.spliced_cons ?_)
  refine wpAny_Call_Name_kw (ld_blt (I1.tok _) hg hm (show bootBuiltins "str" = some (.type "str") by decide +kernel) ?_ (by decide) (by decide))
  have ha : PA X [e] (tCons tn tNil) := pa_cons he pa_nil hs1
  refine PyProof.Rows.callWith_type1 (wpAny_mono (PySem.wpAny_toks (ha.run pos2 pins { s1 with toks := s1.toks + 1 } σ H1 (fun xs H2 => ∃ i : Int, xs = [.int i] ∧ i.natAbs.log2 < 1920 ∧ (y == (toString i : String)) = false ∧ x.length + (x.length + 1) * (Str.ofString (toString i)).length ≤ 16777216 ∧ Q (.str (Txt.replace x y (toString i))) H2) (I1.tok _) ?_)) (fun us s2 q => ?_) fun _ _ z => z.2) hs1 hpl
  · exact q
  · obtain ⟨hk2, vs, H2, I2, rv, i, rfl, hi, hyz, hb, q2⟩ := q
    obtain ⟨u, rfl, t, rfl⟩ := vals1 rv
    have hk2' : s1.toks + 1 ≤ s2.toks := hk2
    refine PySem.P.str_of_int hi (Calls.spliced_nil ?_)
    exact PySem.SC.replace (by show s1.toks ≠ 0; omega) (by show s2.toks ≠ 0; omega) (by show s1.toks ≠ s2.toks; omega) hyz hb fun t' k => ⟨.str (Txt.replace x y (toString i)), H2, I2.tok k, ⟨t', rfl⟩, q2⟩
end
end Sm

namespace Sm
open PySem PySem.Spec PyProof.Rows L2

section
variable {X : Cx} {B : Bs} {E : XK} {Y : Fx} {pr p1 p2 : Bool} {a b c e o : Expr} {es : List Expr} {pos pos' p apos pos2 c0 : Pos} {K : PySem.W.Frag} {F H : Hp} {I : List It} {j : Nat}
theorem PET.imp {t t' : TE} (h : PET X e t) (i : ∀ σ H Q, t' σ H Q → t σ H Q) : PET X e t' := fun pins s σ H Q h0 I hq => h pins s σ H Q h0 I (i σ H Q hq)
theorem PAT.imp {t t' : TA} (h : PAT X es t) (i : ∀ σ H Q, t' σ H Q → t σ H Q) : PAT X es t' := fun pos pins s σ H Q h0 I hq => h pos pins s σ H Q h0 I (i σ H Q hq)
theorem PST.imp {st : Stmt} {t t' : TS} (h : PST X st t) (i : ∀ D σ H, t' D σ H → t D σ H) : PST X st t' := fun pins s σ H D h0 I hq => h pins s σ H D h0 I (i D σ H hq)
/-! ### replace -/
def dRepl (y : Str) : D → D → Option D
  | .a (.str x), .a (.int i) => if decide (i.natAbs.log2 < 1920) && (!(y == (toString i : String)) && decide (x.length + (x.length + 1) * (Str.ofString (toString i)).length ≤ 16777216)) then some (.str (Txt.replace x y (toString i))) else none
  | _, _ => none
def mTx : D → M Unit
  | .a (.str _) => mr ()
  | _ => fun _ => .bad
def mRepl (y : Str) (m1 m2 : M D) : M D := mb m1 fun x => mb (mTx x) fun _ => mb m2 fun n => mo (dRepl y x n)
theorem w_repl {y : Str} {m1 m2 : M D} (ho : PE X o (TV X B E true m1)) (he : PE X e (TV X B E true m2)) (hg : Gl X "str") (hm : X.mg "str" = none)
    (hst : starEach [.Constant (.str y) j c0, .Call (.Name "str" p) [e] [] pos2] X.env = [(false, eval (.Constant (.str y) j c0) X.env), (false, eval (.Call (.Name "str" p) [e] [] pos2) X.env)] := by rfl)
    (hs1 : starEach [e] X.env = (false, eval e X.env) :: starEach [] X.env := by rfl) (hpl : (backTo pos2 (starEach [] X.env)).any (·.1) = false := by rfl)
    (hbase : attributeBase o "replace" X.env (eval o X.env) = eval o X.env := by rfl) (hline : (apos.endLine == pos.line) = true := by rfl) :
    PET X (.Call (.Attribute o "replace" apos) [.Constant (.str y) j c0, .Call (.Name "str" p) [e] [] pos2] [] pos) (T X B E true (mRepl y m1 m2)) := PET.imp (pet_replN ho he hg hm hst hs1 hpl hbase hline) fun σ H Q ⟨ρ, F, I, f0, G, r0⟩ => by
  refine ⟨ρ, F, I, f0, G, ?_⟩
  refine Run.bind (fun z => z) r0 sub_refl fun x ρ1 H1 F1 s1 f1 r1 v O1 rp1 G1 => ?_
  have go : ∀ z : Str, x = .a (.str z) → ∃ x', v = .str x' ∧ TV X B E true m2 σ H1 fun n H2 => ∃ i : Int, [n] = [V.int i] ∧ i.natAbs.log2 < 1920 ∧ (y == (toString i : String)) = false ∧ x'.length + (x'.length + 1) * (Str.ofString (toString i)).length ≤ 16777216 ∧ Q (.str (Txt.replace x' y (toString i))) H2 := fun z ez => by
    subst ez
    refine ⟨z, atom_of rp1, ρ1, F1, I, f1, G1, ?_⟩
    have r2 := Run.later (p1 := true) (p2 := true) (I' := I) (fun z => ⟨z, rfl⟩) s1 (show Run X B E true σ F H I ((m2 ρ1).bind fun n => mo (dRepl y (.a (.str z)) n)) _ from r1) sub_refl fun x ρ' H' F' _ _ k => k
    refine Run.bind (fun _ => rfl) r2 sub_refl fun n ρ2 H2 F2 s2 f2 r3 w O rp G2 => ?_
    obtain ⟨d, ed, k⟩ := r3.mo
    unfold dRepl at ed
    split at ed
    · rename_i x' i e1
      split at ed
      · rename_i hc
        cases ed
        simp only [Bool.and_eq_true, Bool.not_eq_true', decide_eq_true_eq] at hc
        cases e1
        exact ⟨i, by rw [atom_of rp], hc.1, hc.2.1, hc.2.2, k H2 F2 s2 f2 _ G2.atom⟩
      · cases ed
    · cases ed
  have no : mTx x ρ1 = .bad → False := fun e => by
    have r1' : Run X B E true σ F H I ((mTx x ρ1).bind fun _ => mb m2 fun n => mo (dRepl y x n)) _ := r1
    rw [e] at r1'
    exact r1'
  cases x with
  | a q => cases q with
    | str z => exact go z rfl
    | _ => exact (no rfl).elim
  | n t ds => exact (no rfl).elim
  | sh d => exact (no rfl).elim
end
end Sm

namespace Sm
open PySem PySem.Spec PyProof.Rows L2

section
variable {P : Program} {w : World} {K : PySem.W.Frag} {mg : Str → Option Value} {base : Heap} {x qual : Str} {params : Arguments} {body : List Stmt} {scope : Scope} {dvs : List V} {kws : List (Str × V)} {f : Addr} {fd : FuncData}
/-- a def by its body, a token out -/
theorem fnT_ok {N ps : List Str} {k : Nat} {md : List Bool} {m : MS} (F : FunD K x qual params body scope dvs kws f fd) (S : FnScope N ps scope) (hmd : md.length = ps.length)
    (hbody : ∀ (cdv : Value) (A : Around) (outer : List PySem.Env) (s : Shared) (H : Hp) (E : XK) (B : Bs) (vs : List V), Room k (A.deeper (envOfC qual scope s.heap.objs.size f cdv)) →
      PSsT (cxOf (CX P w) P w K mg base N qual scope f cdv A outer s H E) body (TSt (cxOf (CX P w) P w K mg base N qual scope f cdv A outer s H E) B (fxOf md vs N.length) E m)) :
    FnT P w K mg base (CX P w) (k + 1) f fd ps (spF K md (fRun md N.length m)) := by
  obtain ⟨oc, od, dV, kV, doc, pm, an, cdv, ct, osl, rfl, lk, hcd, _, _⟩ := F.ex
  refine fnT_of lk hcd S (fun vs H Q E h => ?_) fun A outer s H vs Q E hr h => ?_
  · obtain ⟨ds, F0, O, h1, h2, _⟩ := h
    rw [← h2, hmd]
  · obtain ⟨B, q⟩ := fn_start (X := cxOf (CX P w) P w K mg base N qual scope f cdv A outer s H E) S.pre hmd h
    exact ⟨_, hbody cdv A outer s H E B vs hr, q⟩
end
section
variable {X : Cx} {B : Bs} {E : XK} {Y : Fx} {pr p1 p2 : Bool} {a b c e o : Expr} {es : List Expr} {pos pos' p apos : Pos} {j x1 : Nat}
theorem bT_ret {m : M D} (h : PET X e (T X B E pr m)) : PSsT X [.Return (some e) pos] (TSt X B Y E (mRet m)) := CwR.psst_one (PST.imp (CwR.pst_ret h) fun D σ H ⟨ρ, F, I, ok, f, G, r⟩ => by
  refine ⟨ρ, F, I, f, G, ?_⟩
  exact SRun.run ok r sub_refl fun x ρ1 H1 F1 _ f1 r1 v G1 => r1 v σ H1 F1 ok f1 G1)
theorem s_callT {CX' : CXT} {k : Nat} {f : Addr} {fd : FuncData} {ps : List Str} {x : Str} {q : Bool} {md : List Bool} {fm : FM} {ms : M (List AR)} (F : FnT X.prog X.w X.K X.mg X.base CX' k f fd ps (spF X.K md fm)) (hr : Room k X.A) (hg : Gl X x) (hm : X.mg x = some (.ref f)) (hk : PySem.W.keepIn X.K (.ref f) = true) (hb : Binds X.K fd ps []) (hx : Passes CX' X E)
    (ha : PA X (e :: es) (TAc X B E p1 ms)) (hdb : (x == ("__debug__" : Str)) = false := by decide) (he : starEach (e :: es) X.env = (false, eval e X.env) :: starEach es X.env := by rfl) (hpl : (backTo pos (starEach es X.env)).any (·.1) = false := by rfl) :
    PET X (.Call (.Name x p) (e :: es) [] pos) (T X B E (p1 && q) (mb ms (mCall q md fm))) := PET.imp (pet_call F hr hg hm hk hb hx ha hdb he hpl) tcall
theorem hT_nil : PAT X [] (Ta X B E true mNil) := fun pos pins s σ H Q _ I h => sh_nil.run pos pins s σ H Q I h
theorem hT_of (h : PA X es (Ta X B E pr (ms : M (List D)))) : PAT X es (Ta X B E pr ms) := fun pos pins s σ H Q _ I q => h.run pos pins s σ H Q I q
theorem hT_cons {m : M D} {ms : M (List D)} (h : PET X e (T X B E p1 m)) (hr : PAT X es (Ta X B E p2 ms)) (hs : starEach (e :: es) X.env = (false, eval e X.env) :: starEach es X.env := by rfl) :
    PAT X (e :: es) (Ta X B E (p1 && p2) (mCons m ms)) := PAT.imp (pat_cons h hr hs) tacons2
/-- a display that starts with a constant text -/
theorem sh_tok {z : Str} {c0 : Pos} {ms : M (List D)} (hr : PAT X es (Ta X B E p2 ms)) (hs : starEach (.Constant (.str z) j c0 :: es) X.env = (false, eval (.Constant (.str z) j c0) X.env) :: starEach es X.env := by rfl) :
    PA X (.Constant (.str z) j c0 :: es) (Ta X B E (true && p2) (mCons (mr (.str z)) ms)) := PA.imp (pa_tok hr hs) fun σ H Q q => by
  have h := tacons2 (p1 := true) (p2 := p2) (m := mr (.str z)) σ H Q q
  obtain ⟨ρ, F, I, f, G, r⟩ := h
  exact r.mr H F (fun _ => Same.rfl2) f (.str z) G.atom
end
end Sm

namespace Sm
open PySem PySem.Spec PyProof.Rows L2
section
variable {X : Cx} {B : Bs} {E : XK} {pr : Bool} {e tg : Expr}
/-- what a walk goes over, by what is there -/
def mIterA (d : D) : M (List D) := match d with
  | .a (.str _) => mIterS d
  | .n .tup _ => mIterT d
  | _ => mIterL d
theorem PI.alt {t t' : TI} (h : PI X tg e t) (h' : PI X tg e t') : PI X tg e (fun σ H R => t σ H R ∨ t' σ H R) := ⟨fun pins s σ H R I hq => by
  rcases hq with hq | hq
  · exact h.run pins s σ H R I hq
  · exact h'.run pins s σ H R I hq⟩
theorem i_any {m : M D} (h : PE X e (T X B E pr m)) : PI X tg e (TIt X B E pr (mb m mIterA)) := PI.imp (PI.alt (i_str h) (PI.alt (i_tup h) (i_list h))) fun σ H R ⟨ρ, F, I, f, G, r⟩ => by
  have key : ∀ g : D → M (List D), mb m mIterA ρ = mb m g ρ → TIt X B E pr (mb m g) σ H R := fun g e => ⟨ρ, F, I, f, G, by
    rw [e] at r
    exact r⟩
  cases em : m ρ with
  | exc x ρ1 => exact .inl (key _ (by unfold mb; rw [em]; rfl))
  | bad => exact .inl (key _ (by unfold mb; rw [em]; rfl))
  | ok d ρ1 =>
    have go : ∀ g : D → M (List D), mIterA d = g d → mb m mIterA ρ = mb m g ρ := fun g e => by
      unfold mb
      rw [em]
      show mIterA d ρ1 = g d ρ1
      rw [e]
    cases d with
    | a x => cases x with
      | str z => exact .inl (key _ (go _ rfl))
      | _ => exact .inr (.inr (key _ (go _ rfl)))
    | n t ds => cases t with
      | tup => exact .inr (.inl (key _ (go _ rfl)))
      | _ => exact .inr (.inr (key _ (go _ rfl)))
    | sh d => exact .inr (.inr (key _ (go _ rfl)))
@[simp] theorem ev_iterAs {z : Str} {ρ : Env} : mIterA (.a (.str z)) ρ = mIterS (.a (.str z)) ρ := Eq.trans rfl rfl
@[simp] theorem ev_iterAt {ds : List D} {ρ : Env} : mIterA (.n .tup ds) ρ = if fres ds = true then .ok ds ρ else .bad := Eq.trans rfl rfl
@[simp] theorem ev_iterAl {ds : List D} {ρ : Env} : mIterA (.n .lst ds) ρ = if fres ds = true then .ok ds ρ else .bad := Eq.trans rfl rfl
@[simp] theorem ev_iterAsh {ds : List D} {ρ : Env} : mIterA (.sh (.n .lst ds)) ρ = if fres (shrs ds) = true then .ok (shrs ds) ρ else .bad := Eq.trans rfl rfl
@[simp] theorem ev_iterAk {ds : List D} {ρ : Env} : mIterA (.sh (.n .kl ds)) ρ = if fres (shrs ds) = true then .ok (shrs ds) ρ else .bad := Eq.trans rfl rfl
end
end Sm

namespace Sm
open PySem PySem.Spec PyProof.Rows L2
/-! ### running forward, with what is not told -/
theorem cg_bind {α β : Type} {r r' : Res α} {f : α → M β} (h : r = r') : r.bind f = r'.bind f := by rw [h]
theorem cg_s {α : Type} {r r' : Res α} {f : α → Env → SRes} (h : r = r') : r.s f = r'.s f := by rw [h]
theorem cg_seq {r r' : SRes} {m : MS} (h : r = r') : r.seq m = r'.seq m := by rw [h]
theorem cg_obind {α β : Type} {r r' : Option α} {f : α → Option β} (h : r = r') : r.bind f = r'.bind f := by rw [h]
/-- it goes on, and so -/
def SRes.Nx (r : SRes) (Q : Env → Prop) : Prop := match r with
  | .next ρ => Q ρ
  | .cont ρ => Q ρ
  | _ => False
def SRes.Rt (r : SRes) (Q : D → Env → Prop) : Prop := match r with
  | .ret d ρ => Q d ρ
  | _ => False
def Res.To {α : Type} (r : Res α) (Q : α → Env → Prop) : Prop := match r with
  | .ok x ρ => Q x ρ
  | _ => False
theorem Nx_next {ρ : Env} {Q : Env → Prop} : (SRes.next ρ).Nx Q ↔ Q ρ := Iff.rfl
theorem Nx_cont {ρ : Env} {Q : Env → Prop} : (SRes.cont ρ).Nx Q ↔ Q ρ := Iff.rfl
theorem Rt_ret {d : D} {ρ : Env} {Q : D → Env → Prop} : (SRes.ret d ρ).Rt Q ↔ Q d ρ := Iff.rfl
@[simp] theorem To_ok {α : Type} {x : α} {ρ : Env} {Q : α → Env → Prop} : (Res.ok x ρ).To Q ↔ Q x ρ := Iff.rfl
theorem cg_Nx {r r' : SRes} {Q : Env → Prop} (h : r = r') : r.Nx Q = r'.Nx Q := by rw [h]
theorem cg_Rt {r r' : SRes} {Q : D → Env → Prop} (h : r = r') : r.Rt Q = r'.Rt Q := by rw [h]
theorem cg_To {α : Type} {r r' : Res α} {Q : α → Env → Prop} (h : r = r') : r.To Q = r'.To Q := by rw [h]
theorem SRes.Nx.get {r : SRes} {Q : Env → Prop} (h : r.Nx Q) : ∃ ρ, (r = .next ρ ∨ r = .cont ρ) ∧ Q ρ := by
  cases r with
  | next ρ => exact ⟨ρ, .inl rfl, h⟩
  | cont ρ => exact ⟨ρ, .inr rfl, h⟩
  | _ => exact h.elim
theorem SRes.Rt.get {r : SRes} {Q : D → Env → Prop} (h : r.Rt Q) : ∃ d ρ, r = .ret d ρ ∧ Q d ρ := by
  cases r with
  | ret d ρ => exact ⟨d, ρ, rfl, h⟩
  | _ => exact h.elim
theorem Res.To.get {α : Type} {r : Res α} {Q : α → Env → Prop} (h : r.To Q) : ∃ d ρ, r = .ok d ρ ∧ Q d ρ := by
  cases r with
  | ok d ρ => exact ⟨d, ρ, rfl, h⟩
  | _ => exact h.elim
theorem fRun_Rt {md : List Bool} {n : Nat} {m : MS} {ds : List D} {Q : D → List D → Prop} (h : ∀ P : D → Env → Prop, (∀ d ρ os, outs md ρ = some os → Q d os → P d ρ) → (m (env0 n ds)).Rt P) : ∃ d os, fRun md n m ds = .ok d os ∧ Q d os := by
  obtain ⟨d, ρ, e, os, e2, q⟩ := (h (fun d ρ => ∃ os, outs md ρ = some os ∧ Q d os) fun d ρ os e q => ⟨os, e, q⟩).get
  exact ⟨d, os, fRun_ret e e2, q⟩
theorem mFor_inv {g : MG} {b : MS} {I : Env → Prop} : ∀ {ds : List D}, (∀ d ∈ ds, ∀ ρ, I ρ → ∃ ρ1, g d ρ = some ρ1 ∧ (b ρ1).Nx I) → ∀ {ρ}, I ρ → ∃ ρ', mFor g b ds ρ = .next ρ' ∧ I ρ'
  | [], _, ρ, h => ⟨ρ, rfl, h⟩
  | d :: ds, hb, ρ, h => by
    obtain ⟨ρ1, e1, n1⟩ := hb d List.mem_cons_self ρ h
    obtain ⟨ρ2, e2, h2⟩ := n1.get
    obtain ⟨ρ3, e3, h3⟩ := mFor_inv (fun d hd => hb d (List.mem_cons_of_mem _ hd)) h2
    refine ⟨ρ3, ?_, h3⟩
    rcases e2 with e2 | e2
    · rw [mFor_next e1 e2, e3]
    · rw [mFor_cont e1 e2, e3]
/-- .. by a number of what is done -/
theorem mFor_invN {g : MG} {b : MS} {I : Nat → Env → Prop} : ∀ {ds : List D} (k : Nat), (∀ i d, ds[i]? = some d → ∀ ρ, I (k + i) ρ → ∃ ρ1, g d ρ = some ρ1 ∧ (b ρ1).Nx (I (k + i + 1))) → ∀ {ρ}, I k ρ → ∃ ρ', mFor g b ds ρ = .next ρ' ∧ I (k + ds.length) ρ'
  | [], k, _, ρ, h => ⟨ρ, rfl, h⟩
  | d :: ds, k, hb, ρ, h => by
    obtain ⟨ρ1, e1, n1⟩ := hb 0 d rfl ρ h
    obtain ⟨ρ2, e2, h2⟩ := n1.get
    obtain ⟨ρ3, e3, h3⟩ := mFor_invN (ds := ds) (k + 1) (fun i d hd ρ h => by
      have := hb (i + 1) d (by simpa using hd) ρ (by rw [show k + (i + 1) = k + 1 + i by omega]; exact h)
      rw [show k + (i + 1) + 1 = k + 1 + i + 1 by omega] at this
      exact this) h2
    refine ⟨ρ3, ?_, by
      rw [List.length_cons, show k + (ds.length + 1) = k + 1 + ds.length by omega]
      exact h3⟩
    rcases e2 with e2 | e2
    · rw [mFor_next e1 e2, e3]
    · rw [mFor_cont e1 e2, e3]
theorem Nx_for {g : MG} {b : MS} {rest : MS} {ds : List D} {ρ : Env} {Q : Env → Prop} (I : Env → Prop) (h0 : I ρ) (hb : ∀ J : Env → Prop, (∀ ρ, I ρ → J ρ) → ∀ d ∈ ds, ∀ ρ, I ρ → ∃ ρ1, g d ρ = some ρ1 ∧ (b ρ1).Nx J) (k : ∀ ρ, I ρ → (rest ρ).Nx Q) : ((mFor g b ds ρ).seq rest).Nx Q := by
  obtain ⟨ρ', e, h⟩ := mFor_inv (hb I fun _ h => h) h0
  rw [e]
  exact k ρ' h
theorem Nx_for0 {g : MG} {b : MS} {ds : List D} {ρ : Env} {Q : Env → Prop} (I : Env → Prop) (h0 : I ρ) (hb : ∀ J : Env → Prop, (∀ ρ, I ρ → J ρ) → ∀ d ∈ ds, ∀ ρ, I ρ → ∃ ρ1, g d ρ = some ρ1 ∧ (b ρ1).Nx J) (k : ∀ ρ, I ρ → Q ρ) : (mFor g b ds ρ).Nx Q := by
  obtain ⟨ρ', e, h⟩ := mFor_inv (hb I fun _ h => h) h0
  rw [e]
  exact k ρ' h
theorem Rt_for {g : MG} {b : MS} {rest : MS} {ds : List D} {ρ : Env} {Q : D → Env → Prop} (I : Env → Prop) (h0 : I ρ) (hb : ∀ J : Env → Prop, (∀ ρ, I ρ → J ρ) → ∀ d ∈ ds, ∀ ρ, I ρ → ∃ ρ1, g d ρ = some ρ1 ∧ (b ρ1).Nx J) (k : ∀ ρ, I ρ → (rest ρ).Rt Q) : ((mFor g b ds ρ).seq rest).Rt Q := by
  obtain ⟨ρ', e, h⟩ := mFor_inv (hb I fun _ h => h) h0
  rw [e]
  exact k ρ' h
theorem Nx_forN {g : MG} {b : MS} {rest : MS} {ds : List D} {ρ : Env} {Q : Env → Prop} (I : Nat → Env → Prop) (h0 : I 0 ρ) (hb : ∀ J : Env → Prop, ∀ i d, ds[i]? = some d → (∀ ρ, I (i + 1) ρ → J ρ) → ∀ ρ, I i ρ → ∃ ρ1, g d ρ = some ρ1 ∧ (b ρ1).Nx J) (k : ∀ ρ, I ds.length ρ → (rest ρ).Nx Q) : ((mFor g b ds ρ).seq rest).Nx Q := by
  obtain ⟨ρ', e, h⟩ := mFor_invN (I := I) 0 (fun i d hd ρ h => by rw [Nat.zero_add] at *; exact hb (I (i + 1)) i d hd (fun _ h => h) ρ h) h0
  rw [e]
  rw [Nat.zero_add] at h
  exact k ρ' h
theorem Rt_forN {g : MG} {b : MS} {rest : MS} {ds : List D} {ρ : Env} {Q : D → Env → Prop} (I : Nat → Env → Prop) (h0 : I 0 ρ) (hb : ∀ J : Env → Prop, ∀ i d, ds[i]? = some d → (∀ ρ, I (i + 1) ρ → J ρ) → ∀ ρ, I i ρ → ∃ ρ1, g d ρ = some ρ1 ∧ (b ρ1).Nx J) (k : ∀ ρ, I ds.length ρ → (rest ρ).Rt Q) : ((mFor g b ds ρ).seq rest).Rt Q := by
  obtain ⟨ρ', e, h⟩ := mFor_invN (I := I) 0 (fun i d hd ρ h => by rw [Nat.zero_add] at *; exact hb (I (i + 1)) i d hd (fun _ h => h) ρ h) h0
  rw [e]
  rw [Nat.zero_add] at h
  exact k ρ' h
theorem lc_inv {own : List Nat} {g : MG} {t : M Bool} {e : M D} {I : Env → Prop} {P : D → Prop} : ∀ {ds acc : List D}, (∀ d ∈ ds, ∀ ρ, I ρ → ∃ ρ1, g d ρ = some ρ1 ∧ (t ρ1).To fun b ρ2 => if b = true then (e ρ2).To fun y ρ3 => P y ∧ I (wipeE own ρ3) else I (wipeE own ρ2)) → acc.length + ds.length ≤ sizeLine → (∀ y ∈ acc, P y) → ∀ {ρ}, I ρ →
    ∃ ys ρ', lcGo own g t e ds acc ρ = .ok (.lst ys) ρ' ∧ I ρ' ∧ (∀ y ∈ ys, P y) ∧ ys.length ≤ acc.length + ds.length
  | [], acc, _, _, ha, ρ, h => ⟨acc, ρ, rfl, h, ha, Nat.le_add_right _ _⟩
  | d :: ds, acc, hb, hl, ha, ρ, h => by
    obtain ⟨ρ1, e1, n1⟩ := hb d List.mem_cons_self ρ h
    obtain ⟨b, ρ2, e2, h2⟩ := n1.get
    rw [List.length_cons] at hl
    cases b with
    | true =>
      rw [if_pos rfl] at h2
      obtain ⟨y, ρ3, e3, p3, h3⟩ := h2.get
      obtain ⟨ys, ρ4, e4, h4, p4, l4⟩ := lc_inv (ds := ds) (acc := acc ++ [y]) (fun d hd => hb d (List.mem_cons_of_mem _ hd)) (by rw [List.length_append, List.length_singleton]; omega) (fun z hz => by
        rcases List.mem_append.mp hz with hz | hz
        · exact ha z hz
        · rw [List.mem_singleton.mp hz]; exact p3) h3
      exact ⟨ys, ρ4, by rw [lc_yes e1 e2 e3 (by omega), e4], h4, p4, by rw [List.length_append, List.length_singleton] at l4; rw [List.length_cons]; omega⟩
    | false =>
      rw [if_neg (by decide)] at h2
      obtain ⟨ys, ρ4, e4, h4, p4, l4⟩ := lc_inv (ds := ds) (acc := acc) (fun d hd => hb d (List.mem_cons_of_mem _ hd)) (by omega) ha h2
      exact ⟨ys, ρ4, by rw [lc_no e1 e2, e4], h4, p4, by rw [List.length_cons]; omega⟩
/-- a comprehension that is a map -/
theorem lc_map {α : Type} {δ ε : α → D} {own : List Nat} {g : MG} {e : M D} {ρ : Env} : ∀ {xs : List α} {acc : List D}, (∀ x ∈ xs, ∃ ρ1, g (δ x) ρ = some ρ1 ∧ (e ρ1).To fun y ρ3 => y = ε x ∧ wipeE own ρ3 = ρ) → acc.length + xs.length ≤ sizeLine → lcGo own g mYes e (xs.map δ) acc ρ = .ok (.lst (acc ++ xs.map ε)) ρ
  | [], acc, _, _ => by simp
  | d :: ds, acc, hb, hl => by
    obtain ⟨ρ1, e1, n1⟩ := hb d List.mem_cons_self
    obtain ⟨y, ρ3, e3, rfl, h3⟩ := n1.get
    rw [List.length_cons] at hl
    rw [List.map_cons, lc_yes e1 (by simp) e3 (by omega), h3, lc_map (fun d hd => hb d (List.mem_cons_of_mem _ hd)) (by rw [List.length_append, List.length_singleton]; omega)]
    simp
/-- .. a filter and a map -/
theorem lc_fmap {α : Type} {δ ε : α → D} {own : List Nat} {g : MG} {t : M Bool} {e : M D} {ρ : Env} (p : α → Bool) : ∀ {xs : List α} {acc : List D}, (∀ x ∈ xs, ∃ ρ1, g (δ x) ρ = some ρ1 ∧ (t ρ1).To fun b ρ2 => b = p x ∧ if b = true then (e ρ2).To fun y ρ3 => y = ε x ∧ wipeE own ρ3 = ρ else wipeE own ρ2 = ρ) → acc.length + xs.length ≤ sizeLine → lcGo own g t e (xs.map δ) acc ρ = .ok (.lst (acc ++ (xs.filter p).map ε)) ρ
  | [], acc, _, _ => by simp
  | d :: ds, acc, hb, hl => by
    obtain ⟨ρ1, e1, n1⟩ := hb d List.mem_cons_self
    obtain ⟨b, ρ2, e2, rfl, h2⟩ := n1.get
    rw [List.length_cons] at hl
    rw [List.map_cons]
    cases hp : p d with
    | true =>
      rw [hp, if_pos rfl] at h2
      rw [hp] at e2
      obtain ⟨y, ρ3, e3, rfl, h3⟩ := h2.get
      rw [lc_yes e1 e2 e3 (by omega), h3, lc_fmap p (fun d hd => hb d (List.mem_cons_of_mem _ hd)) (by rw [List.length_append, List.length_singleton]; omega), List.filter_cons_of_pos hp]
      simp
    | false =>
      rw [hp, if_neg (by decide)] at h2
      rw [hp] at e2
      rw [lc_no e1 e2, h2, lc_fmap p (fun d hd => hb d (List.mem_cons_of_mem _ hd)) (by omega), List.filter_cons_of_neg (by rw [hp]; decide)]
theorem mFor_invT {α : Type} {δ : α → D} {g : MG} {b : MS} {I : Nat → Env → Prop} {xs : List α} (hb : ∀ i x, xs[i]? = some x → ∀ ρ, I i ρ → ∃ ρ1, g (δ x) ρ = some ρ1 ∧ (b ρ1).Nx (I (i + 1))) {ρ : Env} (h0 : I 0 ρ) : ∃ ρ', mFor g b (xs.map δ) ρ = .next ρ' ∧ I xs.length ρ' := by
  obtain ⟨ρ', e, h⟩ := mFor_invN (ds := xs.map δ) (I := I) 0 (fun i d hd ρ h => by
    rw [Nat.zero_add] at *
    rw [List.getElem?_map] at hd
    obtain ⟨x, hx, rfl⟩ := Option.map_eq_some_iff.mp hd
    exact hb i x hx ρ h) h0
  rw [Nat.zero_add, List.length_map] at h
  exact ⟨ρ', e, h⟩
theorem Nx_forT {α : Type} {δ : α → D} {g : MG} {b : MS} {rest : MS} {xs : List α} {ρ : Env} {Q : Env → Prop} (I : Nat → Env → Prop) (h0 : I 0 ρ) (hb : ∀ J : Env → Prop, ∀ i x, xs[i]? = some x → (∀ ρ, I (i + 1) ρ → J ρ) → ∀ ρ, I i ρ → ∃ ρ1, g (δ x) ρ = some ρ1 ∧ (b ρ1).Nx J) (k : ∀ ρ, I xs.length ρ → (rest ρ).Nx Q) : ((mFor g b (xs.map δ) ρ).seq rest).Nx Q := by
  obtain ⟨ρ', e, h⟩ := mFor_invT (I := I) (fun i x hx => hb (I (i + 1)) i x hx fun _ h => h) h0
  rw [e]
  exact k ρ' h
theorem Nx_forT0 {α : Type} {δ : α → D} {g : MG} {b : MS} {xs : List α} {ρ : Env} {Q : Env → Prop} (I : Nat → Env → Prop) (h0 : I 0 ρ) (hb : ∀ J : Env → Prop, ∀ i x, xs[i]? = some x → (∀ ρ, I (i + 1) ρ → J ρ) → ∀ ρ, I i ρ → ∃ ρ1, g (δ x) ρ = some ρ1 ∧ (b ρ1).Nx J) (k : ∀ ρ, I xs.length ρ → Q ρ) : (mFor g b (xs.map δ) ρ).Nx Q := by
  obtain ⟨ρ', e, h⟩ := mFor_invT (I := I) (fun i x hx => hb (I (i + 1)) i x hx fun _ h => h) h0
  rw [e]
  exact k ρ' h
theorem Rt_forT {α : Type} {δ : α → D} {g : MG} {b : MS} {rest : MS} {xs : List α} {ρ : Env} {Q : D → Env → Prop} (I : Nat → Env → Prop) (h0 : I 0 ρ) (hb : ∀ J : Env → Prop, ∀ i x, xs[i]? = some x → (∀ ρ, I (i + 1) ρ → J ρ) → ∀ ρ, I i ρ → ∃ ρ1, g (δ x) ρ = some ρ1 ∧ (b ρ1).Nx J) (k : ∀ ρ, I xs.length ρ → (rest ρ).Rt Q) : ((mFor g b (xs.map δ) ρ).seq rest).Rt Q := by
  obtain ⟨ρ', e, h⟩ := mFor_invT (I := I) (fun i x hx => hb (I (i + 1)) i x hx fun _ h => h) h0
  rw [e]
  exact k ρ' h
/-! ### calls, evaluated -/
def FRes.resC (as : List AR) (ρ : Env) : FRes → Res D
  | .ok r os => if cln r && clns os then .ok r (puts (ioJ as) os ρ) else .ok r (shrJ (boJ as) (puts (ioJ as) os ρ))
  | .exc x os => if clns os then .exc x (puts (ioJ as) os ρ) else .exc x (shrJ (boJ as) (puts (ioJ as) os ρ))
  | .bad => .bad
theorem cg_resC {as : List AR} {ρ : Env} {r r' : FRes} (h : r = r') : FRes.resC as ρ r = FRes.resC as ρ r' := by rw [h]
@[simp] theorem resC_ok {as : List AR} {ρ : Env} {r : D} {os : List D} : FRes.resC as ρ (.ok r os) = if cln r && clns os then .ok r (puts (ioJ as) os ρ) else .ok r (shrJ (boJ as) (puts (ioJ as) os ρ)) := rfl
@[simp] theorem resC_exc {as : List AR} {ρ : Env} {x : Ex} {os : List D} : FRes.resC as ρ (.exc x os) = if clns os then .exc x (puts (ioJ as) os ρ) else .exc x (shrJ (boJ as) (puts (ioJ as) os ρ)) := rfl
theorem ev_mcall {q : Bool} {md : List Bool} {f : FM} {as : List AR} {ρ : Env} : mCall q md f as ρ = if as.map AR.isIo = md ∧ (ioJ as ++ boJ as).Nodup ∧ (q = true → (ioJ as).isEmpty = true ∧ fres (avals as) = true) then (aDs as ρ).elim .bad fun ds => FRes.resC as ρ (f ds) else .bad := by
  unfold mCall
  by_cases h1 : as.map AR.isIo = md <;> by_cases h2 : (ioJ as ++ boJ as).Nodup <;> cases q <;> simp [h1, h2]
  · cases aDs as ρ with
    | none => rfl
    | some ds => simp only [Option.elim]; cases f ds <;> simp [FRes.resC]
  · by_cases h3 : ioJ as = [] <;> by_cases h4 : fres (avals as) = true <;> simp [h3, h4]
    cases aDs as ρ with
    | none => rfl
    | some ds => simp only [Option.elim]; cases f ds <;> simp [FRes.resC, h3]
theorem aDs_n {ρ : Env} : aDs [] ρ = some [] := by unfold aDs; rfl
theorem aDs_v {d : D} {as : List AR} {ρ : Env} : aDs (.val d :: as) ρ = (aDs as ρ).map (d :: ·) := by rw [aDs]
theorem aDs_b {j : Nat} {as : List AR} {ρ : Env} : aDs (.bor j :: as) ρ = (ρ[j]?).join.bind fun d => (aDs as ρ).map (Sm.shr d :: ·) := by
  rw [aDs]
  cases ρ[j]? with
  | none => rfl
  | some x => cases x <;> rfl
theorem aDs_i {j : Nat} {as : List AR} {ρ : Env} : aDs (.io j :: as) ρ = (ρ[j]?).join.bind fun d => (aDs as ρ).map (d :: ·) := by
  rw [aDs]
  cases ρ[j]? with
  | none => rfl
  | some x => cases x <;> rfl
@[simp] theorem io_n : ioJ [] = [] := by unfold ioJ; rfl
@[simp] theorem io_v {d : D} {as : List AR} : ioJ (.val d :: as) = ioJ as := by rw [ioJ]; simp
@[simp] theorem io_b {j : Nat} {as : List AR} : ioJ (.bor j :: as) = ioJ as := by rw [ioJ]; simp
@[simp] theorem io_i {j : Nat} {as : List AR} : ioJ (.io j :: as) = j :: ioJ as := by rw [ioJ]
@[simp] theorem bo_n : boJ [] = [] := by unfold boJ; rfl
@[simp] theorem bo_v {d : D} {as : List AR} : boJ (.val d :: as) = boJ as := by rw [boJ]; simp
@[simp] theorem bo_b {j : Nat} {as : List AR} : boJ (.bor j :: as) = j :: boJ as := by rw [boJ]
@[simp] theorem bo_i {j : Nat} {as : List AR} : boJ (.io j :: as) = boJ as := by rw [boJ]; simp
@[simp] theorem av_n : avals [] = [] := by unfold avals; rfl
@[simp] theorem av_v {d : D} {as : List AR} : avals (.val d :: as) = d :: avals as := by rw [avals]
@[simp] theorem av_b {j : Nat} {as : List AR} : avals (.bor j :: as) = avals as := by rw [avals]; simp
@[simp] theorem av_i {j : Nat} {as : List AR} : avals (.io j :: as) = avals as := by rw [avals]; simp
@[simp] theorem isio_v {d : D} : AR.isIo (.val d) = false := rfl
@[simp] theorem isio_b {j : Nat} : AR.isIo (.bor j) = false := rfl
@[simp] theorem isio_i {j : Nat} : AR.isIo (.io j) = true := rfl
@[simp] theorem puts_n {ds : List D} {ρ : Env} : puts [] ds ρ = ρ := by cases ds <;> rfl
@[simp] theorem puts_c {j : Nat} {js : List Nat} {d : D} {ds : List D} {ρ : Env} : puts (j :: js) (d :: ds) ρ = puts js ds (ρ.set j (some d)) := rfl
@[simp] theorem shrJ_n {ρ : Env} : shrJ [] ρ = ρ := by unfold shrJ; rfl
theorem shrJ_c {j : Nat} {js : List Nat} {ρ : Env} {d : D} (h : ρ[j]? = some (some d)) : shrJ (j :: js) ρ = shrJ js (ρ.set j (some (Sm.shr d))) := by
  rw [shrJ, h]
theorem shrJ_cc {j : Nat} {js : List Nat} {ρ : Env} : shrJ (j :: js) ρ = (ρ[j]?).join.elim (shrJ js ρ) fun d => shrJ js (ρ.set j (some (Sm.shr d))) := by
  rw [shrJ]
  cases ρ[j]? with
  | none => rfl
  | some x => cases x <;> rfl
@[simp] theorem ev_asgt {m : M D} {n : Nat} {gs : MGs} {ρ : Env} : mAsg m (gTupN n gs) ρ = (m ρ).s fun d ρ => (gTupN n gs d ρ).elim .bad .next := by
  unfold mAsg
  congr 1
  funext d ρ
  cases gTupN n gs d ρ <;> rfl
theorem cg_oelim {α β : Type} {r r' : Option α} {b : β} {f : α → β} (h : r = r') : r.elim b f = r'.elim b f := by rw [h]
theorem ev_aug {i : Nat} {g : D → D → Option D} {m : M D} {ρ : Env} : mAug i g m ρ = (ρ[i]?).join.elim .bad fun x => if fre x = true then (m ρ).s fun y ρ => (g x y).elim .bad fun z => .next (ρ.set i (some z)) else .bad := by
  unfold mAug
  cases ρ[i]? with
  | none => rfl
  | some o => cases o with
    | none => rfl
    | some x =>
      simp only [Option.join_some, Option.elim_some]
      split
      · congr 1
        funext y ρ
        cases g x y <;> rfl
      · rfl
@[simp] theorem ofS_inj {a b : String} : Str.ofString a = Str.ofString b ↔ a = b := by
  constructor
  · intro h
    rw [Str.ofString_eq_toList, Str.ofString_eq_toList] at h
    injection h with h
    have h2 : a.toList.map Char.toNat = b.toList.map Char.toNat := by simpa using h
    have h3 : a.toList = b.toList := by
      have inj : ∀ (x y : List Char), x.map Char.toNat = y.map Char.toNat → x = y := by
        intro x
        induction x with
        | nil => intro y h; cases y with
          | nil => rfl
          | cons _ _ => cases h
        | cons c x ih => intro y h; cases y with
          | nil => cases h
          | cons d y =>
            rw [List.map_cons, List.map_cons] at h
            injection h with h1 h2
            have e : c = d := Char.ext (UInt32.toNat_inj.mp h1)
            rw [e, ih y h2]
      exact inj _ _ h2
    exact String.toList_inj.mp h3
  · intro h
    rw [h]
@[simp] theorem scal_II {i j : Int} : scal (.int i) (.int j) = true := rfl
@[simp] theorem scal_SS {i j : Str} : scal (.str i) (.str j) = true := rfl
@[simp] theorem scal_BB {i j : Bool} : scal (.bl i) (.bl j) = true := rfl
end Sm

namespace Sm
open PySem PySem.Spec PyProof.Rows L2
/-! ### more of running -/
theorem atI_ev {α : Type} {xs : List α} {i : Int} : atI xs i = if 0 ≤ i then xs[i.toNat]? else if -(xs.length : Int) ≤ i then xs[(i + xs.length).toNat]? else none := by
  unfold atI ixN
  by_cases h : 0 ≤ i
  · rw [if_pos h, if_pos h]
    by_cases h2 : i < xs.length
    · rw [if_pos h2]
      rfl
    · rw [if_neg h2, List.getElem?_eq_none (by omega)]
      rfl
  · rw [if_neg h, if_neg h]
    by_cases h2 : -(xs.length : Int) ≤ i
    · rw [if_pos h2, if_pos h2]
      rfl
    · rw [if_neg h2, if_neg h2]
      rfl
@[simp] theorem atoms_n : atoms [] = some [] := rfl
@[simp] theorem atoms_c {x : V} {ds : List D} : atoms (.a x :: ds) = (atoms ds).map (x :: ·) := rfl
@[simp] theorem flat_n : flatV .non = true := rfl
@[simp] theorem flat_b {b : Bool} : flatV (.bl b) = true := rfl
@[simp] theorem flat_i {b : Int} : flatV (.int b) = true := rfl
@[simp] theorem flat_s {b : Str} : flatV (.str b) = true := rfl
theorem inV_str {s : Str} {xs : List Str} : inV (.str s) (xs.map V.str) = decide (s ∈ xs) := by
  unfold inV
  induction xs with
  | nil => rfl
  | cons x xs ih =>
    rw [List.map_cons, List.any_cons, ih]
    show ((x == s) || decide (s ∈ xs)) = _
    by_cases h : s = x
    · subst h
      simp
    · have h2 : (x == s) = false := beq_eq_false_iff_ne.mpr (fun z => h z.symm)
      simp [h2, h]
@[simp] theorem inV_n {x : V} : inV x [] = false := rfl
@[simp] theorem inV_cs {s x : Str} {xs : List V} : inV (.str s) (.str x :: xs) = (decide (s = x) || inV (.str s) xs) := by
  show ((x == s) || _) = _
  by_cases h : s = x
  · subst h
    simp
  · have h2 : (x == s) = false := beq_eq_false_iff_ne.mpr (fun z => h z.symm)
    rw [h2, decide_eq_false h]
    rfl
@[simp] theorem ev_inLl {n : Bool} {x : V} {ds : List D} : dInL n (.a x) (.n .lst ds) = (atoms ds).bind fun xs => if (flatV x && xs.all flatV) = true then some (.bl (if n then !inV x xs else inV x xs)) else none := rfl
@[simp] theorem ev_inLt {n : Bool} {x : V} {ds : List D} : dInL n (.a x) (.n .tup ds) = (atoms ds).bind fun xs => if (flatV x && xs.all flatV) = true then some (.bl (if n then !inV x xs else inV x xs)) else none := rfl
@[simp] theorem ev_inLs {n : Bool} {x : V} {ds : List D} : dInL n (.a x) (.sh (.n .lst ds)) = (atoms (shrs ds)).bind fun xs => if (flatV x && xs.all flatV) = true then some (.bl (if n then !inV x xs else inV x xs)) else none := rfl
theorem sIx_n {n d : Nat} : HT.sIx n d none = d := rfl
theorem sIx_s {n d : Nat} {v : Int} : HT.sIx n d (some v) = if v < 0 then (v + (n : Int)).toNat else min v.toNat n := rfl
@[simp] theorem ev_slT {ds : List D} {lo hi : Option Int} : dSl (.n .tup ds) lo hi = if fres ds = true ∧ ¬ (HT.sIx ds.length 0 lo = 0 ∧ HT.sIx ds.length ds.length hi = ds.length) then some (.tup (cutD ds lo hi)) else none := rfl
@[simp] theorem ev_slL {ds : List D} {lo hi : Option Int} : dSl (.n .lst ds) lo hi = if fres ds = true then some (.lst (cutD ds lo hi)) else none := rfl
@[simp] theorem ev_slLs {ds : List D} {lo hi : Option Int} : dSl (.sh (.n .lst ds)) lo hi = if fres (shrs ds) = true then some (.lst (cutD (shrs ds) lo hi)) else none := rfl
@[simp] theorem ev_slS {z : Str} {lo hi : Option Int} : dSl (.a (.str z)) lo hi = if z.length ≤ sizeLine then some (.str (cutS z lo hi)) else none := rfl
@[simp] theorem ev_addSS {i j : Str} : dAddT (.a (.str i)) (.a (.str j)) = if i.length + j.length ≤ sizeLine then some (.str (i ++ j)) else none := by
  have e : dAddT (.a (.str i)) (.a (.str j)) = ((if decide (i.length + j.length ≤ sizeLine) = true then some (D.str (i ++ j)) else none).or none).or none := rfl
  rw [e]
  by_cases h : i.length + j.length ≤ sizeLine
  · rw [if_pos h, if_pos (decide_eq_true h)]
    rfl
  · rw [if_neg h, if_neg (by rw [decide_eq_false h]; decide)]
    rfl
@[simp] theorem ev_addTT {xs ys : List D} : dAddT (.n .tup xs) (.n .tup ys) = if xs ≠ [] ∧ xs.length + ys.length ≤ sizeLine ∧ fres xs = true ∧ fres ys = true then some (.tup (xs ++ ys)) else none := rfl
@[simp] theorem ev_addLL {xs ys : List D} : dAddT (.n .lst xs) (.n .lst ys) = if xs.length + ys.length ≤ sizeLine ∧ fres xs = true ∧ fres ys = true then some (.lst (xs ++ ys)) else none := by
  have e : dAddT (.n .lst xs) (.n .lst ys) = (dCat (.n .lst xs) (.n .lst ys)).or none := rfl
  rw [e]
  unfold dCat
  simp only [ev_unn]
  by_cases h : xs.length + ys.length ≤ sizeLine ∧ fres xs = true ∧ fres ys = true
  · rw [if_pos h]; rfl
  · rw [if_neg h]; rfl
end Sm

namespace Pf
open PySem PySem.Spec PyProof.Rows L2 Sm
noncomputable def m_with_number : MS := mRet (mRepl "#" (mLook 0) (mLook 1))
noncomputable def f_with_number : FM := fRun [false, false] 2 m_with_number
noncomputable def m_value_of_copy : MS := mSeq (mIf (mb (mBin (dEq false) (mBin dSub (mLook 0) (mr (.int 0))) (mr (.str "index"))) mBl) (mRet (mb (mCons (mr (.str "number")) (mCons (mBin (dIc cNz fun i j => .int (i.fmod j)) (mBin (dAddT) (mBin dSub (mLook 0) (mr (.int 1))) (mLook 1)) (mr (.int 4294967296))) (mNil))) mTupN)) (mSkip))
          (mSeq (mIf (mb (mBin (dEq false) (mBin dSub (mLook 0) (mr (.int 0))) (mr (.str "name"))) mBl) (mRet (mb (mCons (mr (.str "name")) (mCons (mb (kVal (mb (mBin dSub (mLook 0) (mr (.int 1))) mFree) (kVal (mVar 1) (kNil))) (mCall true [false, false] (f_with_number))) (mNil))) mTupN)) (mSkip))
          (mSeq (mIf (mb (mBin (dEq false) (mBin dSub (mLook 0) (mr (.int 0))) (mr (.str "told"))) mBl) (mRet (mb (mCons (mr (.str "told")) (mCons (mb (kVal (mb (mBin dSub (mLook 0) (mr (.int 1))) mFree) (kVal (mVar 1) (kNil))) (mCall true [false, false] (f_with_number))) (mCons (mb (mBin dSub (mLook 0) (mr (.int 2))) mFree) (mNil)))) mTupN)) (mSkip))
          (mRet (mVar 0))))
noncomputable def f_value_of_copy : FM := fRun [false, false] 2 m_value_of_copy
noncomputable def m_written_out : MS := mSeq (mAsg (mb (mNil) mLstN) (gSet 1))
          (mSeq (mForS (mb (mb (mBin dSub (mLook 0) (mr (.int 1))) mFree) mIterA) (gSet 2) (mSeq (mIf (mb (mBin (dEq true) (mBin dSub (mLook 2) (mr (.int 0))) (mr (.str "thing"))) mBl) (mCont) (mSkip))
          (mSeq (mAsg (mVar 2) (gTupN 5 (gsCons (gSet 3) (gsCons (gSet 4) (gsCons (gSet 5) (gsCons (gSet 6) (gsCons (gSet 7) (gsNil))))))))
          (mSeq (mIf (mTest (mIsN (mLook 5))) (mSeq (mDrop (mBmW true 1 "list" wAppend (mChk 1 []) (mCons (mb (mCons (mVar 4) (mCons (mVar 6) (mCons (mVar 7) (mNil)))) mTupN) (mNil))))
          (mCont)) (mSkip))
          (mForS (mb (mCons (mLook 5) (mNil)) mRange1) (gSet 8) (mSeq (mAsg (mb (mLc [9, 10] (mb (mVar 7) mIterA) (gTupN 2 (gsCons (gSetC 9) (gsCons (gSetC 10) (gsNil)))) (mYes) (mb (mCons (mVar 9) (mCons (mb (kVal (mVar 10) (kVal (mVar 8) (kNil))) (mCall true [false, false] (f_value_of_copy))) (mNil))) mTupN)) mTupC) (gSet 11))
          (mDrop (mBmW true 1 "list" wAppend (mChk 1 []) (mCons (mb (mCons (mBin (dAddT) (mBin (dAddT) (mLook 4) (mr (.str "."))) (mArgs dStrI (mCons (mLook 8) (mNil)))) (mCons (mVar 6) (mCons (mVar 11) (mNil)))) mTupN) (mNil))))))))))
          (mRet (mb (mMove 1) mTupC)))
noncomputable def f_written_out : FM := fRun [false] 12 m_written_out
noncomputable def m__law_tape : MS := mSeq (mAsg (mLc [1] (mb (mVar 0) mIterA) (gSetC 1) (mYes) (mArgs dAbs (mCons (mArgs dInt (mCons (mLook 1) (mNil))) (mNil)))) (gSet 2))
          (mSeq (mAsg (mr (.int 7)) (gSet 3))
          (mSeq (mForS (mb (mFrz 2) mIterA) (gSet 1) (mAsg (mBin (dIc cNz fun i j => .int (i.fmod j)) (mArgs dInt (mCons (mBin (dAddT) (mBin (dIc cMul fun i j => .int (i * j)) (mLook 3) (mr (.int 31))) (mLook 1)) (mNil))) (mr (.int 2147483647))) (gSet 3)))
          (mRet (mb (mCons (mMove 2) (mCons (mr (.int 0)) (mCons (mr (.int 0)) (mCons (mVar 3) (mCons (mr (.int 0)) (mNil)))))) (mDisp ["cells", "at", "left", "seed", "salt"])))))
noncomputable def f__law_tape : FM := fRun [false] 4 m__law_tape
noncomputable def m__law_take : MS := mSeq (mIf (mAnd (mb (mBin (dEq false) (mBin dSub (mLook 0) (mr (.str "left"))) (mr (.int 0))) mBl) (mb (mBin (dLt) (mBin dSub (mLook 0) (mr (.str "at"))) (mArgs dLen (mCons (mBin dSub (mLook 0) (mr (.str "cells"))) (mNil)))) mBl)) (mSeq (mDo (mPut 0 (mChk 0 []) (mr (.str "left")) (mb (mBin dSub (mBin dSub (mLook 0) (mr (.str "cells"))) (mBin dSub (mLook 0) (mr (.str "at")))) mFree)))
          (mDo (mPut 0 (mChk 0 []) (mr (.str "at")) (mBin (dAddT) (mBin dSub (mLook 0) (mr (.str "at"))) (mr (.int 1)))))) (mSkip))
          (mSeq (mIf (mb (mBin (dGt) (mBin dSub (mLook 0) (mr (.str "left"))) (mr (.int 0))) mBl) (mSeq (mAsg (mBin (dIc cNz fun i j => .int (i.fmod j)) (mArgs dInt (mCons (mBin dSub (mLook 0) (mr (.str "left"))) (mNil))) (mLook 1)) (gSet 2))
          (mSeq (mDo (mPut 0 (mChk 0 []) (mr (.str "left")) (mBin (dIc cDivN fun i j => .int (i.fdiv j)) (mBin dSub (mLook 0) (mr (.str "left"))) (mLook 1))))
          (mRet (mVar 2)))) (mSkip))
          (mSeq (mDo (mPut 0 (mChk 0 []) (mr (.str "salt")) (mBin (dAddT) (mBin dSub (mLook 0) (mr (.str "salt"))) (mr (.int 1)))))
          (mSeq (mAsg (mBin (dIc cNz fun i j => .int (i.fmod j)) (mArgs dInt (mCons (mBin (dAddT) (mBin (dIc cMul fun i j => .int (i * j)) (mBin dSub (mLook 0) (mr (.str "seed"))) (mr (.int 48271))) (mBin (dIc cMul fun i j => .int (i * j)) (mBin dSub (mLook 0) (mr (.str "salt"))) (mr (.int 69621)))) (mNil))) (mr (.int 2147483647))) (gSet 3))
          (mSeq (mAsg (mBin (dIc cNz fun i j => .int (i.fmod j)) (mArgs dInt (mCons (mBin (dAddT) (mBin (dAddT) (mBin (dIc cMul fun i j => .int (i * j)) (mLook 3) (mLook 3)) (mBin (dIc cMul fun i j => .int (i * j)) (mBin dSub (mLook 0) (mr (.str "salt"))) (mr (.int 40692)))) (mr (.int 12345))) (mNil))) (mr (.int 2147483399))) (gSet 3))
          (mRet (mBin (dIc cNz fun i j => .int (i.fmod j)) (mArgs dInt (mCons (mLook 3) (mNil))) (mLook 1)))))))
noncomputable def f__law_take : FM := fRun [true, false] 4 m__law_take
noncomputable def m__law_is_integer : MS := mRet (mAndV (mArgs dIsi (mCons (mLook 0) (mCons (mr (.a (.ty "int"))) (mNil)))) (mNotT (mArgs dIsi (mCons (mLook 0) (mCons (mr (.a (.ty "bool"))) (mNil))))))
noncomputable def f__law_is_integer : FM := fRun [false] 1 m__law_is_integer
noncomputable def m__law_same_items (f__law_same_items : FM) (f__law_same : FM) : MS := mSeq (mIf (mb (mBin (dEq true) (mArgs dLen (mCons (mLook 0) (mNil))) (mArgs dLen (mCons (mLook 1) (mNil)))) mBl) (mRet (mr (.bl false))) (mSkip))
          (mSeq (mForS (mb (mCons (mArgs dLen (mCons (mLook 1) (mNil))) (mNil)) mRange1) (gSet 2) (mIf (mNot (mb (mb (kVal (mb (mBin dSub (mLook 0) (mLook 2)) mFree) (kVal (mb (mBin dSub (mLook 1) (mLook 2)) mFree) (kNil))) (mCall true [false, false] (f__law_same))) mTru)) (mRet (mr (.bl false))) (mSkip)))
          (mRet (mr (.bl true))))
noncomputable def m__law_same (f__law_same_items : FM) (f__law_same : FM) : MS := mSeq (mIf (mTest (mIsN (mLook 1))) (mRet (mIsN (mLook 0))) (mSkip))
          (mSeq (mIf (mb (mArgs dIsi (mCons (mLook 1) (mCons (mr (.a (.ty "bool"))) (mNil)))) mTru) (mRet (mAndV (mArgs dIsi (mCons (mLook 0) (mCons (mr (.a (.ty "bool"))) (mNil)))) (mBin (dEq false) (mLook 0) (mLook 1)))) (mSkip))
          (mSeq (mIf (mb (mArgs dIsi (mCons (mLook 1) (mCons (mr (.a (.ty "int"))) (mNil)))) mTru) (mRet (mAndV (mb (kVal (mVar 0) (kNil)) (mCall true [false] (f__law_is_integer))) (mBin (dEq false) (mLook 0) (mLook 1)))) (mSkip))
          (mSeq (mIf (mb (mArgs dIsi (mCons (mLook 1) (mCons (mr (.a (.ty "str"))) (mNil)))) mTru) (mRet (mAndV (mArgs dIsi (mCons (mLook 0) (mCons (mr (.a (.ty "str"))) (mNil)))) (mBin (dEq false) (mLook 0) (mLook 1)))) (mSkip))
          (mSeq (mIf (mb (mArgs dIsi (mCons (mLook 1) (mCons (mr (.a (.ty "tuple"))) (mNil)))) mTru) (mRet (mAndV (mArgs dIsi (mCons (mLook 0) (mCons (mr (.a (.ty "tuple"))) (mNil)))) (mb (kVal (mVar 0) (kVal (mVar 1) (kNil))) (mCall true [false, false] (f__law_same_items))))) (mSkip))
          (mSeq (mIf (mb (mArgs dIsi (mCons (mLook 1) (mCons (mr (.a (.ty "list"))) (mNil)))) mTru) (mRet (mAndV (mArgs dIsi (mCons (mLook 0) (mCons (mr (.a (.ty "list"))) (mNil)))) (mb (kVal (mVar 0) (kVal (mVar 1) (kNil))) (mCall true [false, false] (f__law_same_items))))) (mSkip))
          (mSeq (mIf (mOr (mNot (mb (mArgs dIsi (mCons (mLook 0) (mCons (mr (.a (.ty "dict"))) (mNil)))) mTru)) (mb (mBin (dEq true) (mArgs dLen (mCons (mLook 0) (mNil))) (mArgs dLen (mCons (mLook 1) (mNil)))) mBl)) (mRet (mr (.bl false))) (mSkip))
          (mSeq (mForS (mb (mVar 1) mIterA) (gSet 2) (mIf (mOr (mb (mBin (dInL true) (mLook 2) (mLook 0)) mBl) (mNot (mb (mb (kVal (mb (mBin dSub (mLook 0) (mLook 2)) mFree) (kVal (mb (mBin dSub (mLook 1) (mLook 2)) mFree) (kNil))) (mCall true [false, false] (f__law_same))) mTru))) (mRet (mr (.bl false))) (mSkip)))
          (mSeq (mForS (mb (mVar 0) mIterA) (gSet 2) (mIf (mb (mArgs dIsi (mCons (mLook 2) (mCons (mr (.a (.ty "bool"))) (mNil)))) mTru) (mRet (mr (.bl false))) (mSkip)))
          (mRet (mr (.bl true)))))))))))
mutual
noncomputable def f__law_same_items : Nat → FM
  | 0 => fun _ => .bad
  | k + 1 => fRun [false, false] 3 (m__law_same_items (f__law_same_items k) (f__law_same k))
noncomputable def f__law_same : Nat → FM
  | 0 => fun _ => .bad
  | k + 1 => fRun [false, false] 3 (m__law_same (f__law_same_items k) (f__law_same k))
end
noncomputable def m__law_value_of : MS := mSeq (mAsg (mb (kIo 0 (kVal (mr (.int 8)) (kNil))) (mCall false [true, false] (f__law_take))) (gSet 3))
          (mSeq (mIf (mb (mBin (dEq false) (mLook 3) (mr (.int 0))) mBl) (mRet (mb (mCons (mr (.str "none")) (mNil)) mTupN)) (mSkip))
          (mSeq (mIf (mb (mBin (dEq false) (mLook 3) (mr (.int 1))) mBl) (mRet (mb (mCons (mr (.str "index")) (mCons (mb (kIo 0 (kVal (mr (.int 3)) (kNil))) (mCall false [true, false] (f__law_take))) (mNil))) mTupN)) (mSkip))
          (mSeq (mIf (mb (mBin (dEq false) (mLook 3) (mr (.int 2))) mBl) (mRet (mb (mCons (mr (.str "told")) (mCons (mBin dIx (mVar 2) (mb (kIo 0 (kVal (mArgs dLen (mCons (mLook 2) (mNil))) (kNil))) (mCall false [true, false] (f__law_take)))) (mCons (mb (kIo 0 (kVal (mr (.int 3)) (kNil))) (mCall false [true, false] (f__law_take))) (mNil)))) mTupN)) (mSkip))
          (mSeq (mIf (mb (mBin (dLt) (mLook 3) (mr (.int 5))) mBl) (mRet (mb (mCons (mr (.str "name")) (mCons (mBin dIx (mVar 2) (mb (kIo 0 (kVal (mArgs dLen (mCons (mLook 2) (mNil))) (kNil))) (mCall false [true, false] (f__law_take)))) (mNil))) mTupN)) (mSkip))
          (mRet (mb (mCons (mr (.str "number")) (mCons (mBin dIx (mb (mCons (mr (.int 0)) (mCons (mr (.int 1)) (mCons (mr (.int 7)) (mCons (mr (.int 4294967295)) (mNil))))) mLstN) (mb (kIo 0 (kVal (mr (.int 4)) (kNil))) (mCall false [true, false] (f__law_take)))) (mNil))) mTupN))))))
noncomputable def f__law_value_of : FM := fRun [true, false, false] 4 m__law_value_of
noncomputable def m__law_any_tree : MS := mSeq (mAsg (mb (mCons (mr (.str "a")) (mCons (mr (.str "b")) (mCons (mr (.str "c.1")) (mCons (mr (.str "d_#")) (mCons (mr (.str "e")) (mNil)))))) mLstN) (gSet 1))
          (mSeq (mAsg (mb (mNil) mLstN) (gSet 2))
          (mSeq (mForS (mb (mCons (mb (kIo 0 (kVal (mr (.int 4)) (kNil))) (mCall false [true, false] (f__law_take))) (mNil)) mRange1) (gSet 3) (mSeq (mAsg (mb (mNil) mLstN) (gSet 4))
          (mSeq (mForS (mb (mCons (mb (kIo 0 (kVal (mr (.int 4)) (kNil))) (mCall false [true, false] (f__law_take))) (mNil)) mRange1) (gSet 5) (mSeq (mAsg (mLc [6] (mb (mb (mCons (mr (.str "empty")) (mCons (mr (.str "fixed")) (mCons (mr (.str "single")) (mNil)))) mLstN) mIterA) (gSetC 6) (mb (mBin (dEq false) (mb (kIo 0 (kVal (mr (.int 3)) (kNil))) (mCall false [true, false] (f__law_take))) (mr (.int 0))) mBl) (mVar 6)) (gSet 7))
          (mSeq (mAsg (mBin dIx (mb (mCons (mr (.str "")) (mCons (mr (.str "")) (mCons (mr (.str "k0")) (mCons (mr (.str "k1")) (mNil))))) mLstN) (mb (kIo 0 (kVal (mr (.int 4)) (kNil))) (mCall false [true, false] (f__law_take)))) (gSet 8))
          (mDrop (mBmW false 4 "list" wAppend (mChk 4 []) (mCons (mb (mCons (mBin dIx (mb (mCons (mr (.str "p")) (mCons (mr (.str "q")) (mCons (mr (.str "r")) (mNil)))) mLstN) (mb (kIo 0 (kVal (mr (.int 3)) (kNil))) (mCall false [true, false] (f__law_take)))) (mCons (mVar 8) (mCons (mb (mMove 7) mTupC) (mNil)))) mTupN) (mNil)))))))
          (mDrop (mBmW true 2 "list" wAppend (mChk 2 []) (mCons (mb (mCons (mBin (dAddT) (mr (.str "k")) (mArgs dStrI (mCons (mLook 3) (mNil)))) (mCons (mb (mMove 4) mTupC) (mNil))) mTupN) (mNil)))))))
          (mSeq (mAsg (mb (mNil) mLstN) (gSet 9))
          (mSeq (mForS (mb (mCons (mb (kIo 0 (kVal (mr (.int 6)) (kNil))) (mCall false [true, false] (f__law_take))) (mNil)) mRange1) (gSet 3) (mSeq (mAsg (mBin dIx (mFrz 1) (mb (kIo 0 (kVal (mr (.int 5)) (kNil))) (mCall false [true, false] (f__law_take)))) (gSet 10))
          (mSeq (mAsg (mb (kIo 0 (kVal (mr (.int 9)) (kNil))) (mCall false [true, false] (f__law_take))) (gSet 11))
          (mIf (mb (mBin (dLt) (mLook 11) (mr (.int 5))) mBl) (mSeq (mAsg (mb (mNil) mLstN) (gSet 12))
          (mSeq (mForS (mb (mCons (mb (kIo 0 (kVal (mr (.int 4)) (kNil))) (mCall false [true, false] (f__law_take))) (mNil)) mRange1) (gSet 5) (mSeq (mAsg (mBin dIx (mb (mCons (mr (.str "p")) (mCons (mr (.str "q")) (mCons (mr (.str "r")) (mNil)))) mLstN) (mb (kIo 0 (kVal (mr (.int 3)) (kNil))) (mCall false [true, false] (f__law_take)))) (gSet 13))
          (mDrop (mBmW false 12 "list" wAppend (mChk 12 []) (mCons (mb (mCons (mVar 13) (mCons (mb (kIo 0 (kVal (mVar 13) (kBor 1 (kNil)))) (mCall false [true, false, false] (f__law_value_of))) (mNil))) mTupN) (mNil))))))
          (mSeq (mAsg (mBin dIx (mb (mCons (mr .non) (mCons (mr .non) (mCons (mr (.int 0)) (mCons (mr (.int 1)) (mCons (mr (.int 3)) (mNil)))))) mLstN) (mb (kIo 0 (kVal (mr (.int 5)) (kNil))) (mCall false [true, false] (f__law_take)))) (gSet 14))
          (mDrop (mBmW false 9 "list" wAppend (mChk 9 []) (mCons (mb (mCons (mr (.str "thing")) (mCons (mVar 10) (mCons (mVar 14) (mCons (mBin (dAddT) (mr (.str "k")) (mArgs dStrI (mCons (mb (kIo 0 (kVal (mr (.int 3)) (kNil))) (mCall false [true, false] (f__law_take))) (mNil)))) (mCons (mb (mMove 12) mTupC) (mNil)))))) mTupN) (mNil))))))) (mIf (mb (mBin (dEq false) (mLook 11) (mr (.int 5))) mBl) (mDrop (mBmW true 9 "list" wAppend (mChk 9 []) (mCons (mb (mCons (mr (.str "keep")) (mCons (mVar 10) (mNil))) mTupN) (mNil)))) (mIf (mb (mBin (dEq false) (mLook 11) (mr (.int 6))) mBl) (mDrop (mBmW false 9 "list" wAppend (mChk 9 []) (mCons (mb (mCons (mr (.str "most")) (mCons (mb (kIo 0 (kVal (mr (.int 9)) (kNil))) (mCall false [true, false] (f__law_take))) (mNil))) mTupN) (mNil)))) (mIf (mb (mBin (dEq false) (mLook 11) (mr (.int 7))) mBl) (mDrop (mBmW false 9 "list" wAppend (mChk 9 []) (mCons (mb (mCons (mr (.str "adopt")) (mCons (mb (kIo 0 (kVal (mr (.int 4)) (kNil))) (mCall false [true, false] (f__law_take))) (mCons (mVar 10) (mNil)))) mTupN) (mNil)))) (mDrop (mBmW false 9 "list" wAppend (mChk 9 []) (mCons (mb (mCons (mr (.str "move")) (mCons (mVar 10) (mCons (mBin dIx (mFrz 1) (mb (kIo 0 (kVal (mr (.int 5)) (kNil))) (mCall false [true, false] (f__law_take)))) (mNil)))) mTupN) (mNil)))))))))))
          (mRet (mb (mCons (mb (mMove 2) mTupC) (mCons (mb (mMove 9) mTupC) (mNil))) mTupN))))))
noncomputable def f__law_any_tree : FM := fRun [true] 15 m__law_any_tree
noncomputable def m__law_name : MS := mRet (mMeth "str" dJoin (mr (.str "")) (mCons (mLc [2] (mb (mVar 0) mIterA) (gSetC 2) (mYes) (mIte (mb (mBin (dEq false) (mLook 2) (mr (.str "#"))) mBl) (mArgs dStrI (mCons (mLook 1) (mNil))) (mVar 2))) (mNil)))
noncomputable def f__law_name : FM := fRun [false, false] 3 m__law_name
noncomputable def m__law_copy_of : MS := mSeq (mIf (mb (mBin (dEq false) (mBin dSub (mLook 0) (mr (.int 0))) (mr (.str "index"))) mBl) (mRet (mb (mCons (mr (.str "number")) (mCons (mBin (dIc cNz fun i j => .int (i.fmod j)) (mArgs dInt (mCons (mBin (dAddT) (mBin dSub (mLook 0) (mr (.int 1))) (mLook 1)) (mNil))) (mr (.int 4294967296))) (mNil))) mTupN)) (mSkip))
          (mSeq (mIf (mb (mBin (dInL false) (mBin dSub (mLook 0) (mr (.int 0))) (mb (mCons (mr (.str "name")) (mCons (mr (.str "told")) (mNil))) mLstN)) mBl) (mRet (mBin (dAddT) (mb (mCons (mb (mBin dSub (mLook 0) (mr (.int 0))) mFree) (mCons (mb (kVal (mb (mBin dSub (mLook 0) (mr (.int 1))) mFree) (kVal (mVar 1) (kNil))) (mCall true [false, false] (f__law_name))) (mNil))) mTupN) (mSl (mLook 0) (mb (mr (.int 2)) mIntO) (mr none)))) (mSkip))
          (mRet (mVar 0)))
noncomputable def f__law_copy_of : FM := fRun [false, false] 2 m__law_copy_of
noncomputable def m_law : MS := mSeq (mAsg (mb (kVal (mVar 0) (kNil)) (mCall true [false] (f__law_tape))) (gSet 1))
          (mSeq (mAsg (mb (kIo 1 (kNil)) (mCall false [true] (f__law_any_tree))) (gSet 2))
          (mSeq (mAsg (mb (mNil) mLstN) (gSet 3))
          (mSeq (mForS (mb (mb (mBin dSub (mLook 2) (mr (.int 1))) mFree) mIterA) (gSet 4) (mIf (mAnd (mb (mBin (dEq false) (mBin dSub (mLook 4) (mr (.int 0))) (mr (.str "thing"))) mBl) (mTest (mIsN (mBin dSub (mLook 4) (mr (.int 2)))))) (mDrop (mBmW true 3 "list" wAppend (mChk 3 []) (mCons (mb (mCons (mb (mBin dSub (mLook 4) (mr (.int 1))) mFree) (mCons (mb (mBin dSub (mLook 4) (mr (.int 3))) mFree) (mCons (mb (mBin dSub (mLook 4) (mr (.int 4))) mFree) (mNil)))) mTupN) (mNil)))) (mIf (mb (mBin (dEq false) (mBin dSub (mLook 4) (mr (.int 0))) (mr (.str "thing"))) mBl) (mForS (mb (mCons (mBin dSub (mLook 4) (mr (.int 2))) (mNil)) mRange1) (gSet 5) (mSeq (mAsg (mb (mLc [6, 7] (mb (mb (mBin dSub (mLook 4) (mr (.int 4))) mFree) mIterA) (gTupN 2 (gsCons (gSetC 6) (gsCons (gSetC 7) (gsNil)))) (mYes) (mb (mCons (mVar 6) (mCons (mb (kVal (mVar 7) (kVal (mVar 5) (kNil))) (mCall true [false, false] (f__law_copy_of))) (mNil))) mTupN)) mTupC) (gSet 8))
          (mDrop (mBmW true 3 "list" wAppend (mChk 3 []) (mCons (mb (mCons (mBin (dAddT) (mBin (dAddT) (mBin dSub (mLook 4) (mr (.int 1))) (mr (.str "."))) (mArgs dStrI (mCons (mLook 5) (mNil)))) (mCons (mb (mBin dSub (mLook 4) (mr (.int 3))) mFree) (mCons (mVar 8) (mNil)))) mTupN) (mNil)))))) (mSkip))))
          (mRet (mb (kVal (mb (kVal (mVar 2) (kNil)) (mCall true [false] (f_written_out))) (kVal (mb (mMove 3) mTupC) (kNil))) (mCall true [false, false] (f__law_same 11)))))))
noncomputable def f_law : FM := fRun [false] 9 m_law
end Pf

namespace Pf
open PySem PySem.Spec PyProof.Rows L2 Sm

/-! ### the tape -/
structure Tp where
  cells : List Int
  at_ : Int
  left : Int
  seed : Int
  salt : Int
def tpK : List Key := [.inr "cells", .inr "at", .inr "left", .inr "seed", .inr "salt"]
def dTp (t : Tp) : D := .n (.dk tpK) [.sh (.n .lst (t.cells.map D.int)), .int t.at_, .int t.left, .int t.seed, .int t.salt]
structure okT (t : Tp) : Prop where
  a0 : 0 ≤ t.at_
theorem shrs_int (xs : List Int) : shrs (xs.map D.int) = xs.map D.int := by
  induction xs with
  | nil => rfl
  | cons x xs ih => rw [List.map_cons, ev_shrsc, ih]; rfl
theorem i_cells : Sm.idxOf (.inr "cells" : Key) tpK = some 0 := by decide +kernel
theorem i_at : Sm.idxOf (.inr "at" : Key) tpK = some 1 := by decide +kernel
theorem i_left : Sm.idxOf (.inr "left" : Key) tpK = some 2 := by decide +kernel
theorem i_seed : Sm.idxOf (.inr "seed" : Key) tpK = some 3 := by decide +kernel
theorem i_salt : Sm.idxOf (.inr "salt" : Key) tpK = some 4 := by decide +kernel
theorem sz : sizeLine = 1000000 ∨ True := .inr trivial
theorem atI_nat {α : Type} {xs : List α} {i : Nat} (h : i < xs.length) : atI xs (i : Int) = some xs[i] := by
  unfold atI ixN
  rw [if_pos (by omega), if_pos (by omega)]
  simp [h]
theorem scalI (i j : Int) : scal (.int i) (.int j) = true := rfl
theorem dTp_eq (t : Tp) : dTp t = .n (.dk tpK) [.sh (.n .lst (t.cells.map D.int)), .int t.at_, .int t.left, .int t.seed, .int t.salt] := rfl
theorem take_pos {t : Tp} {m : Int} (c2 : 0 < t.left) (m0 : m ≠ 0) (m1 : m.natAbs < 1073741824) : f__law_take [dTp t, .int m] = .ok (.int (t.left.fmod m)) [dTp { t with left := t.left.fdiv m }] := by
  refine fRun_ret (ρ := [some (dTp { t with left := t.left.fdiv m }), some (.int m), some (.int (t.left.fmod m)), none]) ?_ rfl
  have c1 : t.left ≠ 0 := by omega
  simp [m__law_take, env0, mLook, dTp, i_left, i_at, i_cells, scalI, c1, c2, cNz, cDivN, m0, m1, mChk, dAt, mUpd, dUp, wPut, sizeLine_eq]
theorem take_new {t : Tp} {m : Int} {n : Nat} (c1 : t.left = 0) (e : t.at_ = n) (hn : n < t.cells.length) (c2 : 0 < t.cells[n]) (m0 : m ≠ 0) (m1 : m.natAbs < 1073741824) :
    f__law_take [dTp t, .int m] = .ok (.int (t.cells[n].fmod m)) [dTp { t with left := t.cells[n].fdiv m, at_ := t.at_ + 1 }] := by
  refine fRun_ret (ρ := [some (dTp { t with left := t.cells[n].fdiv m, at_ := t.at_ + 1 }), some (.int m), some (.int (t.cells[n].fmod m)), none]) ?_ rfl
  have a : atI (t.cells.map D.int) (n : Int) = some (.int t.cells[n]) := by
    rw [atI_nat (by simpa using hn)]
    simp
  simp [m__law_take, env0, mLook, dTp, i_left, i_at, i_cells, scalI, c1, c2, cNz, cDivN, m0, m1, mChk, dAt, mUpd, dUp, wPut, sizeLine_eq, shrs_int, e, hn, a]
def mix1 (t : Tp) : Int := (t.seed * 48271 + (t.salt + 1) * 69621).fmod 2147483647
def mix2 (t : Tp) : Int := (mix1 t * mix1 t + (t.salt + 1) * 40692 + 12345).fmod 2147483399
theorem mix1_lt (t : Tp) : cMul (mix1 t) (mix1 t) = true := by
  have h1 : 0 ≤ mix1 t := Int.fmod_nonneg_of_pos _ (by decide)
  have h2 : mix1 t < 2147483647 := Int.fmod_lt_of_pos _ (by decide)
  unfold cMul
  simp only [Bool.or_eq_true, Bool.and_eq_true, decide_eq_true_eq]
  left
  constructor <;> omega
theorem cMulr (i j : Int) (h : -(2 ^ 64) < j ∧ j < 2 ^ 64) : cMul i j = true := by
  unfold cMul
  simp only [Bool.or_eq_true, Bool.and_eq_true, decide_eq_true_eq]
  exact .inr h
theorem take_salt {t : Tp} {m : Int} (c : t.left = 0 ∧ (t.at_ : Int) ≥ t.cells.length ∨ t.left < 0) (m0 : m ≠ 0) : f__law_take [dTp t, .int m] = .ok (.int ((mix2 t).fmod m)) [dTp { t with salt := t.salt + 1 }] := by
  refine fRun_ret (ρ := [some (dTp { t with salt := t.salt + 1 }), some (.int m), none, some (.int (mix2 t))]) ?_ rfl
  have q1 := mix1_lt t
  have q2 : ∀ i : Int, cMul i 48271 = true := fun i => cMulr _ _ (by decide)
  have q3 : ∀ i : Int, cMul i 69621 = true := fun i => cMulr _ _ (by decide)
  have q4 : ∀ i : Int, cMul i 40692 = true := fun i => cMulr _ _ (by decide)
  unfold mix1 at q1
  have c2 : ¬ 0 < t.left := by omega
  have c1 : ¬ (t.left = 0 ∧ t.at_ < t.cells.length) := by omega
  by_cases z : t.left = 0
  · have c3 : ¬ t.at_ < t.cells.length := by omega
    simp [m__law_take, env0, mLook, dTp, i_left, i_at, i_cells, i_seed, i_salt, scalI, z, c2, c3, cNz, m0, mChk, dAt, mUpd, dUp, wPut, sizeLine_eq, shrs_int, q1, q2, q3, q4, mix2, mix1]
  · simp [m__law_take, env0, mLook, dTp, i_left, i_at, i_cells, i_seed, i_salt, scalI, z, c2, cNz, m0, mChk, dAt, mUpd, dUp, wPut, sizeLine_eq, shrs_int, q1, q2, q3, q4, mix2, mix1]
/-- a cell that is taken and is 0 (or less) -/
theorem take_zero {t : Tp} {m : Int} {n : Nat} (c1 : t.left = 0) (e : t.at_ = n) (hn : n < t.cells.length) (c2 : t.cells[n] ≤ 0) (m0 : m ≠ 0) :
    f__law_take [dTp t, .int m] = .ok (.int ((mix2 t).fmod m)) [dTp { t with left := t.cells[n], at_ := t.at_ + 1, salt := t.salt + 1 }] := by
  refine fRun_ret (ρ := [some (dTp { t with left := t.cells[n], at_ := t.at_ + 1, salt := t.salt + 1 }), some (.int m), none, some (.int (mix2 t))]) ?_ rfl
  have a : atI (t.cells.map D.int) (n : Int) = some (.int t.cells[n]) := by
    rw [atI_nat (by simpa using hn)]
    simp
  have q1 := mix1_lt t
  have q2 : ∀ i : Int, cMul i 48271 = true := fun i => cMulr _ _ (by decide)
  have q3 : ∀ i : Int, cMul i 69621 = true := fun i => cMulr _ _ (by decide)
  have q4 : ∀ i : Int, cMul i 40692 = true := fun i => cMulr _ _ (by decide)
  unfold mix1 at q1
  have c3 : ¬ 0 < t.cells[n] := by omega
  simp [m__law_take, env0, mLook, dTp, i_left, i_at, i_cells, i_seed, i_salt, scalI, c1, c3, cNz, m0, mChk, dAt, mUpd, dUp, wPut, sizeLine_eq, shrs_int, q1, q2, q3, q4, mix2, mix1, e, hn, a]
theorem take_ok {t : Tp} {m : Int} (h : okT t) (m0 : 0 < m) (m1 : m < 1073741824) : ∃ r t', f__law_take [dTp t, .int m] = .ok (.int r) [dTp t'] ∧ okT t' ∧ 0 ≤ r ∧ r < m := by
  have m2 : m ≠ 0 := by omega
  have m3 : m.natAbs < 1073741824 := by omega
  have fm : ∀ x : Int, 0 ≤ x.fmod m ∧ x.fmod m < m := fun x => ⟨Int.fmod_nonneg_of_pos _ m0, Int.fmod_lt_of_pos _ m0⟩
  by_cases c0 : 0 < t.left
  · exact ⟨_, _, take_pos c0 m2 m3, ⟨h.a0⟩, fm _⟩
  · by_cases c1 : t.left = 0 ∧ t.at_ < t.cells.length
    · obtain ⟨c1, c2⟩ := c1
      obtain ⟨n, hn⟩ := Int.eq_ofNat_of_zero_le h.a0
      have hc : n < t.cells.length := by omega
      have a1 := h.a0
      by_cases c3 : 0 < t.cells[n]
      · exact ⟨_, _, take_new c1 hn hc c3 m2 m3, ⟨by show 0 ≤ t.at_ + 1; omega⟩, fm _⟩
      · exact ⟨_, _, take_zero c1 hn hc (by omega) m2, ⟨by show 0 ≤ t.at_ + 1; omega⟩, fm _⟩
    · exact ⟨_, _, take_salt (by omega) m2, ⟨h.a0⟩, fm _⟩
end Pf

namespace Pf
open PySem PySem.Spec PyProof.Rows L2 Sm
def absI (i : Int) : Int := if i < 0 then -i else i
theorem tape_lc (a : D) : ∀ (ns : List Int) (acc : List D), acc.length + ns.length ≤ 63 →
    lcGo [1] (gSetC 1) mYes (mArgs dAbs (mCons (mArgs dInt (mCons (mLook 1) mNil)) mNil)) (ns.map D.int) acc [some a, none, none, none] = .ok (.lst (acc ++ ns.map fun i => D.int (absI i))) [some a, none, none, none]
  | [], acc, _ => by simp
  | n :: ns, acc, h => by
    rw [List.map_cons, lc_yes (ρ1 := [some a, some (.int n), none, none]) (ρ2 := [some a, some (.int n), none, none]) (y := .int (absI n)) (ρ3 := [some a, some (.int n), none, none]) (by simp) (by simp) (by simp [mLook, absI]) (by rw [sizeLine_eq]; simp at h; omega)]
    have ih := tape_lc a ns (acc ++ [.int (absI n)]) (by simp at h ⊢; omega)
    simp at ih ⊢
    exact ih
theorem tape_for (a b : D) : ∀ (ns : List Int) (x : Option D) (s : Int), ∃ y s', mFor (gSet 1) (mAsg (mBin (dIc cNz fun i j => .int (i.fmod j)) (mArgs dInt (mCons (mBin (dAddT) (mBin (dIc cMul fun i j => .int (i * j)) (mLook 3) (mr (.int 31))) (mLook 1)) (mNil))) (mr (.int 2147483647))) (gSet 3))
    (ns.map D.int) [some a, x, some b, some (.int s)] = .next [some a, y, some b, some (.int s')]
  | [], x, s => ⟨x, s, rfl⟩
  | n :: ns, x, s => by
    obtain ⟨y, s', ih⟩ := tape_for a b ns (some (.int n)) ((s * 31 + n).fmod 2147483647)
    have q : cMul s 31 = true := cMulr _ _ (by decide)
    refine ⟨y, s', ?_⟩
    rw [List.map_cons, mFor_next (ρ1 := [some a, some (.int n), some b, some (.int s)]) (ρ2 := [some a, some (.int n), some b, some (.int ((s * 31 + n).fmod 2147483647))]) (by simp) (by simp [mLook, q, cNz])]
    exact ih
theorem fres_int (xs : List Int) : fres (xs.map D.int) = true := by
  induction xs with
  | nil => rfl
  | cons x xs ih => rw [List.map_cons, ev_fresc, ih]; rfl
theorem tape_ok (ns : List Int) (h : ns.length ≤ 63) : ∃ t, f__law_tape [.sh (.n .kl (ns.map D.int))] = .ok (dTp t) [] ∧ okT t := by
  have h1 := tape_lc (.sh (.n .kl (ns.map D.int))) ns [] (by simpa using h)
  have e1 : (ns.map fun i => D.int (absI i)) = (ns.map absI).map D.int := by simp
  rw [List.nil_append, e1] at h1
  obtain ⟨cs, hcs⟩ : ∃ cs, cs = ns.map absI := ⟨_, rfl⟩
  rw [← hcs] at h1
  obtain ⟨y, s', h2⟩ := tape_for (.sh (.n .kl (ns.map D.int))) (.sh (.n .lst (cs.map D.int))) cs none 7
  refine ⟨⟨cs, 0, 0, s', 0⟩, ?_, ⟨Int.le_refl 0⟩⟩
  refine fRun_ret (ρ := [some (.sh (.n .kl (ns.map D.int))), y, none, some (.int s')]) ?_ rfl
  simp only [m__law_tape, ev_seq, env0, ev_asgs, ev_lc, ev_mb, ev_var]
  simp [mLook, shrs_int, fres_int, h1, mFrz, h2, mMove, dTp, tpK]
end Pf

namespace Pf
open PySem PySem.Spec PyProof.Rows L2 Sm
/-! ### the law's equality, at equal data -/
inductive Sd : Nat → D → D → Prop where
  | non {n : Nat} : Sd n .non .non
  | bl {n : Nat} {b : Bool} : Sd n (.bl b) (.bl b)
  | int {n : Nat} {i : Int} : Sd n (.int i) (.int i)
  | str {n : Nat} {s : Str} : Sd n (.str s) (.str s)
  | nod {n : Nat} {t : Tg} {d d' : D} {ds ds' : List D} (h : Sm.un d = .n t ds) (h' : Sm.un d' = .n t ds') (ht : t = .tup ∨ t = .lst) (hf : fre d = true) (hf' : fre d' = true) (hl : ds.length = ds'.length) (hz : ds.length < 1000000)
      (hk : ∀ (i : Nat) (a b : D), ds[i]? = some a → ds'[i]? = some b → Sd n a b) (hg : ∀ (i : Nat) (a : D), ds[i]? = some a → fre a = true) (hg' : ∀ (i : Nat) (a : D), ds'[i]? = some a → fre a = true) : Sd (n + 1) d d'
theorem Sd.fre {n : Nat} {d d' : D} (h : Sd n d d') : Sm.fre d = true ∧ Sm.fre d' = true := by
  cases h with
  | nod _ _ _ h1 h2 => exact ⟨h1, h2⟩
  | _ => exact ⟨rfl, rfl⟩
theorem isi_ev {d : D} {t n : String} (h : tyN d = some t) (hn : tyNs.contains n = true) : dIsi [d, .a (.ty n)] = some (.bl (isB t n)) := by
  unfold dIsi
  simp only [if_pos hn, h]
  rfl
theorem tyN_un {d : D} {t : Tg} {ds : List D} (h : Sm.un d = .n t ds) (ht : t = .tup ∨ t = .lst) : tyN d = some (if t = .tup then "tuple" else "list") := by
  unfold tyN
  rw [h]
  rcases ht with rfl | rfl <;> rfl
theorem isN_un {d : D} {t : Tg} {ds : List D} (h : Sm.un d = .n t ds) : dIsN d = false := by
  unfold dIsN
  rw [h]
theorem len_un {d : D} {t : Tg} {ds : List D} (h : Sm.un d = .n t ds) (ht : t = .tup ∨ t = .lst) : dLen [d] = some (.int ds.length) := by
  unfold dLen
  rcases ht with rfl | rfl <;> simp only [h]
theorem sub_un {d : D} {t : Tg} {ds : List D} {i : Nat} {a : D} (h : Sm.un d = .n t ds) (ht : t = .tup ∨ t = .lst) (e : ds[i]? = some a) : dSub d (.int i) = some a := by
  have hi := (List.getElem?_eq_some_iff.mp e).1
  unfold dSub dIxV
  rcases ht with rfl | rfl <;> simp only [h] <;> rw [atI_nat hi, ← e] <;> simp [hi]
theorem tru_b (b : Bool) : tru (.bl b) = some b := rfl
theorem c_b : tyNs.contains "bool" = true := by decide
theorem c_i : tyNs.contains "int" = true := by decide
theorem c_s : tyNs.contains "str" = true := by decide
theorem c_t : tyNs.contains "tuple" = true := by decide
theorem c_l : tyNs.contains "list" = true := by decide
theorem ty_b {b : Bool} : tyN (.bl b) = some "bool" := rfl
theorem ty_i {b : Int} : tyN (.int b) = some "int" := rfl
theorem ty_s {b : Str} : tyN (.str b) = some "str" := rfl
theorem sc_b {b : Bool} : scal (.bl b) (.bl b) = true := rfl
theorem sc_i {b : Int} : scal (.int b) (.int b) = true := rfl
theorem sc_s {b : Str} : scal (.str b) (.str b) = true := rfl
theorem isint_ok (i : Int) : f__law_is_integer [.int i] = .ok (.bl true) [] := by
  refine fRun_ret (ρ := [some (.int i)]) ?_ rfl
  simp [m__law_is_integer, env0, mLook, isi_ev ty_i c_i, isi_ev ty_i c_b, isB, tru_b]
/-- the items, one by one -/
theorem items_for {f : FM} {d d' : D} {t : Tg} {ds ds' : List D} (h : Sm.un d = .n t ds) (h' : Sm.un d' = .n t ds') (ht : t = .tup ∨ t = .lst) (hl : ds.length = ds'.length)
    (hf : ∀ (i : Nat) (a b : D), ds[i]? = some a → ds'[i]? = some b → Sm.fre a = true ∧ Sm.fre b = true ∧ f [a, b] = .ok (.bl true) []) :
    ∀ (n lo : Nat) (x : Option D), lo + n = ds.length → ∃ y, mFor (gSet 2) (mIf (mNot (mb (mb (kVal (mb (mBin dSub (mLook 0) (mLook 2)) mFree) (kVal (mb (mBin dSub (mLook 1) (mLook 2)) mFree) (kNil))) (mCall true [false, false] f)) mTru)) (mRet (mr (.bl false))) (mSkip))
      ((List.range' lo n).map fun (i : Nat) => D.int i) [some d, some d', x] = .next [some d, some d', y]
  | 0, lo, x, _ => ⟨x, rfl⟩
  | n + 1, lo, x, e => by
    obtain ⟨y, ih⟩ := items_for h h' ht hl hf n (lo + 1) (some (.int lo)) (by omega)
    refine ⟨y, ?_⟩
    have e1 : ds[lo]? = some ds[lo] := by simp
    have e2 : ds'[lo]? = some (ds'[lo]'(by omega)) := by simp
    obtain ⟨g1, g2, g3⟩ := hf lo _ _ e1 e2
    rw [List.range'_succ, List.map_cons, mFor_next (ρ1 := [some d, some d', some (.int lo)]) (ρ2 := [some d, some d', some (.int lo)]) (by simp) (by simp [mLook, sub_un h ht e1, sub_un h' ht e2, g1, g2, g3, tru_b])]
    exact ih
theorem range_eq (n : Nat) : rangeD 0 n = (List.range' 0 n).map fun (i : Nat) => D.int i := by
  unfold rangeD
  rw [List.range_eq_range']
  apply List.map_congr_left
  intro i _
  simp
theorem same_ok (n : Nat) : ∀ (k : Nat) (d d' : D), Sd n d d' → 2 * n + 1 ≤ k → f__law_same k [d, d'] = .ok (.bl true) [] := by
  induction n using Nat.strongRecOn with
  | ind n same_ih =>
    intro k d d' h hk
    obtain ⟨k, rfl⟩ : ∃ j, k = j + 1 := ⟨k - 1, by omega⟩
    rw [f__law_same]
    cases h with
    | non => refine fRun_ret (ρ := [some .non, some .non, none]) (by simp [m__law_same, env0, mLook]) rfl
    | @bl _ b => refine fRun_ret (ρ := [some (.bl b), some (.bl b), none]) (by simp [m__law_same, env0, mLook, isi_ev ty_b c_b, isB, tru_b, sc_b]) rfl
    | @int _ b => refine fRun_ret (ρ := [some (.int b), some (.int b), none]) (by simp [m__law_same, env0, mLook, isi_ev ty_i c_b, isi_ev ty_i c_i, isB, tru_b, sc_i, isint_ok]) rfl
    | @str _ b => refine fRun_ret (ρ := [some (.str b), some (.str b), none]) (by simp [m__law_same, env0, mLook, isi_ev ty_s c_b, isi_ev ty_s c_i, isi_ev ty_s c_s, isB, tru_b, sc_s]) rfl
    | @nod n t _ _ ds ds' h h' ht hf hf' hl hz hkk hg hg' =>
      have ih : f__law_same_items k [d, d'] = .ok (.bl true) [] := by
          obtain ⟨k, rfl⟩ : ∃ j, k = j + 1 := ⟨k - 1, by omega⟩
          rw [f__law_same_items]
          obtain ⟨y, hy⟩ := items_for (f := f__law_same k) h h' ht hl (fun i a b ea eb => ⟨hg i a ea, hg' i b eb, same_ih n (by omega) k a b (hkk i a b ea eb) (by omega)⟩) ds.length 0 none (by omega)
          refine fRun_ret (ρ := [some d, some d', y]) ?_ rfl
          have hz' : ((ds'.length : Nat) : Int) < 4611686018427387904 := by omega
          rw [hl] at hy
          simp [m__law_same_items, env0, mLook, len_un h ht, len_un h' ht, hl, scalI, mRange1, range_eq, hz', hy]
      have t1 := tyN_un h ht
      have t2 := tyN_un h' ht
      refine fRun_ret (ρ := [some d, some d', none]) ?_ rfl
      rcases ht with rfl | rfl
      · simp [m__law_same, env0, mLook, isN_un h', isi_ev t2 c_b, isi_ev t2 c_i, isi_ev t2 c_s, isi_ev t2 c_t, isi_ev t1 c_t, isB, tru_b, hf, hf', ih]
      · simp [m__law_same, env0, mLook, isN_un h', isi_ev t2 c_b, isi_ev t2 c_i, isi_ev t2 c_s, isi_ev t2 c_t, isi_ev t2 c_l, isi_ev t1 c_l, isB, tru_b, hf, hf', ih]
theorem range1_ev {n : Nat} {ρ : Sm.Env} (h : n < 1000000) : mRange1 [.int n] ρ = .ok ((List.range' 0 n).map fun (i : Nat) => D.int i) ρ := by
  have hz' : -(2 ^ 62) ≤ ((n : Nat) : Int) ∧ ((n : Nat) : Int) < 2 ^ 62 := by omega
  have e : mRange1 [.int n] ρ = if -(2 ^ 62) ≤ ((n : Nat) : Int) ∧ ((n : Nat) : Int) < 2 ^ 62 then .ok (rangeD 0 ((n : Nat) : Int).toNat) ρ else .bad := rfl
  rw [e, if_pos hz', range_eq, Int.toNat_natCast]
end Pf

namespace Pf
open PySem PySem.Spec PyProof.Rows L2 Sm
theorem take_okN {t : Tp} {m : Int} (h : okT t) (m0 : 0 < m) (m1 : m < 1073741824) : ∃ (n : Nat) (t' : Tp), f__law_take [dTp t, .int m] = .ok (.int n) [dTp t'] ∧ okT t' ∧ (n : Int) < m := by
  obtain ⟨r, t', e, h1, r0, r1⟩ := take_ok h m0 m1
  obtain ⟨n, rfl⟩ := Int.eq_ofNat_of_zero_le r0
  exact ⟨n, t', e, h1, r1⟩
theorem rng {n : Nat} {ρ : Sm.Env} (h : n < 1000000) : mRange1 [.int n] ρ = .ok ((List.range' 0 n).map fun (i : Nat) => D.int i) ρ := range1_ev h
theorem rng_get {n i j : Nat} (h : (List.range' 0 n)[i]? = some j) : j = i ∧ i < n := by
  rw [List.getElem?_eq_some_iff] at h
  obtain ⟨h1, h2⟩ := h
  simp at h1 h2
  omega
@[simp] theorem cln_T (t : Tp) : cln (dTp t) = false := by simp [dTp]
theorem shr_T (t : Tp) : Sm.shr (dTp t) = .sh (dTp t) := rfl
theorem atI_0 {α : Type} {x : α} {xs : List α} : atI (x :: xs) 0 = some x := by
  have h := atI_nat (xs := x :: xs) (i := 0) (by simp)
  simpa using h
theorem fres_map {α : Type} {δ : α → D} (h : ∀ x, fre (δ x) = true) : ∀ xs : List α, fres (xs.map δ) = true
  | [] => rfl
  | x :: xs => by rw [List.map_cons, ev_fresc, h, fres_map h xs]; rfl
theorem fres_all {ds : List D} (h : ∀ d ∈ ds, fre d = true) : fres ds = true := by
  induction ds with
  | nil => rfl
  | cons x xs ih => rw [ev_fresc, h x List.mem_cons_self, ih fun d hd => h d (List.mem_cons_of_mem _ hd)]; rfl
theorem ix_lit {ds : List D} {n : Nat} (hf : fres ds = true) (h1 : (n : Int) < ds.length) : ∃ d ∈ ds, dIx (.n .lst ds) (.int n) = some d ∧ fre d = true := by
  have hn : n < ds.length := by omega
  have hf2 : ∀ {ds : List D}, fres ds = true → ∀ d ∈ ds, fre d = true := by
    intro ds
    induction ds with
    | nil => intro _ d hd; cases hd
    | cons x xs ih =>
      intro h d hd
      rw [ev_fresc] at h
      obtain ⟨h1, h2⟩ := Bool.and_eq_true_iff.mp h
      rcases List.mem_cons.mp hd with rfl | hd
      · exact h1
      · exact ih h2 d hd
  have hd := hf2 hf ds[n] (List.getElem_mem hn)
  refine ⟨ds[n], List.getElem_mem hn, ?_, hd⟩
  unfold dIx
  rw [ev_unn]
  simp only [atI_nat hn, Option.bind_some, if_pos hd]
end Pf

namespace Pf
open PySem PySem.Spec PyProof.Rows L2 Sm
/-! ### the law's equality, of a thing and itself -/
def okS : Nat → D → Bool
  | _, .a .non => true
  | _, .a (.bl _) => true
  | _, .a (.int _) => true
  | _, .a (.str _) => true
  | n + 1, .n .tup ds => fres ds && decide (ds.length < 1000000) && ds.all (okS n)
  | _, _ => false
theorem fres_mem {ds : List D} (h : fres ds = true) : ∀ d ∈ ds, fre d = true := by
  induction ds with
  | nil => intro d hd; cases hd
  | cons x xs ih =>
    intro d hd
    rw [ev_fresc] at h
    obtain ⟨h1, h2⟩ := Bool.and_eq_true_iff.mp h
    rcases List.mem_cons.mp hd with rfl | hd
    · exact h1
    · exact ih h2 d hd
theorem sd_tup {n : Nat} {ds : List D} (hf : fres ds = true) (hl : ds.length < 1000000) (h : ∀ d ∈ ds, Sd n d d) : Sd (n + 1) (.n .tup ds) (.n .tup ds) := by
  refine .nod (ds := ds) (ds' := ds) rfl rfl (.inl rfl) ?_ ?_ rfl hl (fun i a b e1 e2 => ?_) (fun i a e => ?_) (fun i a e => ?_)
  · rw [ev_fret, hf]; rfl
  · rw [ev_fret, hf]; rfl
  · rw [e1] at e2
    cases e2
    exact h a (List.mem_of_getElem? e1)
  · exact fres_mem hf a (List.mem_of_getElem? e)
  · exact fres_mem hf a (List.mem_of_getElem? e)
/-- a list, frozen -/
theorem sd_lst {n : Nat} {ds : List D} (hs : shrs ds = ds) (hf : fres ds = true) (hl : ds.length < 1000000) (h : ∀ d ∈ ds, Sd n d d) : Sd (n + 1) (.sh (.n .lst ds)) (.sh (.n .lst ds)) := by
  have e : Sm.un (.sh (.n .lst ds)) = .n .lst ds := by rw [ev_unsn, hs]
  refine .nod (ds := ds) (ds' := ds) e e (.inr rfl) rfl rfl rfl hl (fun i a b e1 e2 => ?_) (fun i a e => ?_) (fun i a e => ?_)
  · rw [e1] at e2
    cases e2
    exact h a (List.mem_of_getElem? e1)
  · exact fres_mem hf a (List.mem_of_getElem? e)
  · exact fres_mem hf a (List.mem_of_getElem? e)
theorem okS_sd : ∀ (n : Nat) (d : D), okS n d = true → Sd n d d
  | n, .a x, h => by
    cases x with
    | non => exact .non
    | bl b => exact .bl
    | int i => exact .int
    | str s => exact .str
    | _ => cases n <;> cases h
  | 0, .n t ds, h => by cases t <;> cases h
  | n + 1, .n t ds, h => by
    cases t with
    | tup =>
      have h' : (fres ds && decide (ds.length < 1000000) && ds.all (okS n)) = true := h
      simp only [Bool.and_eq_true, decide_eq_true_eq, List.all_eq_true] at h'
      exact sd_tup h'.1.1 h'.1.2 fun d hd => okS_sd n d (h'.2 d hd)
    | _ => cases h
  | 0, .sh d, h => by cases h
  | n + 1, .sh d, h => by cases h
theorem okS_tup {n : Nat} {ds : List D} : okS (n + 1) (.n .tup ds) = (fres ds && decide (ds.length < 1000000) && ds.all (okS n)) := rfl
theorem okS_atom {n : Nat} {x : V} (h : okS 0 (.a x) = true) : okS n (.a x) = true := by
  cases x <;> first | (cases n <;> rfl) | cases h
@[simp] theorem okS_n {n : Nat} : okS n (.a .non) = true := okS_atom rfl
@[simp] theorem okS_b {n : Nat} {b : Bool} : okS n (.a (.bl b)) = true := okS_atom rfl
@[simp] theorem okS_i {n : Nat} {b : Int} : okS n (.a (.int b)) = true := okS_atom rfl
@[simp] theorem okS_s {n : Nat} {b : Str} : okS n (.a (.str b)) = true := okS_atom rfl
end Pf

namespace Pf
open PySem PySem.Spec PyProof.Rows L2 Sm
/-! ### values -/
inductive Vl where
  | non | idx (i : Nat) | tol (s : Str) (i : Nat) | nam (s : Str) | num (i : Int)
def dV : Vl → D
  | .non => .tup [.str "none"]
  | .idx i => .tup [.str "index", .int i]
  | .tol s i => .tup [.str "told", .str s, .int i]
  | .nam s => .tup [.str "name", .str s]
  | .num i => .tup [.str "number", .int i]
def rn (s : Str) (k : Nat) : Str := Txt.replace s "#" (toString (k : Int))
def nms : List Str := ["a", "b", "c.1", "d_#", "e"]
def cp (k : Nat) : Vl → Vl
  | .idx i => .num (((i : Int) + k).fmod 4294967296)
  | .tol s i => .tol (rn s k) i
  | .nam s => .nam (rn s k)
  | v => v
def okV : Vl → Prop
  | .tol s i => s ∈ nms
  | .nam s => s ∈ nms
  | _ => True
theorem with_ok (s : Str) (k : Nat) (hs : s.length ≤ 3) (hk : k < 3) : f_with_number [.str s, .int k] = .ok (.str (rn s k)) [] := by
  refine fRun_ret (ρ := [some (.str s), some (.int k)]) ?_ rfl
  have h1 : ((k : Int)).natAbs.log2 < 1920 := by
    match k, hk with
    | 0, _ => decide
    | 1, _ => decide
    | 2, _ => decide
  have h2 : (("#" : Str) == (toString (k : Int) : String)) = false := by
    match k, hk with
    | 0, _ => decide +kernel
    | 1, _ => decide +kernel
    | 2, _ => decide +kernel
  have h3 : (Str.ofString (toString (k : Int))).length = 1 := by
    match k, hk with
    | 0, _ => decide +kernel
    | 1, _ => decide +kernel
    | 2, _ => decide +kernel
  have h4 : s.length + (s.length + 1) * (Str.ofString (toString (k : Int))).length ≤ 16777216 := by
    rw [h3]
    omega
  have e : dRepl "#" (.str s) (.int k) = some (.str (rn s k)) := by
    show (if decide ((k : Int).natAbs.log2 < 1920) && (!(("#" : Str) == (toString (k : Int) : String)) && decide (s.length + (s.length + 1) * (Str.ofString (toString (k : Int))).length ≤ 16777216)) then _ else _) = _
    rw [h2, decide_eq_true h1, decide_eq_true h4]
    rfl
  unfold m_with_number mRepl
  simp [env0, mLook, mTx, e]
theorem nms_short : ∀ s ∈ nms, s.length ≤ 3 := by decide +kernel
theorem eqS (a b : Str) : dEq false (.str a) (.str b) = some (.bl (decide (V.str a = V.str b))) := rfl
theorem copyP (v : Vl) (k : Nat) (hv : okV v) (hk : k < 3) : f_value_of_copy [dV v, .int k] = .ok (dV (cp k v)) [] := by
  refine fRun_ret (ρ := [some (dV v), some (.int k)]) ?_ rfl
  have c1 : dEq false (.str "none") (.str "index") = some (.bl false) := rfl
  have c2 : dEq false (.str "none") (.str "name") = some (.bl false) := rfl
  have c3 : dEq false (.str "none") (.str "told") = some (.bl false) := rfl
  have c4 : dEq false (.str "index") (.str "index") = some (.bl true) := rfl
  have c5 : dEq false (.str "told") (.str "index") = some (.bl false) := rfl
  have c6 : dEq false (.str "told") (.str "name") = some (.bl false) := rfl
  have c7 : dEq false (.str "told") (.str "told") = some (.bl true) := rfl
  have c8 : dEq false (.str "name") (.str "index") = some (.bl false) := rfl
  have c9 : dEq false (.str "name") (.str "name") = some (.bl true) := rfl
  have d1 : dEq false (.str "number") (.str "index") = some (.bl false) := rfl
  have d2 : dEq false (.str "number") (.str "name") = some (.bl false) := rfl
  have d3 : dEq false (.str "number") (.str "told") = some (.bl false) := rfl
  unfold m_value_of_copy
  cases v with
  | non => simp [-ev_dEq, env0, mLook, dV, cp, atI, ixN, c1, c2, c3]
  | idx i => simp [-ev_dEq, env0, mLook, dV, cp, atI, ixN, c4, cNz, sizeLine_eq]
  | tol s i =>
    have w := with_ok s k (nms_short s hv) hk
    simp [-ev_dEq, env0, mLook, dV, cp, atI, ixN, c5, c6, c7, w, sizeLine_eq]
  | nam s =>
    have w := with_ok s k (nms_short s hv) hk
    simp [-ev_dEq, env0, mLook, dV, cp, atI, ixN, c8, c9, w, sizeLine_eq]
  | num i => simp [-ev_dEq, env0, mLook, dV, cp, atI, ixN, d1, d2, d3]
end Pf

namespace Pf
open PySem PySem.Spec PyProof.Rows L2 Sm StrLaws
open PySem.Builtin.Str (glued)
def tks (k : Nat) : Str := Str.ofString (toString (k : Int))
def pc (k c : Nat) : Str := if c = 35 then tks k else ⟨#[c]⟩
theorem glueL_nil : ∀ r : List Str, glueL [] r = (r.map fun p => p.cps.toList).flatten
  | [] => rfl
  | p :: r => by
    show [] ++ (p.cps.toList ++ glueL [] r) = _
    rw [glueL_nil r]
    rfl
theorem join_tl (r : List Str) : (Txt.join "" r).cps.toList = (r.map fun p => p.cps.toList).flatten := by
  cases r with
  | nil => rfl
  | cons p r =>
    show (glued "" (p :: r)).cps.toList = _
    rw [glued_list]
    show p.cps.toList ++ glueL [] r = _
    rw [glueL_nil]
    rfl
theorem str_ext {a b : Str} (h : a.cps.toList = b.cps.toList) : a = b := by
  cases a with
  | mk a => cases b with
    | mk b =>
      congr 1
      exact Array.toList_inj.mp h
theorem repl_pc (k : Nat) : ∀ cs : List Nat, replL [35] (tks k).cps.toList cs = ((cs.map (pc k)).map fun p => p.cps.toList).flatten
  | [] => by rw [replL_nil]; rfl
  | c :: cs => by
    rw [List.map_cons, List.map_cons, List.flatten_cons, ← repl_pc k cs]
    by_cases h : c = 35
    · subst h
      rw [replL_hit (by decide) rfl]
      rfl
    · rw [replL_miss (by simpa using h)]
      unfold pc
      rw [if_neg h]
      rfl
theorem rn_join (s : Str) (k : Nat) : rn s k = Txt.join "" (s.cps.toList.map (pc k)) := by
  apply str_ext
  rw [join_tl]
  unfold rn
  rw [replace_list (by decide)]
  exact repl_pc k _
theorem tksI (k : Nat) (hk : k < 1000) : dStrI [.int k] = some (.str (tks k)) := by
  have h : ((k : Int)).natAbs.log2 < 1920 := by
    have : ((k : Int)).natAbs = k := by simp
    rw [this]
    have h1 : k.log2 ≤ k := Nat.log2_le_self k
    omega
  unfold dStrI
  simp only [h]
  first | rfl | (rw [if_pos rfl]; rfl) | (rw [if_pos trivial]; rfl)
theorem nm_lc (s : Str) (k : Nat) (hk : k < 1000) : ∀ (cs : List Nat) (acc : List Str), acc.length + cs.length ≤ 100 → lcGo [2] (gSetC 2) mYes (mIte (mb (mBin (dEq false) (mLook 2) (mr (.str "#"))) mBl) (mArgs dStrI (mCons (mLook 1) (mNil))) (mVar 2)) (cs.map fun c => .str ⟨#[c]⟩) (acc.map D.str) [some (.str s), some (.int k), none]
   = .ok (.lst ((acc ++ cs.map (pc k)).map D.str)) [some (.str s), some (.int k), none]
  | [], acc, _ => by simp
  | c :: cs, acc, h => by
    have ih := nm_lc s k hk cs (acc ++ [pc k c]) (by simp at h ⊢; omega)
    have ec : dEq false (.str ⟨#[c]⟩) (.str "#") = some (.bl (decide (c = 35))) := by
      rw [eqS]
      congr 2
      by_cases h : c = 35
      · subst h; rfl
      · have h2 : ¬ V.str ⟨#[c]⟩ = V.str "#" := by
          intro z
          injection z with z
          have z2 := congrArg (fun x : Str => x.cps.toList) z
          have z3 : [c] = [35] := z2
          simp at z3
          exact h z3
        rw [decide_eq_false h, decide_eq_false h2]
    rw [List.map_cons, lc_yes (ρ1 := [some (.str s), some (.int k), some (.str ⟨#[c]⟩)]) (ρ2 := [some (.str s), some (.int k), some (.str ⟨#[c]⟩)]) (y := .str (pc k c)) (ρ3 := [some (.str s), some (.int k), some (.str ⟨#[c]⟩)]) (by simp) (by simp) ?_ (by rw [sizeLine_eq]; simp at h ⊢; omega)]
    · simpa using ih
    · by_cases h : c = 35
      · have e := tksI k hk
        have e2 : pc k c = tks k := if_pos h
        rw [e2]
        subst h
        simp only [ev_ite, ev_mb, ev_bin, ev_mr, ev_bok, mLook, List.getElem?_cons_succ, List.getElem?_cons_zero, ec, ev_mos, decide_true, ev_args, ev_cons, ev_nil, e, mBl, if_true]
      · have e2 : pc k c = ⟨#[c]⟩ := if_neg h
        rw [e2]
        simp [-ev_dEq, mLook, ec, h]
theorem lname_ok (s : Str) (k : Nat) (hs : s.length ≤ 3) (hk : k < 3) : f__law_name [.str s, .int k] = .ok (.str (rn s k)) [] := by
  refine fRun_ret (ρ := [some (.str s), some (.int k), none]) ?_ rfl
  have hl : s.cps.toList.length = s.length := by simp [Str.length]
  have h := nm_lc s k (by omega) s.cps.toList [] (by rw [hl]; simp; omega)
  rw [List.nil_append, List.map_nil] at h
  have dj : dJoin [.str "", .lst ((s.cps.toList.map (pc k)).map D.str)] = some (.str (rn s k)) := by
    have ht : txts ((s.cps.toList.map (pc k)).map D.str) = some (s.cps.toList.map (pc k)) := by
      generalize s.cps.toList.map (pc k) = zs
      induction zs with
      | nil => rfl
      | cons z zs ih =>
        have e : txts ((z :: zs).map D.str) = (txts (zs.map D.str)).map (z :: ·) := rfl
        rw [e, ih]
        rfl
    have hq : ∀ cs : List Nat, ((cs.map (pc k)).map (·.length)).sum ≤ cs.length * 1 := by
      intro cs
      induction cs with
      | nil => simp
      | cons c cs ih =>
        have h1 : (pc k c).length = 1 := by
          unfold pc
          by_cases h : c = 35
          · rw [if_pos h]
            unfold tks
            match k, hk with
            | 0, _ => decide +kernel
            | 1, _ => decide +kernel
            | 2, _ => decide +kernel
          · rw [if_neg h]; rfl
        simp only [List.map_cons, List.sum_cons, List.length_cons, h1]
        omega
    have hq := hq s.cps.toList
    have h0 : ("" : Str).length = 0 := rfl
    have q : ((s.cps.toList.map (pc k)).map (·.length)).sum ≤ 16777216 := by omega
    rw [rn_join]
    have q : ((s.cps.toList.map (pc k)).map (·.length)).sum + (s.cps.toList.map (pc k)).length * ("" : Str).length ≤ 16777216 := by rw [h0]; omega
    unfold dJoin
    simp only [ev_unn, ht, if_pos q]
  have ty : tyN (.str "") = some "str" := rfl
  have itS : ∀ ρ, mIterS (.str s) ρ = .ok (s.cps.toList.map fun c => .str ⟨#[c]⟩) ρ := by
    intro ρ
    rfl
  unfold m__law_name
  have e0 : env0 3 [.str s, .int k] = [some (.str s), some (.int k), none] := rfl
  have m0 : (mVar 0 : M D) [some (.str s), some (.int k), none] = .ok (.str s) [some (.str s), some (.int k), none] := by simp [mLook]
  have wp : wipeE [2] [some (D.str s), some (.int k), none] = [some (.str s), some (.int k), none] := rfl
  rw [e0, ev_ret, ev_meth, ev_mr, ev_bok, if_pos ty, ev_mb, ev_mr, ev_bok, ev_mb, ev_cons, ev_lc, ev_mb, m0, ev_bok, ev_iterAs, itS, ev_bok, wp, h]
  simp only [ev_bok, ev_mb, ev_nil, ev_mr, dj, ev_mos, ev_sok]
end Pf

namespace Pf
open PySem PySem.Spec PyProof.Rows L2 Sm
abbrev NMl : List D := [.str "a", .str "b", .str "c.1", .str "d_#", .str "e"]
theorem frs_str : ∀ d ∈ NMl, ∃ s ∈ nms, d = .str s := by
  intro d hd
  simp at hd
  rcases hd with rfl | rfl | rfl | rfl | rfl <;> exact ⟨_, by decide, rfl⟩
theorem ix_nm {n : Nat} (h1 : (n : Int) < 5) : ∃ s ∈ nms, dIx (.sh (.n .lst NMl)) (.int n) = some (.str s) := by
  have h1 : n < 5 := by omega
  match n, h1 with
  | 0, _ => exact ⟨"a", by decide, rfl⟩
  | 1, _ => exact ⟨"b", by decide, rfl⟩
  | 2, _ => exact ⟨"c.1", by decide, rfl⟩
  | 3, _ => exact ⟨"d_#", by decide, rfl⟩
  | 4, _ => exact ⟨"e", by decide, rfl⟩
theorem value_of_ok {t : Tp} (ht : okT t) (x : D) : ∃ v t', f__law_value_of [dTp t, x, .sh (.n .lst NMl)] = .ok (dV v) [dTp t'] ∧ okT t' ∧ okV v := by
  suffices h : ∃ d os, f__law_value_of [dTp t, x, .sh (.n .lst NMl)] = .ok d os ∧ ∃ (v : Vl) (t' : Tp), d = dV v ∧ os = [dTp t'] ∧ okT t' ∧ okV v by
    obtain ⟨_, _, e, v, t', rfl, rfl, h1, h2⟩ := h
    exact ⟨v, t', e, h1, h2⟩
  refine fRun_Rt fun P hP => ?_
  have e0 : env0 4 [dTp t, x, .sh (.n .lst NMl)] = [some (dTp t), some x, some (.sh (.n .lst NMl)), none] := rfl
  rw [e0]
  unfold m__law_value_of
  simp [Sm.ev_mcall, Sm.ev_aug, Sm.aDs_n, Sm.aDs_v, Sm.aDs_b, Sm.aDs_i, Sm.shrJ_cc, Sm.mLook, sizeLine_eq, Sm.mFrz, Sm.mMove, Sm.mChk, Sm.dAt, Sm.mTyp, Sm.ndT, Sm.mUpd, Sm.dUp, Sm.wAppend, Sm.atI_ev, Sm.sIx_n, Sm.sIx_s, Sm.cNz, Sm.cutD]
  (obtain ⟨r, t1, e_draw, ht1, r0, r1⟩ := take_ok (m := 8) (by assumption) (by decide) (by decide); simp [Sm.ev_mcall, Sm.ev_aug, Sm.aDs_n, Sm.aDs_v, Sm.aDs_b, Sm.aDs_i, Sm.shrJ_cc, Sm.mLook, sizeLine_eq, Sm.mFrz, Sm.mMove, Sm.mChk, Sm.dAt, Sm.mTyp, Sm.ndT, Sm.mUpd, Sm.dUp, Sm.wAppend, Sm.atI_ev, Sm.sIx_n, Sm.sIx_s, Sm.cNz, Sm.cutD, e_draw])
  by_cases c0 : r = 0
  · simp [c0, sizeLine_eq]
    exact Rt_ret.mpr (hP _ _ _ rfl ⟨.non, t1, rfl, rfl, ht1, trivial⟩)
  by_cases c1 : r = 1
  · simp [Sm.ev_mcall, Sm.ev_aug, Sm.aDs_n, Sm.aDs_v, Sm.aDs_b, Sm.aDs_i, Sm.shrJ_cc, Sm.mLook, sizeLine_eq, Sm.mFrz, Sm.mMove, Sm.mChk, Sm.dAt, Sm.mTyp, Sm.ndT, Sm.mUpd, Sm.dUp, Sm.wAppend, Sm.atI_ev, Sm.sIx_n, Sm.sIx_s, Sm.cNz, Sm.cutD, c1]
    (obtain ⟨q, t2, e_draw, ht2, q1⟩ := take_okN (m := 3) (by assumption) (by decide) (by decide); have h_draw : q < 1000000 := (by omega); have e_rng := fun ρ => rng (ρ := ρ) h_draw; simp [Sm.ev_mcall, Sm.ev_aug, Sm.aDs_n, Sm.aDs_v, Sm.aDs_b, Sm.aDs_i, Sm.shrJ_cc, Sm.mLook, sizeLine_eq, Sm.mFrz, Sm.mMove, Sm.mChk, Sm.dAt, Sm.mTyp, Sm.ndT, Sm.mUpd, Sm.dUp, Sm.wAppend, Sm.atI_ev, Sm.sIx_n, Sm.sIx_s, Sm.cNz, Sm.cutD, e_draw, e_rng])
    exact Rt_ret.mpr (hP _ _ _ rfl ⟨.idx q, t2, rfl, rfl, ht2, trivial⟩)
  by_cases c2 : r = 2
  · simp [Sm.ev_mcall, Sm.ev_aug, Sm.aDs_n, Sm.aDs_v, Sm.aDs_b, Sm.aDs_i, Sm.shrJ_cc, Sm.mLook, sizeLine_eq, Sm.mFrz, Sm.mMove, Sm.mChk, Sm.dAt, Sm.mTyp, Sm.ndT, Sm.mUpd, Sm.dUp, Sm.wAppend, Sm.atI_ev, Sm.sIx_n, Sm.sIx_s, Sm.cNz, Sm.cutD, c2]
    (obtain ⟨q, t2, e_draw, ht2, q1⟩ := take_okN (m := 5) (by assumption) (by decide) (by decide); have h_draw : q < 1000000 := (by omega); have e_rng := fun ρ => rng (ρ := ρ) h_draw; simp [Sm.ev_mcall, Sm.ev_aug, Sm.aDs_n, Sm.aDs_v, Sm.aDs_b, Sm.aDs_i, Sm.shrJ_cc, Sm.mLook, sizeLine_eq, Sm.mFrz, Sm.mMove, Sm.mChk, Sm.dAt, Sm.mTyp, Sm.ndT, Sm.mUpd, Sm.dUp, Sm.wAppend, Sm.atI_ev, Sm.sIx_n, Sm.sIx_s, Sm.cNz, Sm.cutD, e_draw, e_rng])
    obtain ⟨s, hs, es⟩ := ix_nm q1
    simp [es]
    (obtain ⟨p, t3, e_draw, ht3, p1⟩ := take_okN (m := 3) (by assumption) (by decide) (by decide); have h_draw : p < 1000000 := (by omega); have e_rng := fun ρ => rng (ρ := ρ) h_draw; simp [Sm.ev_mcall, Sm.ev_aug, Sm.aDs_n, Sm.aDs_v, Sm.aDs_b, Sm.aDs_i, Sm.shrJ_cc, Sm.mLook, sizeLine_eq, Sm.mFrz, Sm.mMove, Sm.mChk, Sm.dAt, Sm.mTyp, Sm.ndT, Sm.mUpd, Sm.dUp, Sm.wAppend, Sm.atI_ev, Sm.sIx_n, Sm.sIx_s, Sm.cNz, Sm.cutD, e_draw, e_rng])
    exact Rt_ret.mpr (hP _ _ _ rfl ⟨.tol s p, t3, rfl, rfl, ht3, hs⟩)
  by_cases c3 : r < 5
  · simp [Sm.ev_mcall, Sm.ev_aug, Sm.aDs_n, Sm.aDs_v, Sm.aDs_b, Sm.aDs_i, Sm.shrJ_cc, Sm.mLook, sizeLine_eq, Sm.mFrz, Sm.mMove, Sm.mChk, Sm.dAt, Sm.mTyp, Sm.ndT, Sm.mUpd, Sm.dUp, Sm.wAppend, Sm.atI_ev, Sm.sIx_n, Sm.sIx_s, Sm.cNz, Sm.cutD, c0, c1, c2, c3]
    (obtain ⟨q, t2, e_draw, ht2, q1⟩ := take_okN (m := 5) (by assumption) (by decide) (by decide); have h_draw : q < 1000000 := (by omega); have e_rng := fun ρ => rng (ρ := ρ) h_draw; simp [Sm.ev_mcall, Sm.ev_aug, Sm.aDs_n, Sm.aDs_v, Sm.aDs_b, Sm.aDs_i, Sm.shrJ_cc, Sm.mLook, sizeLine_eq, Sm.mFrz, Sm.mMove, Sm.mChk, Sm.dAt, Sm.mTyp, Sm.ndT, Sm.mUpd, Sm.dUp, Sm.wAppend, Sm.atI_ev, Sm.sIx_n, Sm.sIx_s, Sm.cNz, Sm.cutD, e_draw, e_rng])
    obtain ⟨s, hs, es⟩ := ix_nm q1
    simp [es]
    exact Rt_ret.mpr (hP _ _ _ rfl ⟨.nam s, t2, rfl, rfl, ht2, hs⟩)
  · simp [Sm.ev_mcall, Sm.ev_aug, Sm.aDs_n, Sm.aDs_v, Sm.aDs_b, Sm.aDs_i, Sm.shrJ_cc, Sm.mLook, sizeLine_eq, Sm.mFrz, Sm.mMove, Sm.mChk, Sm.dAt, Sm.mTyp, Sm.ndT, Sm.mUpd, Sm.dUp, Sm.wAppend, Sm.atI_ev, Sm.sIx_n, Sm.sIx_s, Sm.cNz, Sm.cutD, c0, c1, c2, c3]
    (obtain ⟨q, t2, e_draw, ht2, q1⟩ := take_okN (m := 4) (by assumption) (by decide) (by decide); have h_draw : q < 1000000 := (by omega); have e_rng := fun ρ => rng (ρ := ρ) h_draw; simp [Sm.ev_mcall, Sm.ev_aug, Sm.aDs_n, Sm.aDs_v, Sm.aDs_b, Sm.aDs_i, Sm.shrJ_cc, Sm.mLook, sizeLine_eq, Sm.mFrz, Sm.mMove, Sm.mChk, Sm.dAt, Sm.mTyp, Sm.ndT, Sm.mUpd, Sm.dUp, Sm.wAppend, Sm.atI_ev, Sm.sIx_n, Sm.sIx_s, Sm.cNz, Sm.cutD, e_draw, e_rng])
    obtain ⟨d, hd, ed, fd⟩ := ix_lit (ds := [.int 0, .int 1, .int 7, .int 4294967295]) rfl q1
    simp [ed]
    simp at hd
    rcases hd with rfl | rfl | rfl | rfl
    all_goals exact Rt_ret.mpr (hP _ _ _ rfl ⟨.num _, t2, rfl, rfl, ht2, trivial⟩)
end Pf

namespace Pf
open PySem PySem.Spec PyProof.Rows L2 Sm
/-- items -/
inductive It4 where
  | thing (n : Str) (c : Option Nat) (k : Str) (vs : List (Str × Vl))
  | keep (n : Str)
  | most (i : Int)
  | adopt (i : Int) (n : Str)
  | move (a b : Str)
def dF (p : Str × Vl) : D := .tup [.str p.1, dV p.2]
def dC : Option Nat → D
  | none => .non
  | some c => .int c
def dI4 : It4 → D
  | .thing n c k vs => .tup [.str "thing", .str n, dC c, .str k, .tup (vs.map dF)]
  | .keep n => .tup [.str "keep", .str n]
  | .most i => .tup [.str "most", .int i]
  | .adopt i n => .tup [.str "adopt", .int i, .str n]
  | .move a b => .tup [.str "move", .str a, .str b]
def okI : It4 → Prop
  | .thing n c k vs => n ∈ nms ∧ (∀ x, c = some x → x ≤ 3) ∧ vs.length ≤ 3 ∧ ∀ p ∈ vs, okV p.2
  | _ => True
@[simp] theorem fre_V (v : Vl) : fre (dV v) = true := by cases v <;> simp [dV]
@[simp] theorem cln_V (v : Vl) : cln (dV v) = true := by cases v <;> simp [dV]
@[simp] theorem fre_F (p : Str × Vl) : fre (dF p) = true := by simp [dF, fre_V]
@[simp] theorem fre_I (i : It4) : fre (dI4 i) = true := by
  cases i with
  | thing n c k vs => cases c <;> simp [dI4, dC, fres_map fre_F]
  | _ => simp [dI4]
theorem tks_len {k : Nat} (h : k < 10) : (tks k).length = 1 := by
  match k, h with
  | 0, _ => decide +kernel
  | 1, _ => decide +kernel
  | 2, _ => decide +kernel
  | 3, _ => decide +kernel
  | 4, _ => decide +kernel
  | 5, _ => decide +kernel
  | 6, _ => decide +kernel
  | 7, _ => decide +kernel
  | 8, _ => decide +kernel
  | 9, _ => decide +kernel
theorem addS {a b : Str} (h : a.length + b.length ≤ 1000) : dAddT (.str a) (.str b) = some (.str (a ++ b)) := dAddT_s (by rw [sizeLine_eq]; omega)
/-- the marks of a field -/
theorem marks_lc {ρ' : List (Option D)} {a1 a2 a3 a4 a5 : Option D} {t : Tp} (ht : okT t) : ∃ ys t', lcGo [6] (gSetC 6) (mb (mBin (dEq false) (mb (kIo 0 (kVal (mr (.int 3)) (kNil))) (mCall false [true, false] (f__law_take))) (mr (.int 0))) mBl) (mVar 6) [.str "empty", .str "fixed", .str "single"] [] (some (dTp t) :: a1 :: a2 :: a3 :: a4 :: a5 :: none :: ρ') =
    .ok (.lst ys) (some (dTp t') :: a1 :: a2 :: a3 :: a4 :: a5 :: none :: ρ') ∧ okT t' ∧ (∀ y ∈ ys, fre y = true) ∧ ys.length ≤ 3 := by
  obtain ⟨ys, ρ1, e, ⟨t', ht', rfl⟩, hp, hl⟩ := lc_inv (own := [6]) (g := gSetC 6) (t := (mb (mBin (dEq false) (mb (kIo 0 (kVal (mr (.int 3)) (kNil))) (mCall false [true, false] (f__law_take))) (mr (.int 0))) mBl)) (e := mVar 6) (I := fun ρ => ∃ t', okT t' ∧ ρ = (some (dTp t') :: a1 :: a2 :: a3 :: a4 :: a5 :: none :: ρ')) (P := fun d => fre d = true)
    (ds := [.str "empty", .str "fixed", .str "single"]) (acc := []) (fun d hd ρ ⟨t', ht', e⟩ => by
      subst e
      have fd : fre d = true := by
        simp at hd
        rcases hd with rfl | rfl | rfl <;> rfl
      refine ⟨_, by simp; rfl, ?_⟩
      simp [Sm.ev_mcall, Sm.ev_aug, Sm.aDs_n, Sm.aDs_v, Sm.aDs_b, Sm.aDs_i, Sm.shrJ_cc, Sm.mLook, sizeLine_eq, Sm.mFrz, Sm.mMove, Sm.mChk, Sm.dAt, Sm.mTyp, Sm.ndT, Sm.mUpd, Sm.dUp, Sm.wAppend, Sm.atI_ev, Sm.sIx_n, Sm.sIx_s, Sm.cNz, Sm.cutD]
      (obtain ⟨r, t1, e_draw, ht1, r0, r1⟩ := take_ok (m := 3) (by assumption) (by decide) (by decide); simp [Sm.ev_mcall, Sm.ev_aug, Sm.aDs_n, Sm.aDs_v, Sm.aDs_b, Sm.aDs_i, Sm.shrJ_cc, Sm.mLook, sizeLine_eq, Sm.mFrz, Sm.mMove, Sm.mChk, Sm.dAt, Sm.mTyp, Sm.ndT, Sm.mUpd, Sm.dUp, Sm.wAppend, Sm.atI_ev, Sm.sIx_n, Sm.sIx_s, Sm.cNz, Sm.cutD, e_draw])
      by_cases c : r = 0
      · simp [c, fd]
        exact ⟨t1, ht1, rfl⟩
      · simp [c]
        exact ⟨t1, ht1, rfl⟩) (by simp [sizeLine_eq]) (by simp) ⟨t, ht, rfl⟩
  exact ⟨ys, t', e, ht', hp, hl⟩
theorem okT_any {t : Tp} (h : okT t) : okT t := h
theorem any_tree_ok {t : Tp} (ht : okT t) : ∃ (kd : List D) (its : List It4) (t' : Tp), f__law_any_tree [dTp t] = .ok (.tup [.tup kd, .tup (its.map dI4)]) [dTp t'] ∧ okT t' ∧ fres kd = true ∧ its.length ≤ 5 ∧ ∀ i ∈ its, okI i := by
  suffices h : ∃ d os, f__law_any_tree [dTp t] = .ok d os ∧ ∃ (kd : List D) (its : List It4) (t' : Tp), d = .tup [.tup kd, .tup (its.map dI4)] ∧ os = [dTp t'] ∧ okT t' ∧ fres kd = true ∧ its.length ≤ 5 ∧ ∀ i ∈ its, okI i by
    obtain ⟨_, _, e, kd, its, t', rfl, rfl, h⟩ := h
    exact ⟨kd, its, t', e, h⟩
  refine fRun_Rt fun P hP => ?_
  have e0 : env0 15 [dTp t] = [some (dTp t), none, none, none, none, none, none, none, none, none, none, none, none, none, none] := rfl
  rw [e0]
  unfold m__law_any_tree
  simp [Sm.ev_mcall, Sm.ev_aug, Sm.aDs_n, Sm.aDs_v, Sm.aDs_b, Sm.aDs_i, Sm.shrJ_cc, Sm.mLook, sizeLine_eq, Sm.mFrz, Sm.mMove, Sm.mChk, Sm.dAt, Sm.mTyp, Sm.ndT, Sm.mUpd, Sm.dUp, Sm.wAppend, Sm.atI_ev, Sm.sIx_n, Sm.sIx_s, Sm.cNz, Sm.cutD]
  (obtain ⟨n, t1, e_draw, ht1, hn⟩ := take_okN (m := 4) (by assumption) (by decide) (by decide); have h_draw : n < 1000000 := (by omega); have e_rng := fun ρ => rng (ρ := ρ) h_draw; simp [Sm.ev_mcall, Sm.ev_aug, Sm.aDs_n, Sm.aDs_v, Sm.aDs_b, Sm.aDs_i, Sm.shrJ_cc, Sm.mLook, sizeLine_eq, Sm.mFrz, Sm.mMove, Sm.mChk, Sm.dAt, Sm.mTyp, Sm.ndT, Sm.mUpd, Sm.dUp, Sm.wAppend, Sm.atI_ev, Sm.sIx_n, Sm.sIx_s, Sm.cNz, Sm.cutD, e_draw, e_rng])
  refine Rt_forT (I := fun i ρ => ∃ (t' : Tp) (kds : List D) (x3 x4 x5 x7 x8 : Option D), okT t' ∧ (∀ d ∈ kds, fre d = true) ∧ kds.length = i ∧ ρ = [some (dTp t'), some (.n .lst NMl), some (.n .lst kds), x3, x4, x5, none, x7, x8, none, none, none, none, none, none]) ⟨t1, [], none, none, none, none, none, ht1, by simp, rfl, rfl⟩ ?_ ?_
  · rintro J i j hj hJ ρ ⟨t', kds, x3, x4, x5, x7, x8, h1, h2, h3, rfl⟩
    obtain ⟨rfl, hi⟩ := rng_get hj
    refine ⟨_, by simp; rfl, ?_⟩
    simp [Sm.ev_mcall, Sm.ev_aug, Sm.aDs_n, Sm.aDs_v, Sm.aDs_b, Sm.aDs_i, Sm.shrJ_cc, Sm.mLook, sizeLine_eq, Sm.mFrz, Sm.mMove, Sm.mChk, Sm.dAt, Sm.mTyp, Sm.ndT, Sm.mUpd, Sm.dUp, Sm.wAppend, Sm.atI_ev, Sm.sIx_n, Sm.sIx_s, Sm.cNz, Sm.cutD]
    (obtain ⟨m, t2, e_draw, ht2, hm⟩ := take_okN (m := 4) (by assumption) (by decide) (by decide); have h_draw : m < 1000000 := (by omega); have e_rng := fun ρ => rng (ρ := ρ) h_draw; simp [Sm.ev_mcall, Sm.ev_aug, Sm.aDs_n, Sm.aDs_v, Sm.aDs_b, Sm.aDs_i, Sm.shrJ_cc, Sm.mLook, sizeLine_eq, Sm.mFrz, Sm.mMove, Sm.mChk, Sm.dAt, Sm.mTyp, Sm.ndT, Sm.mUpd, Sm.dUp, Sm.wAppend, Sm.atI_ev, Sm.sIx_n, Sm.sIx_s, Sm.cNz, Sm.cutD, e_draw, e_rng])
    refine Nx_forT (I := fun i ρ => ∃ (t' : Tp) (fl : List D) (x5 x7 x8 : Option D), okT t' ∧ (∀ d ∈ fl, fre d = true) ∧ fl.length = i ∧ ρ = [some (dTp t'), some (.n .lst NMl), some (.n .lst kds), some (.int j), some (.n .lst fl), x5, none, x7, x8, none, none, none, none, none, none]) ⟨t2, [], x5, x7, x8, ht2, by simp, rfl, rfl⟩ ?_ ?_
    · rintro J' i' j' hj' hJ' ρ ⟨t', fl, x5, x7, x8, g1, g2, g3, rfl⟩
      obtain ⟨rfl, hi'⟩ := rng_get hj'
      refine ⟨_, by simp; rfl, ?_⟩
      obtain ⟨ys, t3, ey, ht3, fy, ly⟩ := marks_lc g1
      simp [Sm.ev_mcall, Sm.ev_aug, Sm.aDs_n, Sm.aDs_v, Sm.aDs_b, Sm.aDs_i, Sm.shrJ_cc, Sm.mLook, sizeLine_eq, Sm.mFrz, Sm.mMove, Sm.mChk, Sm.dAt, Sm.mTyp, Sm.ndT, Sm.mUpd, Sm.dUp, Sm.wAppend, Sm.atI_ev, Sm.sIx_n, Sm.sIx_s, Sm.cNz, Sm.cutD]
      rw [ey]
      (obtain ⟨q, t4, e_draw, ht4, hq⟩ := take_okN (m := 4) (by assumption) (by decide) (by decide); have h_draw : q < 1000000 := (by omega); have e_rng := fun ρ => rng (ρ := ρ) h_draw; simp [Sm.ev_mcall, Sm.ev_aug, Sm.aDs_n, Sm.aDs_v, Sm.aDs_b, Sm.aDs_i, Sm.shrJ_cc, Sm.mLook, sizeLine_eq, Sm.mFrz, Sm.mMove, Sm.mChk, Sm.dAt, Sm.mTyp, Sm.ndT, Sm.mUpd, Sm.dUp, Sm.wAppend, Sm.atI_ev, Sm.sIx_n, Sm.sIx_s, Sm.cNz, Sm.cutD, e_draw, e_rng])
      obtain ⟨d, hd, ed, fd⟩ := ix_lit (ds := [.str "", .str "", .str "k0", .str "k1"]) rfl hq
      simp [ed]
      (obtain ⟨q2, t5, e_draw, ht5, hq2⟩ := take_okN (m := 3) (by assumption) (by decide) (by decide); have h_draw : q2 < 1000000 := (by omega); have e_rng := fun ρ => rng (ρ := ρ) h_draw; simp [Sm.ev_mcall, Sm.ev_aug, Sm.aDs_n, Sm.aDs_v, Sm.aDs_b, Sm.aDs_i, Sm.shrJ_cc, Sm.mLook, sizeLine_eq, Sm.mFrz, Sm.mMove, Sm.mChk, Sm.dAt, Sm.mTyp, Sm.ndT, Sm.mUpd, Sm.dUp, Sm.wAppend, Sm.atI_ev, Sm.sIx_n, Sm.sIx_s, Sm.cNz, Sm.cutD, e_draw, e_rng])
      obtain ⟨d2, hd2, ed2, fd2⟩ := ix_lit (ds := [.str "p", .str "q", .str "r"]) rfl hq2
      have l1 : fl.length < 16777216 := by omega
      simp [Sm.ev_mcall, Sm.ev_aug, Sm.aDs_n, Sm.aDs_v, Sm.aDs_b, Sm.aDs_i, Sm.shrJ_cc, Sm.mLook, sizeLine_eq, Sm.mFrz, Sm.mMove, Sm.mChk, Sm.dAt, Sm.mTyp, Sm.ndT, Sm.mUpd, Sm.dUp, Sm.wAppend, Sm.atI_ev, Sm.sIx_n, Sm.sIx_s, Sm.cNz, Sm.cutD, ed2, fd, l1]
      refine Nx_next.mpr (hJ' _ ⟨t5, _, _, _, _, ht5, ?_, ?_, rfl⟩)
      · intro d hd
        rcases List.mem_append.mp hd with hd | hd
        · exact g2 d hd
        · rw [List.mem_singleton.mp hd]
          simp [fd, fd2, fres_all fy]
      · simp [g3]
    · rintro ρ ⟨t', fl, x5, x7, x8, g1, g2, g3, rfl⟩
      have l1 : kds.length < 16777216 := by omega
      have s1 := tksI j (by omega)
      have s2 := addS (a := "k") (b := tks j) (by rw [tks_len (by omega)]; decide)
      simp [Sm.ev_mcall, Sm.ev_aug, Sm.aDs_n, Sm.aDs_v, Sm.aDs_b, Sm.aDs_i, Sm.shrJ_cc, Sm.mLook, sizeLine_eq, Sm.mFrz, Sm.mMove, Sm.mChk, Sm.dAt, Sm.mTyp, Sm.ndT, Sm.mUpd, Sm.dUp, Sm.wAppend, Sm.atI_ev, Sm.sIx_n, Sm.sIx_s, Sm.cNz, Sm.cutD, s1, s2, l1]
      refine Nx_next.mpr (hJ _ ⟨t', _, _, _, _, _, _, g1, ?_, ?_, rfl⟩)
      · intro d hd
        rcases List.mem_append.mp hd with hd | hd
        · exact h2 d hd
        · rw [List.mem_singleton.mp hd]
          simp [fres_all g2]
      · simp [h3]
  · rintro ρ ⟨t2, kds, x3, x4, x5, x7, x8, h1, h2, h3, rfl⟩
    have fk := fres_all h2
    simp [Sm.ev_mcall, Sm.ev_aug, Sm.aDs_n, Sm.aDs_v, Sm.aDs_b, Sm.aDs_i, Sm.shrJ_cc, Sm.mLook, sizeLine_eq, Sm.mFrz, Sm.mMove, Sm.mChk, Sm.dAt, Sm.mTyp, Sm.ndT, Sm.mUpd, Sm.dUp, Sm.wAppend, Sm.atI_ev, Sm.sIx_n, Sm.sIx_s, Sm.cNz, Sm.cutD]
    (obtain ⟨m, t3, e_draw, ht3, hm⟩ := take_okN (m := 6) (by assumption) (by decide) (by decide); have h_draw : m < 1000000 := (by omega); have e_rng := fun ρ => rng (ρ := ρ) h_draw; simp [Sm.ev_mcall, Sm.ev_aug, Sm.aDs_n, Sm.aDs_v, Sm.aDs_b, Sm.aDs_i, Sm.shrJ_cc, Sm.mLook, sizeLine_eq, Sm.mFrz, Sm.mMove, Sm.mChk, Sm.dAt, Sm.mTyp, Sm.ndT, Sm.mUpd, Sm.dUp, Sm.wAppend, Sm.atI_ev, Sm.sIx_n, Sm.sIx_s, Sm.cNz, Sm.cutD, e_draw, e_rng])
    refine Rt_forT (I := fun i ρ => ∃ (t' : Tp) (its : List It4) (nm : D) (x3 x5 x10 x11 x12 x13 x14 : Option D), okT t' ∧ (∀ d ∈ its, okI d) ∧ its.length = i ∧ Sm.shr nm = .sh (.n .lst NMl) ∧ ρ = [some (dTp t'), some nm, some (.n .lst kds), x3, x4, x5, none, x7, x8, some (.n .lst (its.map dI4)), x10, x11, x12, x13, x14]) ⟨t3, [], _, x3, x5, none, none, none, none, none, ht3, by simp, rfl, rfl, rfl⟩ ?_ ?_
    · rintro J i j hj hJ ρ ⟨t', its, nm, x3, x5, x10, x11, x12, x13, x14, h1, h2, h3, h4, rfl⟩
      obtain ⟨rfl, hi⟩ := rng_get hj
      refine ⟨_, by simp; rfl, ?_⟩
      have l1 : its.length < 16777216 := by omega
      simp [Sm.ev_mcall, Sm.ev_aug, Sm.aDs_n, Sm.aDs_v, Sm.aDs_b, Sm.aDs_i, Sm.shrJ_cc, Sm.mLook, sizeLine_eq, Sm.mFrz, Sm.mMove, Sm.mChk, Sm.dAt, Sm.mTyp, Sm.ndT, Sm.mUpd, Sm.dUp, Sm.wAppend, Sm.atI_ev, Sm.sIx_n, Sm.sIx_s, Sm.cNz, Sm.cutD, h4]
      (obtain ⟨q, t4, e_draw, ht4, hq⟩ := take_okN (m := 5) (by assumption) (by decide) (by decide); have h_draw : q < 1000000 := (by omega); have e_rng := fun ρ => rng (ρ := ρ) h_draw; simp [Sm.ev_mcall, Sm.ev_aug, Sm.aDs_n, Sm.aDs_v, Sm.aDs_b, Sm.aDs_i, Sm.shrJ_cc, Sm.mLook, sizeLine_eq, Sm.mFrz, Sm.mMove, Sm.mChk, Sm.dAt, Sm.mTyp, Sm.ndT, Sm.mUpd, Sm.dUp, Sm.wAppend, Sm.atI_ev, Sm.sIx_n, Sm.sIx_s, Sm.cNz, Sm.cutD, e_draw, e_rng])
      obtain ⟨s, hs, es⟩ := ix_nm hq
      simp [Sm.ev_mcall, Sm.ev_aug, Sm.aDs_n, Sm.aDs_v, Sm.aDs_b, Sm.aDs_i, Sm.shrJ_cc, Sm.mLook, sizeLine_eq, Sm.mFrz, Sm.mMove, Sm.mChk, Sm.dAt, Sm.mTyp, Sm.ndT, Sm.mUpd, Sm.dUp, Sm.wAppend, Sm.atI_ev, Sm.sIx_n, Sm.sIx_s, Sm.cNz, Sm.cutD, es]
      (obtain ⟨c, t5, e_draw, ht5, c0, c1⟩ := take_ok (m := 9) (by assumption) (by decide) (by decide); simp [Sm.ev_mcall, Sm.ev_aug, Sm.aDs_n, Sm.aDs_v, Sm.aDs_b, Sm.aDs_i, Sm.shrJ_cc, Sm.mLook, sizeLine_eq, Sm.mFrz, Sm.mMove, Sm.mChk, Sm.dAt, Sm.mTyp, Sm.ndT, Sm.mUpd, Sm.dUp, Sm.wAppend, Sm.atI_ev, Sm.sIx_n, Sm.sIx_s, Sm.cNz, Sm.cutD, e_draw])
      by_cases e1 : c < 5
      · simp [Sm.ev_mcall, Sm.ev_aug, Sm.aDs_n, Sm.aDs_v, Sm.aDs_b, Sm.aDs_i, Sm.shrJ_cc, Sm.mLook, sizeLine_eq, Sm.mFrz, Sm.mMove, Sm.mChk, Sm.dAt, Sm.mTyp, Sm.ndT, Sm.mUpd, Sm.dUp, Sm.wAppend, Sm.atI_ev, Sm.sIx_n, Sm.sIx_s, Sm.cNz, Sm.cutD, e1]
        (obtain ⟨v, t6, e_draw, ht6, hv⟩ := take_okN (m := 4) (by assumption) (by decide) (by decide); have h_draw : v < 1000000 := (by omega); have e_rng := fun ρ => rng (ρ := ρ) h_draw; simp [Sm.ev_mcall, Sm.ev_aug, Sm.aDs_n, Sm.aDs_v, Sm.aDs_b, Sm.aDs_i, Sm.shrJ_cc, Sm.mLook, sizeLine_eq, Sm.mFrz, Sm.mMove, Sm.mChk, Sm.dAt, Sm.mTyp, Sm.ndT, Sm.mUpd, Sm.dUp, Sm.wAppend, Sm.atI_ev, Sm.sIx_n, Sm.sIx_s, Sm.cNz, Sm.cutD, e_draw, e_rng])
        refine Nx_forT (I := fun i ρ => ∃ (t' : Tp) (vs : List (Str × Vl)) (x5 x13 : Option D), okT t' ∧ (∀ p ∈ vs, okV p.2) ∧ vs.length = i ∧ ρ = [some (dTp t'), some (.sh (.n .lst NMl)), some (.n .lst kds), some (.int j), x4, x5, none, x7, x8, some (.n .lst (its.map dI4)), some (.str s), some (.int c), some (.n .lst (vs.map dF)), x13, x14]) ⟨t6, [], x5, x13, ht6, by simp, rfl, rfl⟩ ?_ ?_
        · rintro J' i' j' hj' hJ' ρ ⟨t', vs, x5, x13, g1, g2, g3, rfl⟩
          obtain ⟨rfl, hi'⟩ := rng_get hj'
          refine ⟨_, by simp; rfl, ?_⟩
          simp [Sm.ev_mcall, Sm.ev_aug, Sm.aDs_n, Sm.aDs_v, Sm.aDs_b, Sm.aDs_i, Sm.shrJ_cc, Sm.mLook, sizeLine_eq, Sm.mFrz, Sm.mMove, Sm.mChk, Sm.dAt, Sm.mTyp, Sm.ndT, Sm.mUpd, Sm.dUp, Sm.wAppend, Sm.atI_ev, Sm.sIx_n, Sm.sIx_s, Sm.cNz, Sm.cutD]
          (obtain ⟨q2, t7, e_draw, ht7, hq2⟩ := take_okN (m := 3) (by assumption) (by decide) (by decide); have h_draw : q2 < 1000000 := (by omega); have e_rng := fun ρ => rng (ρ := ρ) h_draw; simp [Sm.ev_mcall, Sm.ev_aug, Sm.aDs_n, Sm.aDs_v, Sm.aDs_b, Sm.aDs_i, Sm.shrJ_cc, Sm.mLook, sizeLine_eq, Sm.mFrz, Sm.mMove, Sm.mChk, Sm.dAt, Sm.mTyp, Sm.ndT, Sm.mUpd, Sm.dUp, Sm.wAppend, Sm.atI_ev, Sm.sIx_n, Sm.sIx_s, Sm.cNz, Sm.cutD, e_draw, e_rng])
          obtain ⟨d2, hd2, ed2, fd2⟩ := ix_lit (ds := [.str "p", .str "q", .str "r"]) rfl hq2
          have ⟨f, hf⟩ : ∃ f, d2 = .str f := by
            simp at hd2
            rcases hd2 with rfl | rfl | rfl <;> exact ⟨_, rfl⟩
          subst hf
          obtain ⟨w, t8, ew, ht8, hw⟩ := value_of_ok ht7 (.str f)
          have l2 : vs.length < 16777216 := by omega
          simp [Sm.ev_mcall, Sm.ev_aug, Sm.aDs_n, Sm.aDs_v, Sm.aDs_b, Sm.aDs_i, Sm.shrJ_cc, Sm.mLook, sizeLine_eq, Sm.mFrz, Sm.mMove, Sm.mChk, Sm.dAt, Sm.mTyp, Sm.ndT, Sm.mUpd, Sm.dUp, Sm.wAppend, Sm.atI_ev, Sm.sIx_n, Sm.sIx_s, Sm.cNz, Sm.cutD, ed2, ew, l2]
          rw [show vs.map dF ++ [D.tup [.str f, dV w]] = (vs ++ [(f, w)]).map dF by simp [dF]]
          refine Nx_next.mpr (hJ' _ ⟨t8, vs ++ [(f, w)], _, _, ht8, ?_, ?_, rfl⟩)
          · intro p hp
            rcases List.mem_append.mp hp with hp | hp
            · exact g2 p hp
            · rw [List.mem_singleton.mp hp]
              exact hw
          · simp [g3]
        · rintro ρ ⟨t', vs, x5, x13, g1, g2, g3, rfl⟩
          simp [Sm.ev_mcall, Sm.ev_aug, Sm.aDs_n, Sm.aDs_v, Sm.aDs_b, Sm.aDs_i, Sm.shrJ_cc, Sm.mLook, sizeLine_eq, Sm.mFrz, Sm.mMove, Sm.mChk, Sm.dAt, Sm.mTyp, Sm.ndT, Sm.mUpd, Sm.dUp, Sm.wAppend, Sm.atI_ev, Sm.sIx_n, Sm.sIx_s, Sm.cNz, Sm.cutD]
          (obtain ⟨q3, t7, e_draw, ht7, hq3⟩ := take_okN (m := 5) (by assumption) (by decide) (by decide); have h_draw : q3 < 1000000 := (by omega); have e_rng := fun ρ => rng (ρ := ρ) h_draw; simp [Sm.ev_mcall, Sm.ev_aug, Sm.aDs_n, Sm.aDs_v, Sm.aDs_b, Sm.aDs_i, Sm.shrJ_cc, Sm.mLook, sizeLine_eq, Sm.mFrz, Sm.mMove, Sm.mChk, Sm.dAt, Sm.mTyp, Sm.ndT, Sm.mUpd, Sm.dUp, Sm.wAppend, Sm.atI_ev, Sm.sIx_n, Sm.sIx_s, Sm.cNz, Sm.cutD, e_draw, e_rng])
          obtain ⟨d2, hd2, ed2, fd2⟩ := ix_lit (ds := [.non, .non, .int 0, .int 1, .int 3]) rfl hq3
          simp [Sm.ev_mcall, Sm.ev_aug, Sm.aDs_n, Sm.aDs_v, Sm.aDs_b, Sm.aDs_i, Sm.shrJ_cc, Sm.mLook, sizeLine_eq, Sm.mFrz, Sm.mMove, Sm.mChk, Sm.dAt, Sm.mTyp, Sm.ndT, Sm.mUpd, Sm.dUp, Sm.wAppend, Sm.atI_ev, Sm.sIx_n, Sm.sIx_s, Sm.cNz, Sm.cutD, ed2, fd2]
          (obtain ⟨q4, t8, e_draw, ht8, hq4⟩ := take_okN (m := 3) (by assumption) (by decide) (by decide); have h_draw : q4 < 1000000 := (by omega); have e_rng := fun ρ => rng (ρ := ρ) h_draw; simp [Sm.ev_mcall, Sm.ev_aug, Sm.aDs_n, Sm.aDs_v, Sm.aDs_b, Sm.aDs_i, Sm.shrJ_cc, Sm.mLook, sizeLine_eq, Sm.mFrz, Sm.mMove, Sm.mChk, Sm.dAt, Sm.mTyp, Sm.ndT, Sm.mUpd, Sm.dUp, Sm.wAppend, Sm.atI_ev, Sm.sIx_n, Sm.sIx_s, Sm.cNz, Sm.cutD, e_draw, e_rng])
          have s1 := tksI q4 (by omega)
          have s2 := addS (a := "k") (b := tks q4) (by rw [tks_len (by omega)]; decide)
          obtain ⟨cc, hcc, rfl⟩ : ∃ cc : Option Nat, (∀ x, cc = some x → x ≤ 3) ∧ d2 = dC cc := by
            simp at hd2
            rcases hd2 with rfl | rfl | rfl | rfl
            · exact ⟨none, by simp, rfl⟩
            · exact ⟨some 0, by simp, rfl⟩
            · exact ⟨some 1, by simp, rfl⟩
            · exact ⟨some 3, by simp, rfl⟩
          have l2 := fd2
          simp [Sm.ev_mcall, Sm.ev_aug, Sm.aDs_n, Sm.aDs_v, Sm.aDs_b, Sm.aDs_i, Sm.shrJ_cc, Sm.mLook, sizeLine_eq, Sm.mFrz, Sm.mMove, Sm.mChk, Sm.dAt, Sm.mTyp, Sm.ndT, Sm.mUpd, Sm.dUp, Sm.wAppend, Sm.atI_ev, Sm.sIx_n, Sm.sIx_s, Sm.cNz, Sm.cutD, s1, s2, l1, fd2]
          rw [show its.map dI4 ++ [D.tup [.str "thing", .str s, dC cc, .str ("k" ++ tks q4), .tup (vs.map dF)]] = (its ++ [It4.thing s cc ("k" ++ tks q4) vs]).map dI4 by simp [dI4]]
          refine Nx_next.mpr (hJ _ ⟨t8, its ++ [It4.thing s cc ("k" ++ tks q4) vs], _, _, _, _, _, _, _, _, ht8, ?_, ?_, ?_, rfl⟩)
          · intro p hp
            rcases List.mem_append.mp hp with hp | hp
            · exact h2 p hp
            · rw [List.mem_singleton.mp hp]
              rw [List.length_range'] at g3
              exact ⟨hs, hcc, by omega, g2⟩
          · simp [h3]
          · rfl
      · by_cases e2 : c = 5
        · simp [Sm.ev_mcall, Sm.ev_aug, Sm.aDs_n, Sm.aDs_v, Sm.aDs_b, Sm.aDs_i, Sm.shrJ_cc, Sm.mLook, sizeLine_eq, Sm.mFrz, Sm.mMove, Sm.mChk, Sm.dAt, Sm.mTyp, Sm.ndT, Sm.mUpd, Sm.dUp, Sm.wAppend, Sm.atI_ev, Sm.sIx_n, Sm.sIx_s, Sm.cNz, Sm.cutD, e2, l1]
          rw [show its.map dI4 ++ [D.tup [.str "keep", .str s]] = (its ++ [It4.keep s]).map dI4 by simp [dI4]]
          refine Nx_next.mpr (hJ _ ⟨t5, its ++ [It4.keep s], _, _, _, _, _, _, _, _, ht5, ?_, by simp [h3], rfl, rfl⟩)
          intro p hp
          rcases List.mem_append.mp hp with hp | hp
          · exact h2 p hp
          · rw [List.mem_singleton.mp hp]
            trivial
        · by_cases e3 : c = 6
          · simp [Sm.ev_mcall, Sm.ev_aug, Sm.aDs_n, Sm.aDs_v, Sm.aDs_b, Sm.aDs_i, Sm.shrJ_cc, Sm.mLook, sizeLine_eq, Sm.mFrz, Sm.mMove, Sm.mChk, Sm.dAt, Sm.mTyp, Sm.ndT, Sm.mUpd, Sm.dUp, Sm.wAppend, Sm.atI_ev, Sm.sIx_n, Sm.sIx_s, Sm.cNz, Sm.cutD, e3, l1]
            (obtain ⟨q5, t6, e_draw, ht6, hq5⟩ := take_okN (m := 9) (by assumption) (by decide) (by decide); have h_draw : q5 < 1000000 := (by omega); have e_rng := fun ρ => rng (ρ := ρ) h_draw; simp [Sm.ev_mcall, Sm.ev_aug, Sm.aDs_n, Sm.aDs_v, Sm.aDs_b, Sm.aDs_i, Sm.shrJ_cc, Sm.mLook, sizeLine_eq, Sm.mFrz, Sm.mMove, Sm.mChk, Sm.dAt, Sm.mTyp, Sm.ndT, Sm.mUpd, Sm.dUp, Sm.wAppend, Sm.atI_ev, Sm.sIx_n, Sm.sIx_s, Sm.cNz, Sm.cutD, e_draw, e_rng])
            simp [Sm.ev_mcall, Sm.ev_aug, Sm.aDs_n, Sm.aDs_v, Sm.aDs_b, Sm.aDs_i, Sm.shrJ_cc, Sm.mLook, sizeLine_eq, Sm.mFrz, Sm.mMove, Sm.mChk, Sm.dAt, Sm.mTyp, Sm.ndT, Sm.mUpd, Sm.dUp, Sm.wAppend, Sm.atI_ev, Sm.sIx_n, Sm.sIx_s, Sm.cNz, Sm.cutD, l1]
            rw [show its.map dI4 ++ [D.tup [.str "most", .int q5]] = (its ++ [It4.most q5]).map dI4 by simp [dI4]]
            refine Nx_next.mpr (hJ _ ⟨t6, its ++ [It4.most q5], _, _, _, _, _, _, _, _, ht6, ?_, by simp [h3], rfl, rfl⟩)
            intro p hp
            rcases List.mem_append.mp hp with hp | hp
            · exact h2 p hp
            · rw [List.mem_singleton.mp hp]
              trivial
          · by_cases e4 : c = 7
            · simp [Sm.ev_mcall, Sm.ev_aug, Sm.aDs_n, Sm.aDs_v, Sm.aDs_b, Sm.aDs_i, Sm.shrJ_cc, Sm.mLook, sizeLine_eq, Sm.mFrz, Sm.mMove, Sm.mChk, Sm.dAt, Sm.mTyp, Sm.ndT, Sm.mUpd, Sm.dUp, Sm.wAppend, Sm.atI_ev, Sm.sIx_n, Sm.sIx_s, Sm.cNz, Sm.cutD, e4, l1]
              (obtain ⟨q5, t6, e_draw, ht6, hq5⟩ := take_okN (m := 4) (by assumption) (by decide) (by decide); have h_draw : q5 < 1000000 := (by omega); have e_rng := fun ρ => rng (ρ := ρ) h_draw; simp [Sm.ev_mcall, Sm.ev_aug, Sm.aDs_n, Sm.aDs_v, Sm.aDs_b, Sm.aDs_i, Sm.shrJ_cc, Sm.mLook, sizeLine_eq, Sm.mFrz, Sm.mMove, Sm.mChk, Sm.dAt, Sm.mTyp, Sm.ndT, Sm.mUpd, Sm.dUp, Sm.wAppend, Sm.atI_ev, Sm.sIx_n, Sm.sIx_s, Sm.cNz, Sm.cutD, e_draw, e_rng])
              simp [Sm.ev_mcall, Sm.ev_aug, Sm.aDs_n, Sm.aDs_v, Sm.aDs_b, Sm.aDs_i, Sm.shrJ_cc, Sm.mLook, sizeLine_eq, Sm.mFrz, Sm.mMove, Sm.mChk, Sm.dAt, Sm.mTyp, Sm.ndT, Sm.mUpd, Sm.dUp, Sm.wAppend, Sm.atI_ev, Sm.sIx_n, Sm.sIx_s, Sm.cNz, Sm.cutD, l1]
              rw [show its.map dI4 ++ [D.tup [.str "adopt", .int q5, .str s]] = (its ++ [It4.adopt q5 s]).map dI4 by simp [dI4]]
              refine Nx_next.mpr (hJ _ ⟨t6, its ++ [It4.adopt q5 s], _, _, _, _, _, _, _, _, ht6, ?_, by simp [h3], rfl, rfl⟩)
              intro p hp
              rcases List.mem_append.mp hp with hp | hp
              · exact h2 p hp
              · rw [List.mem_singleton.mp hp]
                trivial
            · simp [Sm.ev_mcall, Sm.ev_aug, Sm.aDs_n, Sm.aDs_v, Sm.aDs_b, Sm.aDs_i, Sm.shrJ_cc, Sm.mLook, sizeLine_eq, Sm.mFrz, Sm.mMove, Sm.mChk, Sm.dAt, Sm.mTyp, Sm.ndT, Sm.mUpd, Sm.dUp, Sm.wAppend, Sm.atI_ev, Sm.sIx_n, Sm.sIx_s, Sm.cNz, Sm.cutD, e1, e2, e3, e4, l1]
              (obtain ⟨q5, t6, e_draw, ht6, hq5⟩ := take_okN (m := 5) (by assumption) (by decide) (by decide); have h_draw : q5 < 1000000 := (by omega); have e_rng := fun ρ => rng (ρ := ρ) h_draw; simp [Sm.ev_mcall, Sm.ev_aug, Sm.aDs_n, Sm.aDs_v, Sm.aDs_b, Sm.aDs_i, Sm.shrJ_cc, Sm.mLook, sizeLine_eq, Sm.mFrz, Sm.mMove, Sm.mChk, Sm.dAt, Sm.mTyp, Sm.ndT, Sm.mUpd, Sm.dUp, Sm.wAppend, Sm.atI_ev, Sm.sIx_n, Sm.sIx_s, Sm.cNz, Sm.cutD, e_draw, e_rng])
              obtain ⟨s', hs', es'⟩ := ix_nm hq5
              simp [Sm.ev_mcall, Sm.ev_aug, Sm.aDs_n, Sm.aDs_v, Sm.aDs_b, Sm.aDs_i, Sm.shrJ_cc, Sm.mLook, sizeLine_eq, Sm.mFrz, Sm.mMove, Sm.mChk, Sm.dAt, Sm.mTyp, Sm.ndT, Sm.mUpd, Sm.dUp, Sm.wAppend, Sm.atI_ev, Sm.sIx_n, Sm.sIx_s, Sm.cNz, Sm.cutD, es', l1]
              rw [show its.map dI4 ++ [D.tup [.str "move", .str s, .str s']] = (its ++ [It4.move s s']).map dI4 by simp [dI4]]
              refine Nx_next.mpr (hJ _ ⟨t6, its ++ [It4.move s s'], _, _, _, _, _, _, _, _, ht6, ?_, by simp [h3], rfl, rfl⟩)
              intro p hp
              rcases List.mem_append.mp hp with hp | hp
              · exact h2 p hp
              · rw [List.mem_singleton.mp hp]
                trivial
    · rintro ρ ⟨t', its, nm, x3, x5, x10, x11, x12, x13, x14, h1, h2, h3, h4, rfl⟩
      simp [Sm.ev_mcall, Sm.ev_aug, Sm.aDs_n, Sm.aDs_v, Sm.aDs_b, Sm.aDs_i, Sm.shrJ_cc, Sm.mLook, sizeLine_eq, Sm.mFrz, Sm.mMove, Sm.mChk, Sm.dAt, Sm.mTyp, Sm.ndT, Sm.mUpd, Sm.dUp, Sm.wAppend, Sm.atI_ev, Sm.sIx_n, Sm.sIx_s, Sm.cNz, Sm.cutD]
      exact Rt_ret.mpr (hP _ _ _ rfl ⟨kds, its, t', rfl, rfl, h1, fk, by rw [h3, List.length_range']; omega, h2⟩)
end Pf

namespace Pf
open PySem PySem.Spec PyProof.Rows L2 Sm
/-- what is written out -/
def dO (p : Str × Str × List (Str × Vl)) : D := .tup [.str p.1, .str p.2.1, .tup (p.2.2.map dF)]
def cpF (k : Nat) (p : Str × Vl) : Str × Vl := (p.1, cp k p.2)
def w1 (n k : Str) (vs : List (Str × Vl)) (j : Nat) : Str × Str × List (Str × Vl) := (n ++ "." ++ tks j, k, vs.map (cpF j))
def wo : It4 → List (Str × Str × List (Str × Vl))
  | .thing n none k vs => [(n, k, vs)]
  | .thing n (some c) k vs => (List.range' 0 c).map (w1 n k vs)
  | _ => []
@[simp] theorem fre_O (p : Str × Str × List (Str × Vl)) : fre (dO p) = true := by simp [dO, fres_map fre_F]
theorem snocO (xs : List (Str × Str × List (Str × Vl))) (n k : Str) (vs : List (Str × Vl)) : xs.map dO ++ [D.tup [.str n, .str k, .tup (vs.map dF)]] = (xs ++ [(n, k, vs)]).map dO := by simp [dO]
theorem name_len {s : Str} (hs : s ∈ nms) {k : Nat} (hk : k < 10) : (s ++ "." : Str).length + (tks k).length ≤ 1000 ∧ s.length + ("." : Str).length ≤ 1000 := by
  have h1 := nms_short s hs
  have h2 : ("." : Str).length = 1 := rfl
  have h3 : (s ++ "." : Str).length = s.length + ("." : Str).length := by
    show (s.cps ++ ("." : Str).cps).size = _
    rw [Array.size_append]
    rfl
  rw [h3, h2, tks_len hk]
  omega
theorem written_ok {kd : D} {its : List It4} (hk : fre kd = true) (hl : its.length ≤ 5) (h : ∀ i ∈ its, okI i) : f_written_out [.tup [kd, .tup (its.map dI4)]] = .ok (.tup ((its.flatMap wo).map dO)) [] := by
  suffices h : ∃ d os, f_written_out [.tup [kd, .tup (its.map dI4)]] = .ok d os ∧ d = .tup ((its.flatMap wo).map dO) ∧ os = [] by
    obtain ⟨_, _, e, rfl, rfl⟩ := h
    exact e
  refine fRun_Rt fun P hP => ?_
  have e0 : env0 12 [.tup [kd, .tup (its.map dI4)]] = [some (.tup [kd, .tup (its.map dI4)]), none, none, none, none, none, none, none, none, none, none, none] := rfl
  rw [e0]
  unfold m_written_out
  have a1 : atI [kd, D.tup (its.map dI4)] 1 = some (.tup (its.map dI4)) := atI_nat (xs := [kd, D.tup (its.map dI4)]) (i := 1) (by simp)
  simp [Sm.ev_mcall, Sm.ev_aug, Sm.aDs_n, Sm.aDs_v, Sm.aDs_b, Sm.aDs_i, Sm.shrJ_cc, Sm.mLook, sizeLine_eq, Sm.mFrz, Sm.mMove, Sm.mChk, Sm.dAt, Sm.mTyp, Sm.ndT, Sm.mUpd, Sm.dUp, Sm.wAppend, Sm.atI_ev, Sm.sIx_n, Sm.sIx_s, Sm.cNz, Sm.cutD, a1, fres_map fre_I]
  refine Rt_forT (I := fun i ρ => ∃ (acc : List (Str × Str × List (Str × Vl))) (x2 x3 x4 x5 x6 x7 x8 x11 : Option D), acc = (its.take i).flatMap wo ∧ acc.length ≤ 3 * i ∧ ρ = [some (.tup [kd, .tup (its.map dI4)]), some (.lst (acc.map dO)), x2, x3, x4, x5, x6, x7, x8, none, none, x11]) ⟨[], _, _, _, _, _, _, _, _, rfl, by simp, rfl⟩ ?_ ?_
  · rintro J i it hit hJ ρ ⟨acc, x2, x3, x4, x5, x6, x7, x8, x11, ha, hb, rfl⟩
    refine ⟨_, by simp; rfl, ?_⟩
    have hin := List.getElem?_eq_some_iff.mp hit
    have hm : it ∈ its := by
      rw [← hin.2]
      exact List.getElem_mem hin.1
    have hi := hin.1
    have tk : (its.take (i + 1)).flatMap wo = acc ++ wo it := by
      rw [List.take_succ, hit]
      simp [ha]
    have ok := h it hm
    have l1 : acc.length < 16777216 := by omega
    cases it with
    | keep n =>
      simp [Sm.ev_mcall, Sm.ev_aug, Sm.aDs_n, Sm.aDs_v, Sm.aDs_b, Sm.aDs_i, Sm.shrJ_cc, Sm.mLook, sizeLine_eq, Sm.mFrz, Sm.mMove, Sm.mChk, Sm.dAt, Sm.mTyp, Sm.ndT, Sm.mUpd, Sm.dUp, Sm.wAppend, Sm.atI_ev, Sm.sIx_n, Sm.sIx_s, Sm.cNz, Sm.cutD, dI4, atI_0]
      refine Nx_cont.mpr (hJ _ ⟨acc, _, _, _, _, _, _, _, _, by rw [tk]; simp [wo], by omega, rfl⟩)
    | most n =>
      simp [Sm.ev_mcall, Sm.ev_aug, Sm.aDs_n, Sm.aDs_v, Sm.aDs_b, Sm.aDs_i, Sm.shrJ_cc, Sm.mLook, sizeLine_eq, Sm.mFrz, Sm.mMove, Sm.mChk, Sm.dAt, Sm.mTyp, Sm.ndT, Sm.mUpd, Sm.dUp, Sm.wAppend, Sm.atI_ev, Sm.sIx_n, Sm.sIx_s, Sm.cNz, Sm.cutD, dI4, atI_0]
      refine Nx_cont.mpr (hJ _ ⟨acc, _, _, _, _, _, _, _, _, by rw [tk]; simp [wo], by omega, rfl⟩)
    | adopt n m =>
      simp [Sm.ev_mcall, Sm.ev_aug, Sm.aDs_n, Sm.aDs_v, Sm.aDs_b, Sm.aDs_i, Sm.shrJ_cc, Sm.mLook, sizeLine_eq, Sm.mFrz, Sm.mMove, Sm.mChk, Sm.dAt, Sm.mTyp, Sm.ndT, Sm.mUpd, Sm.dUp, Sm.wAppend, Sm.atI_ev, Sm.sIx_n, Sm.sIx_s, Sm.cNz, Sm.cutD, dI4, atI_0]
      refine Nx_cont.mpr (hJ _ ⟨acc, _, _, _, _, _, _, _, _, by rw [tk]; simp [wo], by omega, rfl⟩)
    | move n m =>
      simp [Sm.ev_mcall, Sm.ev_aug, Sm.aDs_n, Sm.aDs_v, Sm.aDs_b, Sm.aDs_i, Sm.shrJ_cc, Sm.mLook, sizeLine_eq, Sm.mFrz, Sm.mMove, Sm.mChk, Sm.dAt, Sm.mTyp, Sm.ndT, Sm.mUpd, Sm.dUp, Sm.wAppend, Sm.atI_ev, Sm.sIx_n, Sm.sIx_s, Sm.cNz, Sm.cutD, dI4, atI_0]
      refine Nx_cont.mpr (hJ _ ⟨acc, _, _, _, _, _, _, _, _, by rw [tk]; simp [wo], by omega, rfl⟩)
    | thing n c k vs =>
      obtain ⟨hn, hc, hv, hvs⟩ := ok
      cases c with
      | none =>
        simp [Sm.ev_mcall, Sm.ev_aug, Sm.aDs_n, Sm.aDs_v, Sm.aDs_b, Sm.aDs_i, Sm.shrJ_cc, Sm.mLook, sizeLine_eq, Sm.mFrz, Sm.mMove, Sm.mChk, Sm.dAt, Sm.mTyp, Sm.ndT, Sm.mUpd, Sm.dUp, Sm.wAppend, Sm.atI_ev, Sm.sIx_n, Sm.sIx_s, Sm.cNz, Sm.cutD, dI4, atI_0, dC, fres_map fre_F, l1]
        rw [snocO]
        refine Nx_cont.mpr (hJ _ ⟨_, _, _, _, _, _, _, _, _, by rw [tk]; rfl, by simp; omega, rfl⟩)
      | some c =>
        have hc := hc c rfl
        simp [Sm.ev_mcall, Sm.ev_aug, Sm.aDs_n, Sm.aDs_v, Sm.aDs_b, Sm.aDs_i, Sm.shrJ_cc, Sm.mLook, sizeLine_eq, Sm.mFrz, Sm.mMove, Sm.mChk, Sm.dAt, Sm.mTyp, Sm.ndT, Sm.mUpd, Sm.dUp, Sm.wAppend, Sm.atI_ev, Sm.sIx_n, Sm.sIx_s, Sm.cNz, Sm.cutD, dI4, atI_0, dC, fres_map fre_F, l1, rng (show c < 1000000 by omega)]
        refine Nx_forT0 (I := fun j ρ => ∃ (x8 x11 : Option D), ρ = [some (.tup [kd, .tup (its.map dI4)]), some (.lst ((acc ++ (List.range' 0 j).map (w1 n k vs)).map dO)), some (dI4 (.thing n (some c) k vs)), some (.str "thing"), some (.str n), some (.int c), some (.str k), some (.tup (vs.map dF)), x8, none, none, x11]) ⟨_, _, by simp [dI4, dC]; exact ⟨rfl, rfl⟩⟩ ?_ ?_
        · rintro J' i' j' hj' hJ' ρ ⟨x8, x11, rfl⟩
          obtain ⟨rfl, hi'⟩ := rng_get hj'
          refine ⟨_, by simp; rfl, ?_⟩
          have lc := lc_map (δ := dF) (ε := fun p => dF (cpF j' p)) (own := [9, 10]) (g := (gTupN 2 (gsCons (gSetC 9) (gsCons (gSetC 10) (gsNil))))) (e := (mb (mCons (mVar 9) (mCons (mb (kVal (mVar 10) (kVal (mVar 8) (kNil))) (mCall true [false, false] (f_value_of_copy))) (mNil))) mTupN))
            (ρ := [some (.tup [kd, .tup (its.map dI4)]), some (.lst ((acc ++ (List.range' 0 j').map (w1 n k vs)).map dO)), some (dI4 (.thing n (some c) k vs)), some (.str "thing"), some (.str n), some (.int c), some (.str k), some (.tup (vs.map dF)), some (.int j'), none, none, x11]) (xs := vs) (acc := []) (fun p hp => by
              refine ⟨_, by simp [dF]; rfl, ?_⟩
              have q := copyP p.2 j' (hvs p hp) (by omega)
              simp [Sm.ev_mcall, Sm.ev_aug, Sm.aDs_n, Sm.aDs_v, Sm.aDs_b, Sm.aDs_i, Sm.shrJ_cc, Sm.mLook, sizeLine_eq, Sm.mFrz, Sm.mMove, Sm.mChk, Sm.dAt, Sm.mTyp, Sm.ndT, Sm.mUpd, Sm.dUp, Sm.wAppend, Sm.atI_ev, Sm.sIx_n, Sm.sIx_s, Sm.cNz, Sm.cutD, q]
              rfl) (by simp [sizeLine_eq]; omega)
          have s1 := tksI j' (by omega)
          have s2 := addS (name_len hn (k := j') (by omega)).1
          have s3 := addS (name_len hn (k := j') (by omega)).2
          simp [Sm.ev_mcall, Sm.ev_aug, Sm.aDs_n, Sm.aDs_v, Sm.aDs_b, Sm.aDs_i, Sm.shrJ_cc, Sm.mLook, sizeLine_eq, Sm.mFrz, Sm.mMove, Sm.mChk, Sm.dAt, Sm.mTyp, Sm.ndT, Sm.mUpd, Sm.dUp, Sm.wAppend, Sm.atI_ev, Sm.sIx_n, Sm.sIx_s, Sm.cNz, Sm.cutD, fres_map fre_F]
          simp at lc
          rw [lc]
          have l2 : acc.length + j' < 16777216 := by omega
          have f2 : ∀ f : Str × Vl → D, (∀ x, fre (f x) = true) → fres (vs.map f) = true := fun f hf => fres_map hf vs
          simp [Sm.ev_mcall, Sm.ev_aug, Sm.aDs_n, Sm.aDs_v, Sm.aDs_b, Sm.aDs_i, Sm.shrJ_cc, Sm.mLook, sizeLine_eq, Sm.mFrz, Sm.mMove, Sm.mChk, Sm.dAt, Sm.mTyp, Sm.ndT, Sm.mUpd, Sm.dUp, Sm.wAppend, Sm.atI_ev, Sm.sIx_n, Sm.sIx_s, Sm.cNz, Sm.cutD, s1, s2, s3, l2, f2 _ (fun x => fre_F (cpF j' x))]
          have e : (acc ++ (List.range' 0 (j' + 1)).map (w1 n k vs)).map dO = acc.map dO ++ ((List.range' 0 j').map (dO ∘ w1 n k vs) ++ [D.tup [.str (n ++ "." ++ tks j'), .str k, .tup (vs.map fun p => dF (cpF j' p))]]) := by
            rw [List.range'_1_concat]
            simp [dO, w1]
          rw [← e]
          exact Nx_next.mpr (hJ' _ ⟨_, _, rfl⟩)
        · rintro ρ ⟨x8, x11, rfl⟩
          refine hJ _ ⟨acc ++ (List.range' 0 c).map (w1 n k vs), _, _, _, _, _, _, _, _, by rw [tk]; rfl, ?_, by rw [List.length_range']⟩
          simp
          omega
  · rintro ρ ⟨acc, x2, x3, x4, x5, x6, x7, x8, x11, ha, hb, rfl⟩
    simp [Sm.ev_mcall, Sm.ev_aug, Sm.aDs_n, Sm.aDs_v, Sm.aDs_b, Sm.aDs_i, Sm.shrJ_cc, Sm.mLook, sizeLine_eq, Sm.mFrz, Sm.mMove, Sm.mChk, Sm.dAt, Sm.mTyp, Sm.ndT, Sm.mUpd, Sm.dUp, Sm.wAppend, Sm.atI_ev, Sm.sIx_n, Sm.sIx_s, Sm.cNz, Sm.cutD]
    rw [List.take_length] at ha
    exact Rt_ret.mpr (hP _ _ _ rfl ⟨by rw [ha], rfl⟩)
theorem copyL (v : Vl) (k : Nat) (hv : okV v) (hk : k < 3) : f__law_copy_of [dV v, .int k] = .ok (dV (cp k v)) [] := by
  suffices h : ∃ d os, f__law_copy_of [dV v, .int k] = .ok d os ∧ d = dV (cp k v) ∧ os = [] by
    obtain ⟨_, _, e, rfl, rfl⟩ := h
    exact e
  refine fRun_Rt fun P hP => ?_
  have e0 : env0 2 [dV v, .int k] = [some (dV v), some (.int k)] := rfl
  rw [e0]
  unfold m__law_copy_of
  cases v with
  | non =>
    simp [Sm.ev_mcall, Sm.ev_aug, Sm.aDs_n, Sm.aDs_v, Sm.aDs_b, Sm.aDs_i, Sm.shrJ_cc, Sm.mLook, sizeLine_eq, Sm.mFrz, Sm.mMove, Sm.mChk, Sm.dAt, Sm.mTyp, Sm.ndT, Sm.mUpd, Sm.dUp, Sm.wAppend, Sm.atI_ev, Sm.sIx_n, Sm.sIx_s, Sm.cNz, Sm.cutD, dV]
    exact Rt_ret.mpr (hP _ _ _ rfl ⟨rfl, rfl⟩)
  | idx i =>
    simp [Sm.ev_mcall, Sm.ev_aug, Sm.aDs_n, Sm.aDs_v, Sm.aDs_b, Sm.aDs_i, Sm.shrJ_cc, Sm.mLook, sizeLine_eq, Sm.mFrz, Sm.mMove, Sm.mChk, Sm.dAt, Sm.mTyp, Sm.ndT, Sm.mUpd, Sm.dUp, Sm.wAppend, Sm.atI_ev, Sm.sIx_n, Sm.sIx_s, Sm.cNz, Sm.cutD, dV]
    exact Rt_ret.mpr (hP _ _ _ rfl ⟨rfl, rfl⟩)
  | tol s i =>
    have w := lname_ok s k (nms_short s hv) hk
    simp [Sm.ev_mcall, Sm.ev_aug, Sm.aDs_n, Sm.aDs_v, Sm.aDs_b, Sm.aDs_i, Sm.shrJ_cc, Sm.mLook, sizeLine_eq, Sm.mFrz, Sm.mMove, Sm.mChk, Sm.dAt, Sm.mTyp, Sm.ndT, Sm.mUpd, Sm.dUp, Sm.wAppend, Sm.atI_ev, Sm.sIx_n, Sm.sIx_s, Sm.cNz, Sm.cutD, dV, w]
    exact Rt_ret.mpr (hP _ _ _ rfl ⟨rfl, rfl⟩)
  | nam s =>
    have w := lname_ok s k (nms_short s hv) hk
    simp [Sm.ev_mcall, Sm.ev_aug, Sm.aDs_n, Sm.aDs_v, Sm.aDs_b, Sm.aDs_i, Sm.shrJ_cc, Sm.mLook, sizeLine_eq, Sm.mFrz, Sm.mMove, Sm.mChk, Sm.dAt, Sm.mTyp, Sm.ndT, Sm.mUpd, Sm.dUp, Sm.wAppend, Sm.atI_ev, Sm.sIx_n, Sm.sIx_s, Sm.cNz, Sm.cutD, dV, w]
    exact Rt_ret.mpr (hP _ _ _ rfl ⟨rfl, rfl⟩)
  | num i =>
    simp [Sm.ev_mcall, Sm.ev_aug, Sm.aDs_n, Sm.aDs_v, Sm.aDs_b, Sm.aDs_i, Sm.shrJ_cc, Sm.mLook, sizeLine_eq, Sm.mFrz, Sm.mMove, Sm.mChk, Sm.dAt, Sm.mTyp, Sm.ndT, Sm.mUpd, Sm.dUp, Sm.wAppend, Sm.atI_ev, Sm.sIx_n, Sm.sIx_s, Sm.cNz, Sm.cutD, dV]
    exact Rt_ret.mpr (hP _ _ _ rfl ⟨rfl, rfl⟩)
end Pf

namespace Pf
open PySem PySem.Spec PyProof.Rows L2 Sm
theorem okS_V (v : Vl) : okS 1 (dV v) = true := by cases v <;> simp [dV, okS_tup]
theorem okS_F (p : Str × Vl) : okS 2 (dF p) = true := by simp [dF, okS_tup, okS_V]
theorem okS_O {p : Str × Str × List (Str × Vl)} (h : p.2.2.length ≤ 3) : okS 4 (dO p) = true := by
  have h2 : p.2.2.length < 1000000 := by omega
  simp [dO, okS_tup, fres_map fre_F, okS_F, h2]
theorem wo_len {it : It4} (h : okI it) : (wo it).length ≤ 3 ∧ ∀ p ∈ wo it, p.2.2.length ≤ 3 := by
  cases it with
  | thing n c k vs =>
    obtain ⟨h1, h2, h3, h4⟩ := h
    cases c with
    | none => simp [wo, h3]
    | some c =>
      have := h2 c rfl
      simp [wo, w1, h3, this]
  | _ => simp [wo]
theorem flat_len : ∀ {its : List It4}, (∀ i ∈ its, okI i) → (its.flatMap wo).length ≤ 3 * its.length
  | [], _ => by simp
  | i :: is, h => by
    have h1 := (wo_len (h i List.mem_cons_self)).1
    have h2 := flat_len fun j hj => h j (List.mem_cons_of_mem _ hj)
    simp only [List.flatMap_cons, List.length_append, List.length_cons]
    omega
theorem same_O {its : List It4} (hl : its.length ≤ 5) (h : ∀ i ∈ its, okI i) : f__law_same 11 [.tup ((its.flatMap wo).map dO), .tup ((its.flatMap wo).map dO)] = .ok (.bl true) [] := by
  refine same_ok 5 11 _ _ (okS_sd 5 _ ?_) (by decide)
  have h1 := flat_len h
  have h2 : (its.flatMap wo).length < 1000000 := by omega
  rw [okS_tup, fres_map fre_O, List.length_map, decide_eq_true h2]
  simp only [Bool.true_and, List.all_eq_true, List.mem_map]
  rintro d ⟨p, hp, rfl⟩
  obtain ⟨i, hi, hp⟩ := List.mem_flatMap.mp hp
  exact okS_O ((wo_len (h i hi)).2 p hp)
theorem law_ok (ns : List Int) (h : ns.length ≤ 63) : f_law [.sh (.n .kl (ns.map D.int))] = .ok (.bl true) [] := by
  suffices h : ∃ d os, f_law [.sh (.n .kl (ns.map D.int))] = .ok d os ∧ d = .bl true ∧ os = [] by
    obtain ⟨_, _, e, rfl, rfl⟩ := h
    exact e
  refine fRun_Rt fun P hP => ?_
  have e0 : env0 9 [.sh (.n .kl (ns.map D.int))] = [some (.sh (.n .kl (ns.map D.int))), none, none, none, none, none, none, none, none] := rfl
  rw [e0]
  obtain ⟨t, e1, ht⟩ := tape_ok ns h
  obtain ⟨kd, its, t', e2, ht', fk, hl, hi⟩ := any_tree_ok ht
  unfold m_law
  have sT : ∀ d : D, fre d = true → Sm.shr d = d → True := fun _ _ _ => trivial
  have a1 : atI [D.tup kd, D.tup (its.map dI4)] 1 = some (.tup (its.map dI4)) := atI_nat (xs := [D.tup kd, D.tup (its.map dI4)]) (i := 1) (by simp)
  simp [Sm.ev_mcall, Sm.ev_aug, Sm.aDs_n, Sm.aDs_v, Sm.aDs_b, Sm.aDs_i, Sm.shrJ_cc, Sm.mLook, sizeLine_eq, Sm.mFrz, Sm.mMove, Sm.mChk, Sm.dAt, Sm.mTyp, Sm.ndT, Sm.mUpd, Sm.dUp, Sm.wAppend, Sm.atI_ev, Sm.sIx_n, Sm.sIx_s, Sm.cNz, Sm.cutD, e1, e2, fres_map fre_I]
  refine Rt_forT (I := fun i ρ => ∃ (acc : List (Str × Str × List (Str × Vl))) (x4 x5 x8 : Option D), acc = (its.take i).flatMap wo ∧ acc.length ≤ 3 * i ∧ ρ = [some (.sh (.n .kl (ns.map D.int))), some (dTp t'), some (.tup [.tup kd, .tup (its.map dI4)]), some (.lst (acc.map dO)), x4, x5, none, none, x8]) ⟨[], _, _, _, rfl, by simp, rfl⟩ ?_ ?_
  · rintro J i it hit hJ ρ ⟨acc, x4, x5, x8, ha, hb, rfl⟩
    refine ⟨_, by simp; rfl, ?_⟩
    have hin := List.getElem?_eq_some_iff.mp hit
    have hm : it ∈ its := by
      rw [← hin.2]
      exact List.getElem_mem hin.1
    have hi' := hin.1
    have tk : (its.take (i + 1)).flatMap wo = acc ++ wo it := by
      rw [List.take_succ, hit]
      simp [ha]
    have ok := hi it hm
    have l1 : acc.length < 16777216 := by omega
    cases it with
    | keep n =>
      simp [Sm.ev_mcall, Sm.ev_aug, Sm.aDs_n, Sm.aDs_v, Sm.aDs_b, Sm.aDs_i, Sm.shrJ_cc, Sm.mLook, sizeLine_eq, Sm.mFrz, Sm.mMove, Sm.mChk, Sm.dAt, Sm.mTyp, Sm.ndT, Sm.mUpd, Sm.dUp, Sm.wAppend, Sm.atI_ev, Sm.sIx_n, Sm.sIx_s, Sm.cNz, Sm.cutD, dI4]
      exact Nx_next.mpr (hJ _ ⟨acc, _, _, _, by rw [tk]; simp [wo], by omega, rfl⟩)
    | most n =>
      simp [Sm.ev_mcall, Sm.ev_aug, Sm.aDs_n, Sm.aDs_v, Sm.aDs_b, Sm.aDs_i, Sm.shrJ_cc, Sm.mLook, sizeLine_eq, Sm.mFrz, Sm.mMove, Sm.mChk, Sm.dAt, Sm.mTyp, Sm.ndT, Sm.mUpd, Sm.dUp, Sm.wAppend, Sm.atI_ev, Sm.sIx_n, Sm.sIx_s, Sm.cNz, Sm.cutD, dI4]
      exact Nx_next.mpr (hJ _ ⟨acc, _, _, _, by rw [tk]; simp [wo], by omega, rfl⟩)
    | adopt n m =>
      simp [Sm.ev_mcall, Sm.ev_aug, Sm.aDs_n, Sm.aDs_v, Sm.aDs_b, Sm.aDs_i, Sm.shrJ_cc, Sm.mLook, sizeLine_eq, Sm.mFrz, Sm.mMove, Sm.mChk, Sm.dAt, Sm.mTyp, Sm.ndT, Sm.mUpd, Sm.dUp, Sm.wAppend, Sm.atI_ev, Sm.sIx_n, Sm.sIx_s, Sm.cNz, Sm.cutD, dI4]
      exact Nx_next.mpr (hJ _ ⟨acc, _, _, _, by rw [tk]; simp [wo], by omega, rfl⟩)
    | move n m =>
      simp [Sm.ev_mcall, Sm.ev_aug, Sm.aDs_n, Sm.aDs_v, Sm.aDs_b, Sm.aDs_i, Sm.shrJ_cc, Sm.mLook, sizeLine_eq, Sm.mFrz, Sm.mMove, Sm.mChk, Sm.dAt, Sm.mTyp, Sm.ndT, Sm.mUpd, Sm.dUp, Sm.wAppend, Sm.atI_ev, Sm.sIx_n, Sm.sIx_s, Sm.cNz, Sm.cutD, dI4]
      exact Nx_next.mpr (hJ _ ⟨acc, _, _, _, by rw [tk]; simp [wo], by omega, rfl⟩)
    | thing n c k vs =>
      obtain ⟨hn, hc, hv, hvs⟩ := ok
      cases c with
      | none =>
        simp [Sm.ev_mcall, Sm.ev_aug, Sm.aDs_n, Sm.aDs_v, Sm.aDs_b, Sm.aDs_i, Sm.shrJ_cc, Sm.mLook, sizeLine_eq, Sm.mFrz, Sm.mMove, Sm.mChk, Sm.dAt, Sm.mTyp, Sm.ndT, Sm.mUpd, Sm.dUp, Sm.wAppend, Sm.atI_ev, Sm.sIx_n, Sm.sIx_s, Sm.cNz, Sm.cutD, dI4, dC, fres_map fre_F, l1]
        rw [snocO]
        exact Nx_next.mpr (hJ _ ⟨_, _, _, _, by rw [tk]; rfl, by simp; omega, rfl⟩)
      | some c =>
        have hc := hc c rfl
        simp [Sm.ev_mcall, Sm.ev_aug, Sm.aDs_n, Sm.aDs_v, Sm.aDs_b, Sm.aDs_i, Sm.shrJ_cc, Sm.mLook, sizeLine_eq, Sm.mFrz, Sm.mMove, Sm.mChk, Sm.dAt, Sm.mTyp, Sm.ndT, Sm.mUpd, Sm.dUp, Sm.wAppend, Sm.atI_ev, Sm.sIx_n, Sm.sIx_s, Sm.cNz, Sm.cutD, dI4, dC, fres_map fre_F, l1, rng (show c < 1000000 by omega)]
        refine Nx_forT0 (I := fun j ρ => ∃ (x5 x8 : Option D), ρ = [some (.sh (.n .kl (ns.map D.int))), some (dTp t'), some (.tup [.tup kd, .tup (its.map dI4)]), some (.lst ((acc ++ (List.range' 0 j).map (w1 n k vs)).map dO)), some (dI4 (.thing n (some c) k vs)), x5, none, none, x8]) ⟨_, _, by simp [dI4, dC]; exact ⟨rfl, rfl⟩⟩ ?_ ?_
        · rintro J' i' j' hj' hJ' ρ ⟨x5, x8, rfl⟩
          obtain ⟨rfl, hi''⟩ := rng_get hj'
          refine ⟨_, by simp; rfl, ?_⟩
          have lc := lc_map (δ := dF) (ε := fun p => dF (cpF j' p)) (own := [6, 7]) (g := (gTupN 2 (gsCons (gSetC 6) (gsCons (gSetC 7) (gsNil))))) (e := (mb (mCons (mVar 6) (mCons (mb (kVal (mVar 7) (kVal (mVar 5) (kNil))) (mCall true [false, false] (f__law_copy_of))) (mNil))) mTupN))
            (ρ := [some (.sh (.n .kl (ns.map D.int))), some (dTp t'), some (.tup [.tup kd, .tup (its.map dI4)]), some (.lst ((acc ++ (List.range' 0 j').map (w1 n k vs)).map dO)), some (dI4 (.thing n (some c) k vs)), some (.int j'), none, none, x8]) (xs := vs) (acc := []) (fun p hp => by
              refine ⟨_, by simp [dF]; rfl, ?_⟩
              have q := copyL p.2 j' (hvs p hp) (by omega)
              simp [Sm.ev_mcall, Sm.ev_aug, Sm.aDs_n, Sm.aDs_v, Sm.aDs_b, Sm.aDs_i, Sm.shrJ_cc, Sm.mLook, sizeLine_eq, Sm.mFrz, Sm.mMove, Sm.mChk, Sm.dAt, Sm.mTyp, Sm.ndT, Sm.mUpd, Sm.dUp, Sm.wAppend, Sm.atI_ev, Sm.sIx_n, Sm.sIx_s, Sm.cNz, Sm.cutD, q]
              rfl) (by simp [sizeLine_eq]; omega)
          have s1 := tksI j' (by omega)
          have s2 := addS (name_len hn (k := j') (by omega)).1
          have s3 := addS (name_len hn (k := j') (by omega)).2
          simp only [dI4, dC] at lc
          simp [Sm.ev_mcall, Sm.ev_aug, Sm.aDs_n, Sm.aDs_v, Sm.aDs_b, Sm.aDs_i, Sm.shrJ_cc, Sm.mLook, sizeLine_eq, Sm.mFrz, Sm.mMove, Sm.mChk, Sm.dAt, Sm.mTyp, Sm.ndT, Sm.mUpd, Sm.dUp, Sm.wAppend, Sm.atI_ev, Sm.sIx_n, Sm.sIx_s, Sm.cNz, Sm.cutD, fres_map fre_F, dI4, dC]
          simp at lc
          rw [lc]
          have l2 : acc.length + j' < 16777216 := by omega
          have f2 : ∀ f : Str × Vl → D, (∀ x, fre (f x) = true) → fres (vs.map f) = true := fun f hf => fres_map hf vs
          simp [Sm.ev_mcall, Sm.ev_aug, Sm.aDs_n, Sm.aDs_v, Sm.aDs_b, Sm.aDs_i, Sm.shrJ_cc, Sm.mLook, sizeLine_eq, Sm.mFrz, Sm.mMove, Sm.mChk, Sm.dAt, Sm.mTyp, Sm.ndT, Sm.mUpd, Sm.dUp, Sm.wAppend, Sm.atI_ev, Sm.sIx_n, Sm.sIx_s, Sm.cNz, Sm.cutD, s1, s2, s3, l2, f2 _ (fun x => fre_F (cpF j' x))]
          have e : (acc ++ (List.range' 0 (j' + 1)).map (w1 n k vs)).map dO = acc.map dO ++ ((List.range' 0 j').map (dO ∘ w1 n k vs) ++ [D.tup [.str (n ++ "." ++ tks j'), .str k, .tup (vs.map fun p => dF (cpF j' p))]]) := by
            rw [List.range'_1_concat]
            simp [dO, w1]
          rw [← e]
          exact Nx_next.mpr (hJ' _ ⟨_, _, rfl⟩)
        · rintro ρ ⟨x5, x8, rfl⟩
          refine hJ _ ⟨acc ++ (List.range' 0 c).map (w1 n k vs), _, _, _, by rw [tk]; rfl, ?_, by rw [List.length_range']⟩
          simp
          omega
  · rintro ρ ⟨acc, x4, x5, x8, ha, hb, rfl⟩
    rw [List.take_length] at ha
    subst ha
    have w := written_ok (kd := .tup kd) (by rw [ev_fret, fk]; rfl) hl hi
    have s := same_O hl hi
    simp [Sm.ev_mcall, Sm.ev_aug, Sm.aDs_n, Sm.aDs_v, Sm.aDs_b, Sm.aDs_i, Sm.shrJ_cc, Sm.mLook, sizeLine_eq, Sm.mFrz, Sm.mMove, Sm.mChk, Sm.dAt, Sm.mTyp, Sm.ndT, Sm.mUpd, Sm.dUp, Sm.wAppend, Sm.atI_ev, Sm.sIx_n, Sm.sIx_s, Sm.cNz, Sm.cutD, w, fk, fres_map fre_I, fres_map fre_O, s]
    exact Rt_ret.mpr (hP _ _ _ rfl ⟨rfl, rfl⟩)
end Pf

namespace Pf
open PySem PySem.Spec PyProof.Rows L2 Sm
def top (i : Nat) : Stmt := PySem.Challenge.pw_settledland_k04_things_written_out.main.body.getD i (.Pass ⟨0, 0, 0, 0⟩)
abbrev st_with_number : Stmt := top 2
theorem sc_with_number : FnScope ["name", "number"] ["name", "number"] (defScope st_with_number) := ⟨rfl, rfl, rfl, by decide +kernel, rfl, by decide +kernel, by decide +kernel⟩
def d_with_number : He.DefD := ⟨("with_number", none), "with_number", "with_number", defArgs st_with_number, defBody st_with_number, defScope st_with_number, [], []⟩
abbrev st_value_of_copy : Stmt := top 3
theorem sc_value_of_copy : FnScope ["value", "number"] ["value", "number"] (defScope st_value_of_copy) := ⟨rfl, rfl, rfl, by decide +kernel, rfl, by decide +kernel, by decide +kernel⟩
def d_value_of_copy : He.DefD := ⟨("value_of_copy", none), "value_of_copy", "value_of_copy", defArgs st_value_of_copy, defBody st_value_of_copy, defScope st_value_of_copy, [], []⟩
abbrev st_written_out : Stmt := top 4
theorem sc_written_out : FnScope ["tree", "result", "item", "_", "name", "count", "kind", "values", "number", "field", "value", "copies"] ["tree"] (defScope st_written_out) := ⟨rfl, rfl, rfl, by decide +kernel, rfl, by decide +kernel, by decide +kernel⟩
def d_written_out : He.DefD := ⟨("written_out", none), "written_out", "written_out", defArgs st_written_out, defBody st_written_out, defScope st_written_out, [], []⟩
abbrev st__law_tape : Stmt := top 6
theorem sc__law_tape : FnScope ["_law_script", "_law_cell", "_law_cells", "_law_seed"] ["_law_script"] (defScope st__law_tape) := ⟨rfl, rfl, rfl, by decide +kernel, rfl, by decide +kernel, by decide +kernel⟩
def d__law_tape : He.DefD := ⟨("_law_tape", none), "_law_tape", "_law_tape", defArgs st__law_tape, defBody st__law_tape, defScope st__law_tape, [], []⟩
abbrev st__law_take : Stmt := top 7
theorem sc__law_take : FnScope ["_law_tape_here", "_law_many", "_law_drawn", "_law_mixed"] ["_law_tape_here", "_law_many"] (defScope st__law_take) := ⟨rfl, rfl, rfl, by decide +kernel, rfl, by decide +kernel, by decide +kernel⟩
def d__law_take : He.DefD := ⟨("_law_take", none), "_law_take", "_law_take", defArgs st__law_take, defBody st__law_take, defScope st__law_take, [], []⟩
abbrev st__law_is_integer : Stmt := top 8
theorem sc__law_is_integer : FnScope ["_law_actual"] ["_law_actual"] (defScope st__law_is_integer) := ⟨rfl, rfl, rfl, by decide +kernel, rfl, by decide +kernel, by decide +kernel⟩
def d__law_is_integer : He.DefD := ⟨("_law_is_integer", none), "_law_is_integer", "_law_is_integer", defArgs st__law_is_integer, defBody st__law_is_integer, defScope st__law_is_integer, [], []⟩
abbrev st__law_same_items : Stmt := top 9
theorem sc__law_same_items : FnScope ["_law_actual", "_law_expected", "_law_k"] ["_law_actual", "_law_expected"] (defScope st__law_same_items) := ⟨rfl, rfl, rfl, by decide +kernel, rfl, by decide +kernel, by decide +kernel⟩
def d__law_same_items : He.DefD := ⟨("_law_same_items", none), "_law_same_items", "_law_same_items", defArgs st__law_same_items, defBody st__law_same_items, defScope st__law_same_items, [], []⟩
abbrev st__law_same : Stmt := top 10
theorem sc__law_same : FnScope ["_law_actual", "_law_expected", "_law_key"] ["_law_actual", "_law_expected"] (defScope st__law_same) := ⟨rfl, rfl, rfl, by decide +kernel, rfl, by decide +kernel, by decide +kernel⟩
def d__law_same : He.DefD := ⟨("_law_same", none), "_law_same", "_law_same", defArgs st__law_same, defBody st__law_same, defScope st__law_same, [], []⟩
abbrev st__law_value_of : Stmt := top 16
theorem sc__law_value_of : FnScope ["_law_tape_here", "_law_field", "_law_names", "_law_choice"] ["_law_tape_here", "_law_field", "_law_names"] (defScope st__law_value_of) := ⟨rfl, rfl, rfl, by decide +kernel, rfl, by decide +kernel, by decide +kernel⟩
def d__law_value_of : He.DefD := ⟨("_law_value_of", none), "_law_value_of", "_law_value_of", defArgs st__law_value_of, defBody st__law_value_of, defScope st__law_value_of, [], []⟩
abbrev st__law_any_tree : Stmt := top 17
theorem sc__law_any_tree : FnScope ["_law_tape_here", "_law_names", "_law_kinds", "_law_k", "_law_fields", "_law_j", "_law_word", "_law_marks", "_law_target", "_law_items", "_law_name_here", "_law_choice", "_law_values", "_law_field", "_law_count"] ["_law_tape_here"] (defScope st__law_any_tree) := ⟨rfl, rfl, rfl, by decide +kernel, rfl, by decide +kernel, by decide +kernel⟩
def d__law_any_tree : He.DefD := ⟨("_law_any_tree", none), "_law_any_tree", "_law_any_tree", defArgs st__law_any_tree, defBody st__law_any_tree, defScope st__law_any_tree, [], []⟩
abbrev st__law_name : Stmt := top 22
theorem sc__law_name : FnScope ["_law_name_here", "_law_number", "_law_char"] ["_law_name_here", "_law_number"] (defScope st__law_name) := ⟨rfl, rfl, rfl, by decide +kernel, rfl, by decide +kernel, by decide +kernel⟩
def d__law_name : He.DefD := ⟨("_law_name", none), "_law_name", "_law_name", defArgs st__law_name, defBody st__law_name, defScope st__law_name, [], []⟩
abbrev st__law_copy_of : Stmt := top 23
theorem sc__law_copy_of : FnScope ["_law_value", "_law_number"] ["_law_value", "_law_number"] (defScope st__law_copy_of) := ⟨rfl, rfl, rfl, by decide +kernel, rfl, by decide +kernel, by decide +kernel⟩
def d__law_copy_of : He.DefD := ⟨("_law_copy_of", none), "_law_copy_of", "_law_copy_of", defArgs st__law_copy_of, defBody st__law_copy_of, defScope st__law_copy_of, [], []⟩
abbrev st_law : Stmt := top 24
theorem sc_law : FnScope ["_law_script", "_law_tape_here", "_law_tree", "_law_expected", "_law_item", "_law_k", "_law_field", "_law_value", "_law_values"] ["_law_script"] (defScope st_law) := ⟨rfl, rfl, rfl, by decide +kernel, rfl, by decide +kernel, by decide +kernel⟩
def d_law : He.DefD := ⟨("law", none), "law", "law", defArgs st_law, defBody st_law, defScope st_law, [], []⟩
def fn : List He.DefD := [d_with_number, d_value_of_copy, d_written_out, d__law_tape, d__law_take, d__law_is_integer, d__law_same_items, d__law_same, d__law_value_of, d__law_any_tree, d__law_name, d__law_copy_of, d_law]
def fa : List He.Fa := [.free "str", .int "SIZE" 4294967296, .glo "with_number", .free "range", .free "tuple", .glo "value_of_copy", .free "abs", .free "int", .free "len", .free "isinstance", .free "bool", .glo "_law_same", .glo "_law_is_integer", .glo "_law_same_items", .free "list", .free "dict", .glo "_law_take", .glo "_law_value_of", .glo "_law_name", .glo "_law_tape", .glo "_law_any_tree", .glo "_law_copy_of", .glo "written_out", .glo "law"]
def ex (K : PySem.W.Frag) : Bool := true
structure Zs (K : PySem.W.Frag) (mg : Str → Option Value) (hh : Heap) : Prop where
  x : K.In hh
  g : hh.Ns mainGlobals mg
  c : He.SaysD fa fn K
section
variable {K : PySem.W.Frag} {mg : Str → Option Value} {hh : Heap}
theorem g_str (Z : Zs K mg hh) : mg "str" = none := He.free_ok Z.x Z.g (Z.c.fact 0 (f := .free "str") rfl)
theorem g_SIZE (Z : Zs K mg hh) : ∃ t, mg "SIZE" = some (.int 4294967296 t) := He.int_ok Z.x Z.g (Z.c.fact 1 (f := .int "SIZE" 4294967296) rfl)
theorem g_with_number (Z : Zs K mg hh) : mg "with_number" = some (.ref (He.fAd K ("with_number", none))) := He.glo_ok Z.x Z.g (Z.c.fact 2 (f := .glo "with_number") rfl)
theorem g_range (Z : Zs K mg hh) : mg "range" = none := He.free_ok Z.x Z.g (Z.c.fact 3 (f := .free "range") rfl)
theorem g_tuple (Z : Zs K mg hh) : mg "tuple" = none := He.free_ok Z.x Z.g (Z.c.fact 4 (f := .free "tuple") rfl)
theorem g_value_of_copy (Z : Zs K mg hh) : mg "value_of_copy" = some (.ref (He.fAd K ("value_of_copy", none))) := He.glo_ok Z.x Z.g (Z.c.fact 5 (f := .glo "value_of_copy") rfl)
theorem g_abs (Z : Zs K mg hh) : mg "abs" = none := He.free_ok Z.x Z.g (Z.c.fact 6 (f := .free "abs") rfl)
theorem g_int (Z : Zs K mg hh) : mg "int" = none := He.free_ok Z.x Z.g (Z.c.fact 7 (f := .free "int") rfl)
theorem g_len (Z : Zs K mg hh) : mg "len" = none := He.free_ok Z.x Z.g (Z.c.fact 8 (f := .free "len") rfl)
theorem g_isinstance (Z : Zs K mg hh) : mg "isinstance" = none := He.free_ok Z.x Z.g (Z.c.fact 9 (f := .free "isinstance") rfl)
theorem g_bool (Z : Zs K mg hh) : mg "bool" = none := He.free_ok Z.x Z.g (Z.c.fact 10 (f := .free "bool") rfl)
theorem g__law_same (Z : Zs K mg hh) : mg "_law_same" = some (.ref (He.fAd K ("_law_same", none))) := He.glo_ok Z.x Z.g (Z.c.fact 11 (f := .glo "_law_same") rfl)
theorem g__law_is_integer (Z : Zs K mg hh) : mg "_law_is_integer" = some (.ref (He.fAd K ("_law_is_integer", none))) := He.glo_ok Z.x Z.g (Z.c.fact 12 (f := .glo "_law_is_integer") rfl)
theorem g__law_same_items (Z : Zs K mg hh) : mg "_law_same_items" = some (.ref (He.fAd K ("_law_same_items", none))) := He.glo_ok Z.x Z.g (Z.c.fact 13 (f := .glo "_law_same_items") rfl)
theorem g_list (Z : Zs K mg hh) : mg "list" = none := He.free_ok Z.x Z.g (Z.c.fact 14 (f := .free "list") rfl)
theorem g_dict (Z : Zs K mg hh) : mg "dict" = none := He.free_ok Z.x Z.g (Z.c.fact 15 (f := .free "dict") rfl)
theorem g__law_take (Z : Zs K mg hh) : mg "_law_take" = some (.ref (He.fAd K ("_law_take", none))) := He.glo_ok Z.x Z.g (Z.c.fact 16 (f := .glo "_law_take") rfl)
theorem g__law_value_of (Z : Zs K mg hh) : mg "_law_value_of" = some (.ref (He.fAd K ("_law_value_of", none))) := He.glo_ok Z.x Z.g (Z.c.fact 17 (f := .glo "_law_value_of") rfl)
theorem g__law_name (Z : Zs K mg hh) : mg "_law_name" = some (.ref (He.fAd K ("_law_name", none))) := He.glo_ok Z.x Z.g (Z.c.fact 18 (f := .glo "_law_name") rfl)
theorem g__law_tape (Z : Zs K mg hh) : mg "_law_tape" = some (.ref (He.fAd K ("_law_tape", none))) := He.glo_ok Z.x Z.g (Z.c.fact 19 (f := .glo "_law_tape") rfl)
theorem g__law_any_tree (Z : Zs K mg hh) : mg "_law_any_tree" = some (.ref (He.fAd K ("_law_any_tree", none))) := He.glo_ok Z.x Z.g (Z.c.fact 20 (f := .glo "_law_any_tree") rfl)
theorem g__law_copy_of (Z : Zs K mg hh) : mg "_law_copy_of" = some (.ref (He.fAd K ("_law_copy_of", none))) := He.glo_ok Z.x Z.g (Z.c.fact 21 (f := .glo "_law_copy_of") rfl)
theorem g_written_out (Z : Zs K mg hh) : mg "written_out" = some (.ref (He.fAd K ("written_out", none))) := He.glo_ok Z.x Z.g (Z.c.fact 22 (f := .glo "written_out") rfl)
theorem g_law (Z : Zs K mg hh) : mg "law" = some (.ref (He.fAd K ("law", none))) := He.glo_ok Z.x Z.g (Z.c.fact 23 (f := .glo "law") rfl)
theorem x_with_number (Z : Zs K mg hh) : ∃ fd, FunD K "with_number" "with_number" (defArgs st_with_number) (defBody st_with_number) (defScope st_with_number) [] [] (He.fAd K ("with_number", none)) fd := Z.c.def_ 0 (d := d_with_number) rfl
noncomputable def fd_with_number (Z : Zs K mg hh) : FuncData := (x_with_number Z).choose
theorem F_with_number (Z : Zs K mg hh) : FunD K "with_number" "with_number" (defArgs st_with_number) (defBody st_with_number) (defScope st_with_number) [] [] (He.fAd K ("with_number", none)) (fd_with_number Z) := (x_with_number Z).choose_spec
theorem b_with_number (Z : Zs K mg hh) : Binds K (fd_with_number Z) ["name", "number"] [] := (F_with_number Z).bindsN fun _ _ _ _ _ _ us hl => match us, hl with | [_, _], _ => rfl
theorem x_value_of_copy (Z : Zs K mg hh) : ∃ fd, FunD K "value_of_copy" "value_of_copy" (defArgs st_value_of_copy) (defBody st_value_of_copy) (defScope st_value_of_copy) [] [] (He.fAd K ("value_of_copy", none)) fd := Z.c.def_ 1 (d := d_value_of_copy) rfl
noncomputable def fd_value_of_copy (Z : Zs K mg hh) : FuncData := (x_value_of_copy Z).choose
theorem F_value_of_copy (Z : Zs K mg hh) : FunD K "value_of_copy" "value_of_copy" (defArgs st_value_of_copy) (defBody st_value_of_copy) (defScope st_value_of_copy) [] [] (He.fAd K ("value_of_copy", none)) (fd_value_of_copy Z) := (x_value_of_copy Z).choose_spec
theorem b_value_of_copy (Z : Zs K mg hh) : Binds K (fd_value_of_copy Z) ["value", "number"] [] := (F_value_of_copy Z).bindsN fun _ _ _ _ _ _ us hl => match us, hl with | [_, _], _ => rfl
theorem x_written_out (Z : Zs K mg hh) : ∃ fd, FunD K "written_out" "written_out" (defArgs st_written_out) (defBody st_written_out) (defScope st_written_out) [] [] (He.fAd K ("written_out", none)) fd := Z.c.def_ 2 (d := d_written_out) rfl
noncomputable def fd_written_out (Z : Zs K mg hh) : FuncData := (x_written_out Z).choose
theorem F_written_out (Z : Zs K mg hh) : FunD K "written_out" "written_out" (defArgs st_written_out) (defBody st_written_out) (defScope st_written_out) [] [] (He.fAd K ("written_out", none)) (fd_written_out Z) := (x_written_out Z).choose_spec
theorem b_written_out (Z : Zs K mg hh) : Binds K (fd_written_out Z) ["tree"] [] := (F_written_out Z).bindsN fun _ _ _ _ _ _ us hl => match us, hl with | [_], _ => rfl
theorem x__law_tape (Z : Zs K mg hh) : ∃ fd, FunD K "_law_tape" "_law_tape" (defArgs st__law_tape) (defBody st__law_tape) (defScope st__law_tape) [] [] (He.fAd K ("_law_tape", none)) fd := Z.c.def_ 3 (d := d__law_tape) rfl
noncomputable def fd__law_tape (Z : Zs K mg hh) : FuncData := (x__law_tape Z).choose
theorem F__law_tape (Z : Zs K mg hh) : FunD K "_law_tape" "_law_tape" (defArgs st__law_tape) (defBody st__law_tape) (defScope st__law_tape) [] [] (He.fAd K ("_law_tape", none)) (fd__law_tape Z) := (x__law_tape Z).choose_spec
theorem b__law_tape (Z : Zs K mg hh) : Binds K (fd__law_tape Z) ["_law_script"] [] := (F__law_tape Z).bindsN fun _ _ _ _ _ _ us hl => match us, hl with | [_], _ => rfl
theorem x__law_take (Z : Zs K mg hh) : ∃ fd, FunD K "_law_take" "_law_take" (defArgs st__law_take) (defBody st__law_take) (defScope st__law_take) [] [] (He.fAd K ("_law_take", none)) fd := Z.c.def_ 4 (d := d__law_take) rfl
noncomputable def fd__law_take (Z : Zs K mg hh) : FuncData := (x__law_take Z).choose
theorem F__law_take (Z : Zs K mg hh) : FunD K "_law_take" "_law_take" (defArgs st__law_take) (defBody st__law_take) (defScope st__law_take) [] [] (He.fAd K ("_law_take", none)) (fd__law_take Z) := (x__law_take Z).choose_spec
theorem b__law_take (Z : Zs K mg hh) : Binds K (fd__law_take Z) ["_law_tape_here", "_law_many"] [] := (F__law_take Z).bindsN fun _ _ _ _ _ _ us hl => match us, hl with | [_, _], _ => rfl
theorem x__law_is_integer (Z : Zs K mg hh) : ∃ fd, FunD K "_law_is_integer" "_law_is_integer" (defArgs st__law_is_integer) (defBody st__law_is_integer) (defScope st__law_is_integer) [] [] (He.fAd K ("_law_is_integer", none)) fd := Z.c.def_ 5 (d := d__law_is_integer) rfl
noncomputable def fd__law_is_integer (Z : Zs K mg hh) : FuncData := (x__law_is_integer Z).choose
theorem F__law_is_integer (Z : Zs K mg hh) : FunD K "_law_is_integer" "_law_is_integer" (defArgs st__law_is_integer) (defBody st__law_is_integer) (defScope st__law_is_integer) [] [] (He.fAd K ("_law_is_integer", none)) (fd__law_is_integer Z) := (x__law_is_integer Z).choose_spec
theorem b__law_is_integer (Z : Zs K mg hh) : Binds K (fd__law_is_integer Z) ["_law_actual"] [] := (F__law_is_integer Z).bindsN fun _ _ _ _ _ _ us hl => match us, hl with | [_], _ => rfl
theorem x__law_same_items (Z : Zs K mg hh) : ∃ fd, FunD K "_law_same_items" "_law_same_items" (defArgs st__law_same_items) (defBody st__law_same_items) (defScope st__law_same_items) [] [] (He.fAd K ("_law_same_items", none)) fd := Z.c.def_ 6 (d := d__law_same_items) rfl
noncomputable def fd__law_same_items (Z : Zs K mg hh) : FuncData := (x__law_same_items Z).choose
theorem F__law_same_items (Z : Zs K mg hh) : FunD K "_law_same_items" "_law_same_items" (defArgs st__law_same_items) (defBody st__law_same_items) (defScope st__law_same_items) [] [] (He.fAd K ("_law_same_items", none)) (fd__law_same_items Z) := (x__law_same_items Z).choose_spec
theorem b__law_same_items (Z : Zs K mg hh) : Binds K (fd__law_same_items Z) ["_law_actual", "_law_expected"] [] := (F__law_same_items Z).bindsN fun _ _ _ _ _ _ us hl => match us, hl with | [_, _], _ => rfl
theorem x__law_same (Z : Zs K mg hh) : ∃ fd, FunD K "_law_same" "_law_same" (defArgs st__law_same) (defBody st__law_same) (defScope st__law_same) [] [] (He.fAd K ("_law_same", none)) fd := Z.c.def_ 7 (d := d__law_same) rfl
noncomputable def fd__law_same (Z : Zs K mg hh) : FuncData := (x__law_same Z).choose
theorem F__law_same (Z : Zs K mg hh) : FunD K "_law_same" "_law_same" (defArgs st__law_same) (defBody st__law_same) (defScope st__law_same) [] [] (He.fAd K ("_law_same", none)) (fd__law_same Z) := (x__law_same Z).choose_spec
theorem b__law_same (Z : Zs K mg hh) : Binds K (fd__law_same Z) ["_law_actual", "_law_expected"] [] := (F__law_same Z).bindsN fun _ _ _ _ _ _ us hl => match us, hl with | [_, _], _ => rfl
theorem x__law_value_of (Z : Zs K mg hh) : ∃ fd, FunD K "_law_value_of" "_law_value_of" (defArgs st__law_value_of) (defBody st__law_value_of) (defScope st__law_value_of) [] [] (He.fAd K ("_law_value_of", none)) fd := Z.c.def_ 8 (d := d__law_value_of) rfl
noncomputable def fd__law_value_of (Z : Zs K mg hh) : FuncData := (x__law_value_of Z).choose
theorem F__law_value_of (Z : Zs K mg hh) : FunD K "_law_value_of" "_law_value_of" (defArgs st__law_value_of) (defBody st__law_value_of) (defScope st__law_value_of) [] [] (He.fAd K ("_law_value_of", none)) (fd__law_value_of Z) := (x__law_value_of Z).choose_spec
theorem b__law_value_of (Z : Zs K mg hh) : Binds K (fd__law_value_of Z) ["_law_tape_here", "_law_field", "_law_names"] [] := (F__law_value_of Z).bindsN fun _ _ _ _ _ _ us hl => match us, hl with | [_, _, _], _ => rfl
theorem x__law_any_tree (Z : Zs K mg hh) : ∃ fd, FunD K "_law_any_tree" "_law_any_tree" (defArgs st__law_any_tree) (defBody st__law_any_tree) (defScope st__law_any_tree) [] [] (He.fAd K ("_law_any_tree", none)) fd := Z.c.def_ 9 (d := d__law_any_tree) rfl
noncomputable def fd__law_any_tree (Z : Zs K mg hh) : FuncData := (x__law_any_tree Z).choose
theorem F__law_any_tree (Z : Zs K mg hh) : FunD K "_law_any_tree" "_law_any_tree" (defArgs st__law_any_tree) (defBody st__law_any_tree) (defScope st__law_any_tree) [] [] (He.fAd K ("_law_any_tree", none)) (fd__law_any_tree Z) := (x__law_any_tree Z).choose_spec
theorem b__law_any_tree (Z : Zs K mg hh) : Binds K (fd__law_any_tree Z) ["_law_tape_here"] [] := (F__law_any_tree Z).bindsN fun _ _ _ _ _ _ us hl => match us, hl with | [_], _ => rfl
theorem x__law_name (Z : Zs K mg hh) : ∃ fd, FunD K "_law_name" "_law_name" (defArgs st__law_name) (defBody st__law_name) (defScope st__law_name) [] [] (He.fAd K ("_law_name", none)) fd := Z.c.def_ 10 (d := d__law_name) rfl
noncomputable def fd__law_name (Z : Zs K mg hh) : FuncData := (x__law_name Z).choose
theorem F__law_name (Z : Zs K mg hh) : FunD K "_law_name" "_law_name" (defArgs st__law_name) (defBody st__law_name) (defScope st__law_name) [] [] (He.fAd K ("_law_name", none)) (fd__law_name Z) := (x__law_name Z).choose_spec
theorem b__law_name (Z : Zs K mg hh) : Binds K (fd__law_name Z) ["_law_name_here", "_law_number"] [] := (F__law_name Z).bindsN fun _ _ _ _ _ _ us hl => match us, hl with | [_, _], _ => rfl
theorem x__law_copy_of (Z : Zs K mg hh) : ∃ fd, FunD K "_law_copy_of" "_law_copy_of" (defArgs st__law_copy_of) (defBody st__law_copy_of) (defScope st__law_copy_of) [] [] (He.fAd K ("_law_copy_of", none)) fd := Z.c.def_ 11 (d := d__law_copy_of) rfl
noncomputable def fd__law_copy_of (Z : Zs K mg hh) : FuncData := (x__law_copy_of Z).choose
theorem F__law_copy_of (Z : Zs K mg hh) : FunD K "_law_copy_of" "_law_copy_of" (defArgs st__law_copy_of) (defBody st__law_copy_of) (defScope st__law_copy_of) [] [] (He.fAd K ("_law_copy_of", none)) (fd__law_copy_of Z) := (x__law_copy_of Z).choose_spec
theorem b__law_copy_of (Z : Zs K mg hh) : Binds K (fd__law_copy_of Z) ["_law_value", "_law_number"] [] := (F__law_copy_of Z).bindsN fun _ _ _ _ _ _ us hl => match us, hl with | [_, _], _ => rfl
theorem x_law (Z : Zs K mg hh) : ∃ fd, FunD K "law" "law" (defArgs st_law) (defBody st_law) (defScope st_law) [] [] (He.fAd K ("law", none)) fd := Z.c.def_ 12 (d := d_law) rfl
noncomputable def fd_law (Z : Zs K mg hh) : FuncData := (x_law Z).choose
theorem F_law (Z : Zs K mg hh) : FunD K "law" "law" (defArgs st_law) (defBody st_law) (defScope st_law) [] [] (He.fAd K ("law", none)) (fd_law Z) := (x_law Z).choose_spec
theorem b_law (Z : Zs K mg hh) : Binds K (fd_law Z) ["_law_script"] [] := (F_law Z).bindsN fun _ _ _ _ _ _ us hl => match us, hl with | [_], _ => rfl
theorem ok_with_number (Z : Zs K mg hh) {P : Program} {w : World} {base : Heap} : FnT P w K mg base (CX P w) 1 (He.fAd K ("with_number", none)) (fd_with_number Z) ["name", "number"] (spF K [false, false] f_with_number) := by
  refine fnT_ok (F_with_number Z) sc_with_number rfl fun cdv A outer s H E B vs hr => ?_
  have hu := hu_of hr
  exact bT_ret (w_repl (s_look 0) (s_look 1) rfl (g_str Z))
theorem ok_value_of_copy (Z : Zs K mg hh) {P : Program} {w : World} {base : Heap} : FnOk P w K mg base (CX P w) 2 (He.fAd K ("value_of_copy", none)) (fd_value_of_copy Z) ["value", "number"] (spF K [false, false] f_value_of_copy) := by
  refine fn_ok (F_value_of_copy Z) sc_value_of_copy rfl fun cdv A outer s H E B vs hr => ?_
  have hu := hu_of hr
  exact b_cons (c_if (t_cmpV op_eq (rd_eq) (v_subs hu (s_look 0) (T.tv (s_int))) (T.tv (s_str))) (b_one (c_ret (s_tup (sh_cons (s_str) (sh_cons (s_binV op_modN (rd_I cNz_ok) (T.tv (s_binV op_addT (rd_addT) (v_subs hu (s_look 0) (T.tv (s_int))) (s_look 1))) (T.tv (s_gint rfl (g_SIZE Z)))) (sh_nil)))))) (b_nil))
          (b_cons (c_if (t_cmpV op_eq (rd_eq) (v_subs hu (s_look 0) (T.tv (s_int))) (T.tv (s_str))) (b_one (c_ret (s_tup (sh_tok (hT_cons (s_callT (q := true) (ok_with_number Z) (hr.mono (by decide)) rfl (g_with_number Z) (F_with_number Z).kp (b_with_number Z) pass_c (k_val (TV.t (v_subs hu (s_look 0) (T.tv (s_int)))) (k_val (s_var 1) (k_nil)))) (hT_of (sh_nil))))))) (b_nil))
          (b_cons (c_if (t_cmpV op_eq (rd_eq) (v_subs hu (s_look 0) (T.tv (s_int))) (T.tv (s_str))) (b_one (c_ret (s_tup (sh_tok (hT_cons (s_callT (q := true) (ok_with_number Z) (hr.mono (by decide)) rfl (g_with_number Z) (F_with_number Z).kp (b_with_number Z) pass_c (k_val (TV.t (v_subs hu (s_look 0) (T.tv (s_int)))) (k_val (s_var 1) (k_nil)))) (hT_of (sh_cons (TV.t (v_subs hu (s_look 0) (T.tv (s_int)))) (sh_nil)))))))) (b_nil))
          (b_one (c_ret (s_var 0)))))
theorem ok_written_out (Z : Zs K mg hh) {P : Program} {w : World} {base : Heap} : FnOk P w K mg base (CX P w) 3 (He.fAd K ("written_out", none)) (fd_written_out Z) ["tree"] (spF K [false] f_written_out) := by
  refine fn_ok (F_written_out Z) sc_written_out rfl fun cdv A outer s H E B vs hr => ?_
  have hu := hu_of hr
  exact b_cons (c_set (i := 1) (s_lst (sh_nil)) rfl (by first | exact Or.inl rfl | exact Or.inr rfl) sc_written_out.nd rfl rfl)
          (b_cons (c_for (passes_of rfl) rfl (i_any (TV.t (v_subs hu (s_look 0) (T.tv (s_int))))) (g_set (i := 2) rfl (by first | exact Or.inl rfl | exact Or.inr rfl) sc_written_out.nd rfl rfl) (b_cons (c_if (t_cmpV op_ne (rd_ne) (v_subs hu (s_look 2) (T.tv (s_int))) (T.tv (s_str))) (b_one (c_continue)) (b_nil))
          (b_cons (c_asg (s_var 2) (g_tup rfl (gs_cons (g_set (i := 3) rfl (by first | exact Or.inl rfl | exact Or.inr rfl) sc_written_out.nd rfl rfl) (gs_cons (g_set (i := 4) rfl (by first | exact Or.inl rfl | exact Or.inr rfl) sc_written_out.nd rfl rfl) (gs_cons (g_set (i := 5) rfl (by first | exact Or.inl rfl | exact Or.inr rfl) sc_written_out.nd rfl rfl) (gs_cons (g_set (i := 6) rfl (by first | exact Or.inl rfl | exact Or.inr rfl) sc_written_out.nd rfl rfl) (gs_cons (g_set (i := 7) rfl (by first | exact Or.inl rfl | exact Or.inr rfl) sc_written_out.nd rfl rfl) (gs_nil))))))))
          (b_cons (c_if (t_isN (s_look 5)) (b_cons (c_expr (s_bmW PySem.F.plainAttrs_list PySem.F.slot_list_append PySem.F.type_list_append mt_append wr_append (p_name 1) (Ta.lit (sh_cons (s_tup (sh_cons (s_var 4) (sh_cons (s_var 6) (sh_cons (s_var 7) (sh_nil))))) (sh_nil)) rfl)))
          (b_one (c_continue))) (b_nil))
          (b_one (c_for (passes_of rfl) rfl (i_range1 rfl (g_range Z) (sa_cons (s_look 5) (sa_nil))) (g_set (i := 8) rfl (by first | exact Or.inl rfl | exact Or.inr rfl) sc_written_out.nd rfl rfl) (b_cons (c_set (i := 11) (s_tupC rfl (g_tuple Z) (s_lc (own := [("field", 9), ("value", 10)]) rfl sc_written_out.nd (i_any (s_var 7)) (blk_ok (by rfl)) (fun _ _ _ _ _ => gb_tup rfl (gbs_cons (gb_set (i := 9) rfl (by first | exact Or.inl rfl | exact Or.inr rfl) sc_written_out.nd (by decide)) (gbs_cons (gb_set (i := 10) rfl (by first | exact Or.inl rfl | exact Or.inr rfl) sc_written_out.nd (by decide)) (gbs_nil)))) (fun _ _ _ _ _ => ts_nil (E := E0)) (fun _ _ _ _ _ => s_tup (sh_cons (s_var 9) (sh_cons (s_call (q := true) (ok_value_of_copy Z) (hr.mono (by decide)) rfl (g_value_of_copy Z) (F_value_of_copy Z).kp (b_value_of_copy Z) pass_0 (k_val (s_var 10) (k_val (s_var 8) (k_nil)))) (sh_nil)))))) rfl (by first | exact Or.inl rfl | exact Or.inr rfl) sc_written_out.nd rfl rfl)
          (b_one (c_expr (s_bmW PySem.F.plainAttrs_list PySem.F.slot_list_append PySem.F.type_list_append mt_append wr_append (p_name 1) (Ta.lit (sh_cons (s_tup (sh_cons (s_binV op_addT (rd_addT) (T.tv (s_binV op_addT (rd_addT) (s_look 4) (T.tv (s_str)))) (TV.lit (T.tv (s_strC rfl (g_str Z) (sa_cons (s_look 8) (sa_nil)))) rfl)) (sh_cons (s_var 6) (sh_cons (s_var 11) (sh_nil))))) (sh_nil)) rfl)))))))))))
          (b_one (c_ret (s_tupC rfl (g_tuple Z) (s_move 1)))))
theorem ok__law_tape (Z : Zs K mg hh) {P : Program} {w : World} {base : Heap} : FnOk P w K mg base (CX P w) 1 (He.fAd K ("_law_tape", none)) (fd__law_tape Z) ["_law_script"] (spF K [false] f__law_tape) := by
  refine fn_ok (F__law_tape Z) sc__law_tape rfl fun cdv A outer s H E B vs hr => ?_
  have hu := hu_of hr
  exact b_cons (c_setLc (i := 2) (own := [("_law_cell", 1)]) (i_any (s_var 0)) (blk_ok (by rfl)) (fun _ _ _ _ _ => gb_set (i := 1) rfl (by first | exact Or.inl rfl | exact Or.inr rfl) sc__law_tape.nd (by decide)) (fun _ _ _ _ _ => ts_nil (E := E0)) (fun _ _ _ _ _ => s_abs rfl (g_abs Z) (sa_cons (T.tv (s_intC rfl (g_int Z) (sa_cons (s_look 1) (sa_nil)))) (sa_nil))) rfl rfl sc__law_tape.nd rfl rfl (sw_true rfl rfl rfl rfl))
          (b_cons (c_set (i := 3) (s_int) rfl (by first | exact Or.inl rfl | exact Or.inr rfl) sc__law_tape.nd rfl rfl)
          (b_cons (c_for (passes_of rfl) rfl (i_any (s_frz 2)) (g_set (i := 1) rfl (by first | exact Or.inl rfl | exact Or.inr rfl) sc__law_tape.nd rfl rfl) (b_one (c_set (i := 3) (s_binV op_modN (rd_I cNz_ok) (T.tv (s_intC rfl (g_int Z) (sa_cons (T.tv (s_binV op_addT (rd_addT) (T.tv (s_binV op_mul (rd_I cMul_ok) (s_look 3) (T.tv (s_int)))) (s_look 1))) (sa_nil)))) (T.tv (s_int))) rfl (by first | exact Or.inl rfl | exact Or.inr rfl) sc__law_tape.nd rfl rfl)))
          (b_one (c_ret (s_disp (ks := ["cells", "at", "left", "seed", "salt"]) (dp_cons (s_move 2) (dp_cons (s_int) (dp_cons (s_int) (dp_cons (s_var 3) (dp_cons (s_int) (dp_nil)))))) (by decide))))))
theorem ok__law_take (Z : Zs K mg hh) {P : Program} {w : World} {base : Heap} : FnOk P w K mg base (CX P w) 1 (He.fAd K ("_law_take", none)) (fd__law_take Z) ["_law_tape_here", "_law_many"] (spF K [true, false] f__law_take) := by
  refine fn_ok (F__law_take Z) sc__law_take rfl fun cdv A outer s H E B vs hr => ?_
  have hu := hu_of hr
  exact b_cons (c_if (t_w (w_and (t_cmpV op_eq (rd_eq) (v_subs hu (s_look 0) (T.tv (s_str))) (T.tv (s_int))) (w_and1 (t_cmpV op_ltA (rd_lt) (v_subs hu (s_look 0) (T.tv (s_str))) (TV.lit (T.tv (s_len rfl (g_len Z) (sa_cons (v_subs hu (s_look 0) (T.tv (s_str))) (sa_nil)))) rfl))))) (b_cons (c_put hu (p_name 0) (T.tv (s_str)) (TV.t (v_subs hu (v_subs hu (s_look 0) (T.tv (s_str))) (TV.lit (v_subs hu (s_look 0) (T.tv (s_str))) rfl))))
          (b_one (c_put hu (p_name 0) (T.tv (s_str)) (s_binV op_addT (rd_addT) (v_subs hu (s_look 0) (T.tv (s_str))) (T.tv (s_int)))))) (b_nil))
          (b_cons (c_if (t_cmpV op_gtA (rd_gt) (v_subs hu (s_look 0) (T.tv (s_str))) (T.tv (s_int))) (b_cons (c_set (i := 2) (s_binV op_modN (rd_I cNz_ok) (T.tv (s_intC rfl (g_int Z) (sa_cons (v_subs hu (s_look 0) (T.tv (s_str))) (sa_nil)))) (s_look 1)) rfl (by first | exact Or.inl rfl | exact Or.inr rfl) sc__law_take.nd rfl rfl)
          (b_cons (c_put hu (p_name 0) (T.tv (s_str)) (s_binV op_fdivN (rd_I cDivN_ok) (v_subs hu (s_look 0) (T.tv (s_str))) (s_look 1)))
          (b_one (c_ret (s_var 2))))) (b_nil))
          (b_cons (c_put hu (p_name 0) (T.tv (s_str)) (s_binV op_addT (rd_addT) (v_subs hu (s_look 0) (T.tv (s_str))) (T.tv (s_int))))
          (b_cons (c_set (i := 3) (s_binV op_modN (rd_I cNz_ok) (T.tv (s_intC rfl (g_int Z) (sa_cons (T.tv (s_binV op_addT (rd_addT) (T.tv (s_binV op_mul (rd_I cMul_ok) (v_subs hu (s_look 0) (T.tv (s_str))) (T.tv (s_int)))) (TV.lit (T.tv (s_binV op_mul (rd_I cMul_ok) (v_subs hu (s_look 0) (T.tv (s_str))) (T.tv (s_int)))) rfl))) (sa_nil)))) (T.tv (s_int))) rfl (by first | exact Or.inl rfl | exact Or.inr rfl) sc__law_take.nd rfl rfl)
          (b_cons (c_set (i := 3) (s_binV op_modN (rd_I cNz_ok) (T.tv (s_intC rfl (g_int Z) (sa_cons (T.tv (s_binV op_addT (rd_addT) (T.tv (s_binV op_addT (rd_addT) (T.tv (s_binV op_mul (rd_I cMul_ok) (s_look 3) (s_look 3))) (TV.lit (T.tv (s_binV op_mul (rd_I cMul_ok) (v_subs hu (s_look 0) (T.tv (s_str))) (T.tv (s_int)))) rfl))) (T.tv (s_int)))) (sa_nil)))) (T.tv (s_int))) rfl (by first | exact Or.inl rfl | exact Or.inr rfl) sc__law_take.nd rfl rfl)
          (b_one (c_ret (s_binV op_modN (rd_I cNz_ok) (T.tv (s_intC rfl (g_int Z) (sa_cons (s_look 3) (sa_nil)))) (s_look 1))))))))
theorem ok__law_is_integer (Z : Zs K mg hh) {P : Program} {w : World} {base : Heap} : FnOk P w K mg base (CX P w) 1 (He.fAd K ("_law_is_integer", none)) (fd__law_is_integer Z) ["_law_actual"] (spF K [false] f__law_is_integer) := by
  refine fn_ok (F__law_is_integer Z) sc__law_is_integer rfl fun cdv A outer s H E B vs hr => ?_
  have hu := hu_of hr
  exact b_one (c_ret (s_and (s_isi rfl (g_isinstance Z) (sa_cons (s_look 0) (TVa.lit (sa_cons (T.tv (s_ty (n := "int") rfl (g_int Z) (by decide +kernel))) (sa_nil)) rfl))) (s_one (s_not (T.tv (s_isi rfl (g_isinstance Z) (sa_cons (s_look 0) (TVa.lit (sa_cons (T.tv (s_ty (n := "bool") rfl (g_bool Z) (by decide +kernel))) (sa_nil)) rfl))))))))
theorem okr__law_same_items (Z : Zs K mg hh) {P : Program} {w : World} {base : Heap} : ∀ k : Nat, FnOk P w K mg base (CX P w) (1 + k) (He.fAd K ("_law_same_items", none)) (fd__law_same_items Z) ["_law_actual", "_law_expected"] (spF K [false, false] (f__law_same_items k)) ∧ FnOk P w K mg base (CX P w) (1 + k) (He.fAd K ("_law_same", none)) (fd__law_same Z) ["_law_actual", "_law_expected"] (spF K [false, false] (f__law_same k))
  | 0 => by
    unfold f__law_same_items f__law_same
    exact ⟨fn_bad rfl, fn_bad rfl⟩
  | k + 1 => by
    obtain ⟨ih__law_same_items, ih__law_same⟩ := okr__law_same_items Z (P := P) (w := w) (base := base) k
    refine ⟨?_, ?_⟩
    · rw [f__law_same_items]
      refine fn_ok (k := 1 + k) (F__law_same_items Z) sc__law_same_items rfl fun cdv A outer s H E B vs hr => ?_
      have hu := hu_of hr
      exact b_cons (c_if (t_cmpV op_ne (rd_ne) (T.tv (s_len rfl (g_len Z) (sa_cons (s_look 0) (sa_nil)))) (TV.lit (T.tv (s_len rfl (g_len Z) (sa_cons (s_look 1) (sa_nil)))) rfl)) (b_one (c_ret (s_bl))) (b_nil))
          (b_cons (c_for (passes_of rfl) rfl (i_range1 rfl (g_range Z) (sa_cons (T.tv (s_len rfl (g_len Z) (sa_cons (s_look 1) (sa_nil)))) (sa_nil))) (g_set (i := 2) rfl (by first | exact Or.inl rfl | exact Or.inr rfl) sc__law_same_items.nd rfl rfl) (b_one (c_if (t_not (t_tru (T.tv (s_call (q := true) (ih__law_same) (hr.mono (by omega)) rfl (g__law_same Z) (F__law_same Z).kp (b__law_same Z) pass_c (k_val (TV.t (v_subs hu (s_look 0) (s_look 2))) (k_val (TV.t (v_subs hu (s_look 1) (s_look 2))) (k_nil))))))) (b_one (c_ret (s_bl))) (b_nil))))
          (b_one (c_ret (s_bl))))
    · rw [f__law_same]
      refine fn_ok (k := 1 + k) (F__law_same Z) sc__law_same rfl fun cdv A outer s H E B vs hr => ?_
      have hu := hu_of hr
      exact b_cons (c_if (t_isN (s_look 1)) (b_one (c_ret (s_isN (s_look 0)))) (b_nil))
          (b_cons (c_if (t_tru (T.tv (s_isi rfl (g_isinstance Z) (sa_cons (s_look 1) (TVa.lit (sa_cons (T.tv (s_ty (n := "bool") rfl (g_bool Z) (by decide +kernel))) (sa_nil)) rfl))))) (b_one (c_ret (s_and (s_isi rfl (g_isinstance Z) (sa_cons (s_look 0) (TVa.lit (sa_cons (T.tv (s_ty (n := "bool") rfl (g_bool Z) (by decide +kernel))) (sa_nil)) rfl))) (s_one (s_cmpV op_eq (rd_eq) (s_look 0) (s_look 1)))))) (b_nil))
          (b_cons (c_if (t_tru (T.tv (s_isi rfl (g_isinstance Z) (sa_cons (s_look 1) (TVa.lit (sa_cons (T.tv (s_ty (n := "int") rfl (g_int Z) (by decide +kernel))) (sa_nil)) rfl))))) (b_one (c_ret (s_and (s_call (q := true) (ok__law_is_integer Z) (hr.mono (by omega)) rfl (g__law_is_integer Z) (F__law_is_integer Z).kp (b__law_is_integer Z) pass_c (k_val (s_var 0) (k_nil))) (s_one (s_cmpV op_eq (rd_eq) (s_look 0) (s_look 1)))))) (b_nil))
          (b_cons (c_if (t_tru (T.tv (s_isi rfl (g_isinstance Z) (sa_cons (s_look 1) (TVa.lit (sa_cons (T.tv (s_ty (n := "str") rfl (g_str Z) (by decide +kernel))) (sa_nil)) rfl))))) (b_one (c_ret (s_and (s_isi rfl (g_isinstance Z) (sa_cons (s_look 0) (TVa.lit (sa_cons (T.tv (s_ty (n := "str") rfl (g_str Z) (by decide +kernel))) (sa_nil)) rfl))) (s_one (s_cmpV op_eq (rd_eq) (s_look 0) (s_look 1)))))) (b_nil))
          (b_cons (c_if (t_tru (T.tv (s_isi rfl (g_isinstance Z) (sa_cons (s_look 1) (TVa.lit (sa_cons (T.tv (s_ty (n := "tuple") rfl (g_tuple Z) (by decide +kernel))) (sa_nil)) rfl))))) (b_one (c_ret (s_and (s_isi rfl (g_isinstance Z) (sa_cons (s_look 0) (TVa.lit (sa_cons (T.tv (s_ty (n := "tuple") rfl (g_tuple Z) (by decide +kernel))) (sa_nil)) rfl))) (s_one (s_call (q := true) (ih__law_same_items) (hr.mono (by omega)) rfl (g__law_same_items Z) (F__law_same_items Z).kp (b__law_same_items Z) pass_c (k_val (s_var 0) (k_val (s_var 1) (k_nil)))))))) (b_nil))
          (b_cons (c_if (t_tru (T.tv (s_isi rfl (g_isinstance Z) (sa_cons (s_look 1) (TVa.lit (sa_cons (T.tv (s_ty (n := "list") rfl (g_list Z) (by decide +kernel))) (sa_nil)) rfl))))) (b_one (c_ret (s_and (s_isi rfl (g_isinstance Z) (sa_cons (s_look 0) (TVa.lit (sa_cons (T.tv (s_ty (n := "list") rfl (g_list Z) (by decide +kernel))) (sa_nil)) rfl))) (s_one (s_call (q := true) (ih__law_same_items) (hr.mono (by omega)) rfl (g__law_same_items Z) (F__law_same_items Z).kp (b__law_same_items Z) pass_c (k_val (s_var 0) (k_val (s_var 1) (k_nil)))))))) (b_nil))
          (b_cons (c_if (t_w (w_or (t_not (t_tru (T.tv (s_isi rfl (g_isinstance Z) (sa_cons (s_look 0) (TVa.lit (sa_cons (T.tv (s_ty (n := "dict") rfl (g_dict Z) (by decide +kernel))) (sa_nil)) rfl)))))) (w_or1 (t_cmpV op_ne (rd_ne) (T.tv (s_len rfl (g_len Z) (sa_cons (s_look 0) (sa_nil)))) (TV.lit (T.tv (s_len rfl (g_len Z) (sa_cons (s_look 1) (sa_nil)))) rfl))))) (b_one (c_ret (s_bl))) (b_nil))
          (b_cons (c_for (passes_of rfl) rfl (i_any (s_var 1)) (g_set (i := 2) rfl (by first | exact Or.inl rfl | exact Or.inr rfl) sc__law_same.nd rfl rfl) (b_one (c_if (t_w (w_or (t_cmpV op_notIn_seq (rd_inL) (s_look 2) (s_look 0)) (w_or1 (t_not (t_tru (T.tv (s_call (q := true) (ih__law_same) (hr.mono (by omega)) rfl (g__law_same Z) (F__law_same Z).kp (b__law_same Z) pass_c (k_val (TV.t (v_subs hu (s_look 0) (s_look 2))) (k_val (TV.t (v_subs hu (s_look 1) (s_look 2))) (k_nil)))))))))) (b_one (c_ret (s_bl))) (b_nil))))
          (b_cons (c_for (passes_of rfl) rfl (i_any (s_var 0)) (g_set (i := 2) rfl (by first | exact Or.inl rfl | exact Or.inr rfl) sc__law_same.nd rfl rfl) (b_one (c_if (t_tru (T.tv (s_isi rfl (g_isinstance Z) (sa_cons (s_look 2) (TVa.lit (sa_cons (T.tv (s_ty (n := "bool") rfl (g_bool Z) (by decide +kernel))) (sa_nil)) rfl))))) (b_one (c_ret (s_bl))) (b_nil))))
          (b_one (c_ret (s_bl)))))))))))

theorem ok__law_same_items (Z : Zs K mg hh) {P : Program} {w : World} {base : Heap} : FnOk P w K mg base (CX P w) 12 (He.fAd K ("_law_same_items", none)) (fd__law_same_items Z) ["_law_actual", "_law_expected"] (spF K [false, false] (f__law_same_items 11)) := (okr__law_same_items Z 11).1
theorem ok__law_same (Z : Zs K mg hh) {P : Program} {w : World} {base : Heap} : FnOk P w K mg base (CX P w) 12 (He.fAd K ("_law_same", none)) (fd__law_same Z) ["_law_actual", "_law_expected"] (spF K [false, false] (f__law_same 11)) := (okr__law_same_items Z 11).2
theorem ok__law_value_of (Z : Zs K mg hh) {P : Program} {w : World} {base : Heap} : FnOk P w K mg base (CX P w) 2 (He.fAd K ("_law_value_of", none)) (fd__law_value_of Z) ["_law_tape_here", "_law_field", "_law_names"] (spF K [true, false, false] f__law_value_of) := by
  refine fn_ok (F__law_value_of Z) sc__law_value_of rfl fun cdv A outer s H E B vs hr => ?_
  have hu := hu_of hr
  exact b_cons (c_set (i := 3) (s_call (q := false) (ok__law_take Z) (hr.mono (by decide)) rfl (g__law_take Z) (F__law_take Z).kp (b__law_take Z) pass_c (k_io 0 (k_val (s_int) (k_nil)))) rfl (by first | exact Or.inl rfl | exact Or.inr rfl) sc__law_value_of.nd rfl rfl)
          (b_cons (c_if (t_cmpV op_eq (rd_eq) (s_look 3) (T.tv (s_int))) (b_one (c_ret (s_tup (sh_cons (s_str) (sh_nil))))) (b_nil))
          (b_cons (c_if (t_cmpV op_eq (rd_eq) (s_look 3) (T.tv (s_int))) (b_one (c_ret (s_tup (sh_cons (s_str) (sh_cons (s_call (q := false) (ok__law_take Z) (hr.mono (by decide)) rfl (g__law_take Z) (F__law_take Z).kp (b__law_take Z) pass_c (k_io 0 (k_val (s_int) (k_nil)))) (sh_nil)))))) (b_nil))
          (b_cons (c_if (t_cmpV op_eq (rd_eq) (s_look 3) (T.tv (s_int))) (b_one (c_ret (s_tup (sh_cons (s_str) (sh_cons (s_ix (s_var 2) (T.tv (s_call (q := false) (ok__law_take Z) (hr.mono (by decide)) rfl (g__law_take Z) (F__law_take Z).kp (b__law_take Z) pass_c (k_io 0 (k_val (s_len rfl (g_len Z) (sa_cons (s_look 2) (sa_nil))) (k_nil)))))) (sh_cons (s_call (q := false) (ok__law_take Z) (hr.mono (by decide)) rfl (g__law_take Z) (F__law_take Z).kp (b__law_take Z) pass_c (k_io 0 (k_val (s_int) (k_nil)))) (sh_nil))))))) (b_nil))
          (b_cons (c_if (t_cmpV op_ltA (rd_lt) (s_look 3) (T.tv (s_int))) (b_one (c_ret (s_tup (sh_cons (s_str) (sh_cons (s_ix (s_var 2) (T.tv (s_call (q := false) (ok__law_take Z) (hr.mono (by decide)) rfl (g__law_take Z) (F__law_take Z).kp (b__law_take Z) pass_c (k_io 0 (k_val (s_len rfl (g_len Z) (sa_cons (s_look 2) (sa_nil))) (k_nil)))))) (sh_nil)))))) (b_nil))
          (b_one (c_ret (s_tup (sh_cons (s_str) (sh_cons (s_ix (s_lst (sh_cons (s_int) (sh_cons (s_int) (sh_cons (s_int) (sh_cons (s_int) (sh_nil)))))) (T.tv (s_call (q := false) (ok__law_take Z) (hr.mono (by decide)) rfl (g__law_take Z) (F__law_take Z).kp (b__law_take Z) pass_c (k_io 0 (k_val (s_int) (k_nil)))))) (sh_nil))))))))))
theorem ok__law_any_tree (Z : Zs K mg hh) {P : Program} {w : World} {base : Heap} : FnOk P w K mg base (CX P w) 3 (He.fAd K ("_law_any_tree", none)) (fd__law_any_tree Z) ["_law_tape_here"] (spF K [true] f__law_any_tree) := by
  refine fn_ok (F__law_any_tree Z) sc__law_any_tree rfl fun cdv A outer s H E B vs hr => ?_
  have hu := hu_of hr
  exact b_cons (c_set (i := 1) (s_lst (sh_cons (s_str) (sh_cons (s_str) (sh_cons (s_str) (sh_cons (s_str) (sh_cons (s_str) (sh_nil))))))) rfl (by first | exact Or.inl rfl | exact Or.inr rfl) sc__law_any_tree.nd rfl rfl)
          (b_cons (c_set (i := 2) (s_lst (sh_nil)) rfl (by first | exact Or.inl rfl | exact Or.inr rfl) sc__law_any_tree.nd rfl rfl)
          (b_cons (c_for (passes_of rfl) rfl (i_range1 rfl (g_range Z) (sa_cons (T.tv (s_call (q := false) (ok__law_take Z) (hr.mono (by decide)) rfl (g__law_take Z) (F__law_take Z).kp (b__law_take Z) pass_c (k_io 0 (k_val (s_int) (k_nil))))) (sa_nil))) (g_set (i := 3) rfl (by first | exact Or.inl rfl | exact Or.inr rfl) sc__law_any_tree.nd rfl rfl) (b_cons (c_set (i := 4) (s_lst (sh_nil)) rfl (by first | exact Or.inl rfl | exact Or.inr rfl) sc__law_any_tree.nd rfl rfl)
          (b_cons (c_for (passes_of rfl) rfl (i_range1 rfl (g_range Z) (sa_cons (T.tv (s_call (q := false) (ok__law_take Z) (hr.mono (by decide)) rfl (g__law_take Z) (F__law_take Z).kp (b__law_take Z) pass_c (k_io 0 (k_val (s_int) (k_nil))))) (sa_nil))) (g_set (i := 5) rfl (by first | exact Or.inl rfl | exact Or.inr rfl) sc__law_any_tree.nd rfl rfl) (b_cons (c_setLc (i := 7) (own := [("_law_word", 6)]) (i_any (s_lst (sh_cons (s_str) (sh_cons (s_str) (sh_cons (s_str) (sh_nil)))))) (blk_ok (by rfl)) (fun _ _ _ _ _ => gb_set (i := 6) rfl (by first | exact Or.inl rfl | exact Or.inr rfl) sc__law_any_tree.nd (by decide)) (fun _ _ _ _ _ => ts_one (t_cmpV op_eq (rd_eq) (T.tv (s_call (q := false) (ok__law_take Z) (hr.mono (by decide)) rfl (g__law_take Z) (F__law_take Z).kp (b__law_take Z) pass_0 (k_io 0 (k_val (s_int) (k_nil))))) (T.tv (s_int)))) (fun _ _ _ _ _ => s_var 6) rfl rfl sc__law_any_tree.nd rfl rfl (sw_true rfl rfl rfl rfl))
          (b_cons (c_set (i := 8) (s_ix (s_lst (sh_cons (s_str) (sh_cons (s_str) (sh_cons (s_str) (sh_cons (s_str) (sh_nil)))))) (T.tv (s_call (q := false) (ok__law_take Z) (hr.mono (by decide)) rfl (g__law_take Z) (F__law_take Z).kp (b__law_take Z) pass_c (k_io 0 (k_val (s_int) (k_nil)))))) rfl (by first | exact Or.inl rfl | exact Or.inr rfl) sc__law_any_tree.nd rfl rfl)
          (b_one (c_expr (s_bmW PySem.F.plainAttrs_list PySem.F.slot_list_append PySem.F.type_list_append mt_append wr_append (p_name 4) (Ta.lit (sh_cons (s_tup (sh_cons (s_ix (s_lst (sh_cons (s_str) (sh_cons (s_str) (sh_cons (s_str) (sh_nil))))) (T.tv (s_call (q := false) (ok__law_take Z) (hr.mono (by decide)) rfl (g__law_take Z) (F__law_take Z).kp (b__law_take Z) pass_c (k_io 0 (k_val (s_int) (k_nil)))))) (sh_cons (s_var 8) (sh_cons (s_tupC rfl (g_tuple Z) (s_move 7)) (sh_nil))))) (sh_nil)) rfl)))))))
          (b_one (c_expr (s_bmW PySem.F.plainAttrs_list PySem.F.slot_list_append PySem.F.type_list_append mt_append wr_append (p_name 2) (Ta.lit (sh_cons (s_tup (sh_cons (s_binV op_addT (rd_addT) (T.tv (s_str)) (TV.lit (T.tv (s_strC rfl (g_str Z) (sa_cons (s_look 3) (sa_nil)))) rfl)) (sh_cons (s_tupC rfl (g_tuple Z) (s_move 4)) (sh_nil)))) (sh_nil)) rfl)))))))
          (b_cons (c_set (i := 9) (s_lst (sh_nil)) rfl (by first | exact Or.inl rfl | exact Or.inr rfl) sc__law_any_tree.nd rfl rfl)
          (b_cons (c_for (passes_of rfl) rfl (i_range1 rfl (g_range Z) (sa_cons (T.tv (s_call (q := false) (ok__law_take Z) (hr.mono (by decide)) rfl (g__law_take Z) (F__law_take Z).kp (b__law_take Z) pass_c (k_io 0 (k_val (s_int) (k_nil))))) (sa_nil))) (g_set (i := 3) rfl (by first | exact Or.inl rfl | exact Or.inr rfl) sc__law_any_tree.nd rfl rfl) (b_cons (c_set (i := 10) (s_ix (s_frz 1) (T.tv (s_call (q := false) (ok__law_take Z) (hr.mono (by decide)) rfl (g__law_take Z) (F__law_take Z).kp (b__law_take Z) pass_c (k_io 0 (k_val (s_int) (k_nil)))))) rfl (by first | exact Or.inl rfl | exact Or.inr rfl) sc__law_any_tree.nd rfl rfl)
          (b_cons (c_set (i := 11) (s_call (q := false) (ok__law_take Z) (hr.mono (by decide)) rfl (g__law_take Z) (F__law_take Z).kp (b__law_take Z) pass_c (k_io 0 (k_val (s_int) (k_nil)))) rfl (by first | exact Or.inl rfl | exact Or.inr rfl) sc__law_any_tree.nd rfl rfl)
          (b_one (c_if (t_cmpV op_ltA (rd_lt) (s_look 11) (T.tv (s_int))) (b_cons (c_set (i := 12) (s_lst (sh_nil)) rfl (by first | exact Or.inl rfl | exact Or.inr rfl) sc__law_any_tree.nd rfl rfl)
          (b_cons (c_for (passes_of rfl) rfl (i_range1 rfl (g_range Z) (sa_cons (T.tv (s_call (q := false) (ok__law_take Z) (hr.mono (by decide)) rfl (g__law_take Z) (F__law_take Z).kp (b__law_take Z) pass_c (k_io 0 (k_val (s_int) (k_nil))))) (sa_nil))) (g_set (i := 5) rfl (by first | exact Or.inl rfl | exact Or.inr rfl) sc__law_any_tree.nd rfl rfl) (b_cons (c_set (i := 13) (s_ix (s_lst (sh_cons (s_str) (sh_cons (s_str) (sh_cons (s_str) (sh_nil))))) (T.tv (s_call (q := false) (ok__law_take Z) (hr.mono (by decide)) rfl (g__law_take Z) (F__law_take Z).kp (b__law_take Z) pass_c (k_io 0 (k_val (s_int) (k_nil)))))) rfl (by first | exact Or.inl rfl | exact Or.inr rfl) sc__law_any_tree.nd rfl rfl)
          (b_one (c_expr (s_bmW PySem.F.plainAttrs_list PySem.F.slot_list_append PySem.F.type_list_append mt_append wr_append (p_name 12) (Ta.lit (sh_cons (s_tup (sh_cons (s_var 13) (sh_cons (s_call (q := false) (ok__law_value_of Z) (hr.mono (by decide)) rfl (g__law_value_of Z) (F__law_value_of Z).kp (b__law_value_of Z) pass_c (k_io 0 (k_val (s_var 13) (k_bor 1 (k_nil))))) (sh_nil)))) (sh_nil)) rfl))))))
          (b_cons (c_set (i := 14) (s_ix (s_lst (sh_cons (s_non) (sh_cons (s_non) (sh_cons (s_int) (sh_cons (s_int) (sh_cons (s_int) (sh_nil))))))) (T.tv (s_call (q := false) (ok__law_take Z) (hr.mono (by decide)) rfl (g__law_take Z) (F__law_take Z).kp (b__law_take Z) pass_c (k_io 0 (k_val (s_int) (k_nil)))))) rfl (by first | exact Or.inl rfl | exact Or.inr rfl) sc__law_any_tree.nd rfl rfl)
          (b_one (c_expr (s_bmW PySem.F.plainAttrs_list PySem.F.slot_list_append PySem.F.type_list_append mt_append wr_append (p_name 9) (Ta.lit (sh_cons (s_tup (sh_cons (s_str) (sh_cons (s_var 10) (sh_cons (s_var 14) (sh_cons (s_bin op_addT (rd_addT) (s_str) (T.tv (s_strC rfl (g_str Z) (sa_cons (T.tv (s_call (q := false) (ok__law_take Z) (hr.mono (by decide)) rfl (g__law_take Z) (F__law_take Z).kp (b__law_take Z) pass_c (k_io 0 (k_val (s_int) (k_nil))))) (sa_nil))))) (sh_cons (s_tupC rfl (g_tuple Z) (s_move 12)) (sh_nil))))))) (sh_nil)) rfl))))))) (b_one (c_if (t_cmpV op_eq (rd_eq) (s_look 11) (T.tv (s_int))) (b_one (c_expr (s_bmW PySem.F.plainAttrs_list PySem.F.slot_list_append PySem.F.type_list_append mt_append wr_append (p_name 9) (Ta.lit (sh_cons (s_tup (sh_cons (s_str) (sh_cons (s_var 10) (sh_nil)))) (sh_nil)) rfl)))) (b_one (c_if (t_cmpV op_eq (rd_eq) (s_look 11) (T.tv (s_int))) (b_one (c_expr (s_bmW PySem.F.plainAttrs_list PySem.F.slot_list_append PySem.F.type_list_append mt_append wr_append (p_name 9) (Ta.lit (sh_cons (s_tup (sh_cons (s_str) (sh_cons (s_call (q := false) (ok__law_take Z) (hr.mono (by decide)) rfl (g__law_take Z) (F__law_take Z).kp (b__law_take Z) pass_c (k_io 0 (k_val (s_int) (k_nil)))) (sh_nil)))) (sh_nil)) rfl)))) (b_one (c_if (t_cmpV op_eq (rd_eq) (s_look 11) (T.tv (s_int))) (b_one (c_expr (s_bmW PySem.F.plainAttrs_list PySem.F.slot_list_append PySem.F.type_list_append mt_append wr_append (p_name 9) (Ta.lit (sh_cons (s_tup (sh_cons (s_str) (sh_cons (s_call (q := false) (ok__law_take Z) (hr.mono (by decide)) rfl (g__law_take Z) (F__law_take Z).kp (b__law_take Z) pass_c (k_io 0 (k_val (s_int) (k_nil)))) (sh_cons (s_var 10) (sh_nil))))) (sh_nil)) rfl)))) (b_one (c_expr (s_bmW PySem.F.plainAttrs_list PySem.F.slot_list_append PySem.F.type_list_append mt_append wr_append (p_name 9) (Ta.lit (sh_cons (s_tup (sh_cons (s_str) (sh_cons (s_var 10) (sh_cons (s_ix (s_frz 1) (T.tv (s_call (q := false) (ok__law_take Z) (hr.mono (by decide)) rfl (g__law_take Z) (F__law_take Z).kp (b__law_take Z) pass_c (k_io 0 (k_val (s_int) (k_nil)))))) (sh_nil))))) (sh_nil)) rfl)))))))))))))))
          (b_one (c_ret (s_tup (sh_cons (s_tupC rfl (g_tuple Z) (s_move 2)) (sh_cons (s_tupC rfl (g_tuple Z) (s_move 9)) (sh_nil))))))))))
theorem ok__law_name (Z : Zs K mg hh) {P : Program} {w : World} {base : Heap} : FnOk P w K mg base (CX P w) 1 (He.fAd K ("_law_name", none)) (fd__law_name Z) ["_law_name_here", "_law_number"] (spF K [false, false] f__law_name) := by
  refine fn_ok (F__law_name Z) sc__law_name rfl fun cdv A outer s H E B vs hr => ?_
  have hu := hu_of hr
  exact b_one (c_ret (s_bmS PySem.F.plainAttrs_str PySem.F.slot_str_join PySem.F.type_str_join mt_join (by decide) (fun _ _ _ _ _ _ _ _ G r h => tyV_str G r h) rd_join (T.tv (s_str)) (TVa.lit (sa_cons (T.tv (s_lc (own := [("_law_char", 2)]) rfl sc__law_name.nd (i_any (s_var 0)) (blk_ok (by rfl)) (fun _ _ _ _ _ => gb_set (i := 2) rfl (by first | exact Or.inl rfl | exact Or.inr rfl) sc__law_name.nd (by decide)) (fun _ _ _ _ _ => ts_nil (E := E0)) (fun _ _ _ _ _ => s_ite (t_cmpV op_eq (rd_eq) (s_look 2) (T.tv (s_str))) (T.lit (p2 := true) (s_strC rfl (g_str Z) (sa_cons (s_look 1) (sa_nil))) rfl) (s_var 2)))) (sa_nil)) rfl)))
theorem ok__law_copy_of (Z : Zs K mg hh) {P : Program} {w : World} {base : Heap} : FnOk P w K mg base (CX P w) 2 (He.fAd K ("_law_copy_of", none)) (fd__law_copy_of Z) ["_law_value", "_law_number"] (spF K [false, false] f__law_copy_of) := by
  refine fn_ok (F__law_copy_of Z) sc__law_copy_of rfl fun cdv A outer s H E B vs hr => ?_
  have hu := hu_of hr
  exact b_cons (c_if (t_cmpV op_eq (rd_eq) (v_subs hu (s_look 0) (T.tv (s_int))) (T.tv (s_str))) (b_one (c_ret (s_tup (sh_cons (s_str) (sh_cons (s_binV op_modN (rd_I cNz_ok) (T.tv (s_intC rfl (g_int Z) (sa_cons (T.tv (s_binV op_addT (rd_addT) (v_subs hu (s_look 0) (T.tv (s_int))) (s_look 1))) (sa_nil)))) (T.tv (s_int))) (sh_nil)))))) (b_nil))
          (b_cons (c_if (t_cmpV op_in_seq (rd_inL) (v_subs hu (s_look 0) (T.tv (s_int))) (TV.lit (T.tv (s_lst (sh_cons (s_str) (sh_cons (s_str) (sh_nil))))) rfl)) (b_one (c_ret (s_binV op_addT (rd_addT) (T.tv (s_tup (sh_cons (TV.t (v_subs hu (s_look 0) (T.tv (s_int)))) (sh_cons (s_call (q := true) (ok__law_name Z) (hr.mono (by decide)) rfl (g__law_name Z) (F__law_name Z).kp (b__law_name Z) pass_c (k_val (TV.t (v_subs hu (s_look 0) (T.tv (s_int)))) (k_val (s_var 1) (k_nil)))) (sh_nil))))) (TV.lit (T.tv (s_sl (s_look 0) (TOp.lit (o_some (T.tv (s_int))) rfl) (o_none))) rfl)))) (b_nil))
          (b_one (c_ret (s_var 0))))
theorem ok_law (Z : Zs K mg hh) {P : Program} {w : World} {base : Heap} : FnOk P w K mg base (CX P w) 13 (He.fAd K ("law", none)) (fd_law Z) ["_law_script"] (spF K [false] f_law) := by
  refine fn_ok (F_law Z) sc_law rfl fun cdv A outer s H E B vs hr => ?_
  have hu := hu_of hr
  exact b_cons (c_set (i := 1) (s_call (q := true) (ok__law_tape Z) (hr.mono (by decide)) rfl (g__law_tape Z) (F__law_tape Z).kp (b__law_tape Z) pass_c (k_val (s_var 0) (k_nil))) rfl (by first | exact Or.inl rfl | exact Or.inr rfl) sc_law.nd rfl rfl)
          (b_cons (c_set (i := 2) (s_call (q := false) (ok__law_any_tree Z) (hr.mono (by decide)) rfl (g__law_any_tree Z) (F__law_any_tree Z).kp (b__law_any_tree Z) pass_c (k_io 1 (k_nil))) rfl (by first | exact Or.inl rfl | exact Or.inr rfl) sc_law.nd rfl rfl)
          (b_cons (c_set (i := 3) (s_lst (sh_nil)) rfl (by first | exact Or.inl rfl | exact Or.inr rfl) sc_law.nd rfl rfl)
          (b_cons (c_for (passes_of rfl) rfl (i_any (TV.t (v_subs hu (s_look 2) (T.tv (s_int))))) (g_set (i := 4) rfl (by first | exact Or.inl rfl | exact Or.inr rfl) sc_law.nd rfl rfl) (b_one (c_if (t_w (w_and (t_cmpV op_eq (rd_eq) (v_subs hu (s_look 4) (T.tv (s_int))) (T.tv (s_str))) (w_and1 (t_isN (v_subs hu (s_look 4) (T.tv (s_int))))))) (b_one (c_expr (s_bmW PySem.F.plainAttrs_list PySem.F.slot_list_append PySem.F.type_list_append mt_append wr_append (p_name 3) (Ta.lit (sh_cons (s_tup (sh_cons (TV.t (v_subs hu (s_look 4) (T.tv (s_int)))) (sh_cons (TV.t (v_subs hu (s_look 4) (T.tv (s_int)))) (sh_cons (TV.t (v_subs hu (s_look 4) (T.tv (s_int)))) (sh_nil))))) (sh_nil)) rfl)))) (b_one (c_if (t_cmpV op_eq (rd_eq) (v_subs hu (s_look 4) (T.tv (s_int))) (T.tv (s_str))) (b_one (c_for (passes_of rfl) rfl (i_range1 rfl (g_range Z) (sa_cons (v_subs hu (s_look 4) (T.tv (s_int))) (sa_nil))) (g_set (i := 5) rfl (by first | exact Or.inl rfl | exact Or.inr rfl) sc_law.nd rfl rfl) (b_cons (c_set (i := 8) (s_tupC rfl (g_tuple Z) (s_lc (own := [("_law_field", 6), ("_law_value", 7)]) rfl sc_law.nd (i_any (TV.t (v_subs hu (s_look 4) (T.tv (s_int))))) (blk_ok (by rfl)) (fun _ _ _ _ _ => gb_tup rfl (gbs_cons (gb_set (i := 6) rfl (by first | exact Or.inl rfl | exact Or.inr rfl) sc_law.nd (by decide)) (gbs_cons (gb_set (i := 7) rfl (by first | exact Or.inl rfl | exact Or.inr rfl) sc_law.nd (by decide)) (gbs_nil)))) (fun _ _ _ _ _ => ts_nil (E := E0)) (fun _ _ _ _ _ => s_tup (sh_cons (s_var 6) (sh_cons (s_call (q := true) (ok__law_copy_of Z) (hr.mono (by decide)) rfl (g__law_copy_of Z) (F__law_copy_of Z).kp (b__law_copy_of Z) pass_0 (k_val (s_var 7) (k_val (s_var 5) (k_nil)))) (sh_nil)))))) rfl (by first | exact Or.inl rfl | exact Or.inr rfl) sc_law.nd rfl rfl)
          (b_one (c_expr (s_bmW PySem.F.plainAttrs_list PySem.F.slot_list_append PySem.F.type_list_append mt_append wr_append (p_name 3) (Ta.lit (sh_cons (s_tup (sh_cons (s_binV op_addT (rd_addT) (T.tv (s_binV op_addT (rd_addT) (v_subs hu (s_look 4) (T.tv (s_int))) (T.tv (s_str)))) (TV.lit (T.tv (s_strC rfl (g_str Z) (sa_cons (s_look 5) (sa_nil)))) rfl)) (sh_cons (TV.t (v_subs hu (s_look 4) (T.tv (s_int)))) (sh_cons (s_var 8) (sh_nil))))) (sh_nil)) rfl))))))) (b_nil))))))
          (b_one (c_ret (s_call (q := true) (ok__law_same Z) (hr.mono (by decide)) rfl (g__law_same Z) (F__law_same Z).kp (b__law_same Z) pass_c (k_val (s_call (q := true) (ok_written_out Z) (hr.mono (by decide)) rfl (g_written_out Z) (F_written_out Z).kp (b_written_out Z) pass_c (k_val (s_var 2) (k_nil))) (k_val (s_tupC rfl (g_tuple Z) (s_move 3)) (k_nil)))))))))
end
end Pf

namespace Pf
open PySem PySem.Spec PyProof.Rows L2 Sm
def names0 : List PySem.Str := ["SIZE", "with_number", "value_of_copy", "written_out", "_law_tape", "_law_take", "_law_is_integer", "_law_same_items", "_law_same", "_law_letter", "_law_digit", "_law_stretch", "_law_tokens", "_law_scraps", "_law_value_of", "_law_any_tree", "_law_put", "_law_put_all", "_law_words", "_law_put_tree", "_law_name", "_law_copy_of"]
def names : List PySem.Str := names0
abbrev R : PySem.W.OpenRow := PySem.W.OpenLaw.row PySem.Challenge.rw_settledland_k04_things_written_out
abbrev hk : PySem.W.Hook := He.hookX 4 fa fn [] [] ex
def ob (s : PySem.W.SharedT) : He.AlX := He.obsX 4 fa fn [] [] ex (HandSHeadRun.getT s)
theorem ob_eq (s : PySem.W.SharedT) : ob s = hk.obs s.abs := He.obsX_eq (HandSHeadRun.getT_eq s)
theorem headrun (w : World) : HandSHeadRun.RunEq R (PySem.W.view R.prog [24]) hk ob 20000 names w := by
  intro os
  kernel_rfl
theorem zs_of {K : PySem.W.Frag} {mg : Str → Option Value} {hh : Heap} {w : World} (x : K.In hh) (g : hh.Ns mainGlobals mg) (c : He.SaysX fa fn [] [] ex w hh K) : Zs K mg hh := by
  exact ⟨x, g, c.t.d⟩
end Pf

open PySem PySem.W PySem.Calls PyProof.Rows
theorem PySem.Challenge.cw_settledland_k04_things_written_out_holds : PySem.Challenge.rw_settledland_k04_things_written_out.Holds := by
  w_on; o_law
  refine HandSHeadRun.head_any (r := Pf.R) (q := view Pf.R.prog [24]) (H := Pf.hk) (ob := Pf.ob) (M := 20000) (loose := Pf.names) (d := HandSHeadRun.topDef Pf.R.prog 24) (kwd := []) Pf.ob_eq
    (by kernel_rfl) (fun s => by kernel_rfl) Pf.headrun (by kernel_rfl) (by kernel_rfl) (by kernel_rfl) (by rfl) (by first | assumption | decide +kernel) (by decide +kernel) ⟨rfl, rfl, rfl, rfl, rfl, by decide +kernel⟩ ?hw ?hc
  case hw => w_witness2
  case hc =>
    refine Sm.walk_E (l := PySem.Challenge.rw_settledland_k04_things_written_out) (n := 63) (k := 13) (x := "_law_script") rfl (by decide) (by kernel_rfl) ⟨rfl, by decide, by decide⟩ ?F
    intro w mg fa h Y G hmg0
    obtain ⟨K, KX, c⟩ := Y
    have hmg : mg ("law" : PySem.Str) = some (.ref fa) := by
      have e : (HandSHeadRun.topDef Pf.R.prog 24).name = ("law" : PySem.Str) := by kernel_rfl
      rw [← e]
      exact hmg0
    have Z : Pf.Zs K mg h := Pf.zs_of KX G c
    have e := hmg.symm.trans (Pf.g_law Z)
    cases e
    refine ⟨K, Pf.fd_law Z, Pf.f_law, KX, fun s v => (L2.FunD.bindsA (ps := ["_law_script"]) (Pf.F_law Z) fun _ _ _ _ _ _ us hl => match us, hl with | [_], _ => rfl) s [v] rfl, fun ns hl _ => Pf.law_ok ns hl, fun base _ _ => Pf.ok_law Z⟩

